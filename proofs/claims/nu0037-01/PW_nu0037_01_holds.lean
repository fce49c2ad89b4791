import PyProof.Rows.All
import Wide.All
import OpenK.AllK
import Wide.FinOn
import KE.KItem
import KE.KSortTup
import PySem.Challenge.RW_nu0037_01
set_option Elab.async false
set_option linter.all false
set_option autoImplicit true
set_option maxRecDepth 8000
namespace Mine.Internal
section
open PyProof.Rows PySem PySem.Calls PySem.W
set_option maxRecDepth 100000
set_option maxHeartbeats 0
noncomputable abbrev pw:=PySem.Challenge.pw_nu0037_01
noncomputable abbrev UM:=PySem.W.Fast.tw10156331382660048174
noncomputable abbrev IY:=PySem.W.Fast.tw14364793385576792824
noncomputable abbrev IZ:=PySem.W.Fast.tw11892475500146522536
noncomputable abbrev L8:=PySem.W.Fast.tw14789777615569096658
noncomputable abbrev L9:=PySem.W.Fast.tw10274390034422433532
noncomputable abbrev L':=PySem.W.Fast.tw14289696077712309145
noncomputable abbrev I0:=PySem.W.Fast.tw1435165496053646825
noncomputable def pg:List Obj→BT→Nat→Option BT
 |[],t,_=>some t
 |o::os,t,n=>match((t.ins n o).get n).isSome with
  |true=>pg os (t.ins n o) (n+1)
  |false=>none
noncomputable def toT(s:Shared):Option SharedT:=(pg s.heap.objs.toList .nil 0).map fun t=>⟨t,s.heap.objs.toList.length,s.heap.life,s.gens,s.drawn,s.toks,s.os⟩
noncomputable def TQ(w:World)(rA:Nat)(ann:Option Value):Nat→SharedT→Thread→Option SharedT
 |0,_,_=>none
 |n+1,s,t=>match through t with
  |true=>some s
  |false=>match stepOk rA ann t with
   |false=>none
   |true=>match UM (IZ IY) pw w s t with
    |some (s',t')=>TQ w rA ann n s' t'
    |none=>none
noncomputable def Ma(w:World):Option (SharedT×Thread):=(toT (I0 (opening pw)).1).bind fun s=>L8 IY (opening pw) w 390 s (I0 (opening pw)).2
noncomputable def Mb(w:World):Option Shared:=(Ma w).bind fun(s,t)=>L9 IY (opening pw) w 1 s.abs t
noncomputable def runC(w:World):Option Shared:=(Mb w).bind fun s=>L' pw s
noncomputable def DY(N:Nat)(w:World):Option SharedT:=(runC w).bind fun s=>(toT s).bind fun t=>TQ w s.heap.objs.size (s.heap.nsMap mainGlobals "__annotations__") N t (topStub pw)
noncomputable def vw:Program:=view pw [0,2,3,4,6,8,9,10,11,13,14,16,17,18,20,21,22,23,24,26,27,28,30,31,32,33,34,35,36,37,38,40,41,42,44,46,47,48,49,51,52,53,55,56,57,58,59,60,61,62,63,64,65,67,69,71,72,73,74,75,76,77,78,79,80]
noncomputable abbrev opQ:=PySem.W.Fast.tw4187177175401517315
noncomputable def DZ:List Str:=[Str.ofString "sides_of"]
noncomputable def xt(s:Shared):Bool:=xlAt vw [] s&&recOk [] s
noncomputable def Md(w:World):Option Bool:=(runC w).bind fun s0=>(DY 6000 w).map fun t=>s0.heap.isNs mainGlobals&&s0.gens.size==0&&(staticsOk (importedModules pw.main.body) s0.heap t.abs.heap&&namesBound pw t.abs.heap&&gensDone t.abs&&laidKept s0.heap t.abs.heap)
theorem UN:PySem.Challenge.rw_nu0037_01.wellSaid=true:=by kernel_rfl
theorem Mf(w:World):Md w=some true:=by kernel_rfl
theorem Mg(w:World):((DY 6000 w).map fun t=>opQ vw DZ (importedModules pw.main.body) xt true t.abs)=some (openGood vw DZ):=by kernel_rfl
end
section
theorem jZ{P0 P1 P2 G:Prop}(h:P0∧P1∧P2)(f:P0→P1→P2→G):G:=f h.1 h.2.1 h.2.2
theorem zp{P0 P1 P2 P3 G:Prop}(h:P0∧P1∧P2∧P3)(f:P0→P1→P2→P3→G):G:=f h.1 h.2.1 h.2.2.1 h.2.2.2
theorem Mh{P0 P1 P2 P3 P4 G:Prop}(h:P0∧P1∧P2∧P3∧P4)(f:P0→P1→P2→P3→P4→G):G:=f h.1 h.2.1 h.2.2.1 h.2.2.2.1 h.2.2.2.2
theorem I3{P0 P1 P2 P3 P4 P5 G:Prop}(h:P0∧P1∧P2∧P3∧P4∧P5)(f:P0→P1→P2→P3→P4→P5→G):G:=f h.1 h.2.1 h.2.2.1 h.2.2.2.1 h.2.2.2.2.1 h.2.2.2.2.2
theorem zq{P3 P4:α1→Prop}{G:Prop}(h:P0∧P1∧P2∧(∃x1:α1,P3 x1∧P4 x1))(f:P0→P1→P2→∀x1:α1,P3 x1→P4 x1→G):G:=(h.2.2.2).elim fun x1 q1=>f h.1 h.2.1 h.2.2.1 x1 q1.1 q1.2
theorem Mi{P2 P3:α1→Prop}{G:Prop}(h:P0∧P1∧(∃x1:α1,P2 x1∧P3 x1))(f:P0→P1→∀x1:α1,P2 x1→P3 x1→G):G:=(h.2.2).elim fun x1 q1=>f h.1 h.2.1 x1 q1.1 q1.2
theorem D0{P2 P3 P4 P5:α1→Prop}{G:Prop}(h:P0∧P1∧(∃x1:α1,P2 x1∧P3 x1∧P4 x1∧P5 x1))(f:P0→P1→∀x1:α1,P2 x1→P3 x1→P4 x1→P5 x1→G):G:=(h.2.2).elim fun x1 q1=>f h.1 h.2.1 x1 q1.1 q1.2.1 q1.2.2.1 q1.2.2.2
theorem Mj{P1 P2:α1→Prop}{G:Prop}(h:P0∧(∃x1:α1,P1 x1∧P2 x1))(f:P0→∀x1:α1,P1 x1→P2 x1→G):G:=(h.2).elim fun x1 q1=>f h.1 x1 q1.1 q1.2
theorem b9{α1:Type}{P0 P1:α1→Prop}{G:Prop}(h:∃x1:α1,P0 x1∧P1 x1)(f:∀x1:α1,P0 x1→P1 x1→G):G:=h.elim fun x1 q1=>f x1 q1.1 q1.2
theorem zr{α1:Type}{P0 P1 P2:α1→Prop}{G:Prop}(h:∃x1:α1,P0 x1∧P1 x1∧P2 x1)(f:∀x1:α1,P0 x1→P1 x1→P2 x1→G):G:=h.elim fun x1 q1=>f x1 q1.1 q1.2.1 q1.2.2
theorem zt{P0 P1 P2 P3:α1→Prop}{G:Prop}(h:∃x1:α1,P0 x1∧P1 x1∧P2 x1∧P3 x1)(f:∀x1:α1,P0 x1→P1 x1→P2 x1→P3 x1→G):G:=h.elim fun x1 q1=>f x1 q1.1 q1.2.1 q1.2.2.1 q1.2.2.2
theorem I4{P0 P1 P2 P3 P4:α1→Prop}{G:Prop}(h:∃x1:α1,P0 x1∧P1 x1∧P2 x1∧P3 x1∧P4 x1)(f:∀x1:α1,P0 x1→P1 x1→P2 x1→P3 x1→P4 x1→G):G:=h.elim fun x1 q1=>f x1 q1.1 q1.2.1 q1.2.2.1 q1.2.2.2.1 q1.2.2.2.2
theorem I5{α1 α2:Type}{P0 P1:α1→Prop}{P2 P3:α1→α2→Prop}{G:Prop}(h:∃x1:α1,P0 x1∧P1 x1∧(∃x2:α2,P2 x1 x2∧P3 x1 x2))(f:∀x1:α1,P0 x1→P1 x1→∀x2:α2,P2 x1 x2→P3 x1 x2→G):G:=h.elim fun x1 q1=>(q1.2.2).elim fun x2 q2=>f x1 q1.1 q1.2.1 x2 q2.1 q2.2
theorem Ml{α1 α2:Type}{P0:α1→Prop}{P1 P2:α1→α2→Prop}{G:Prop}(h:∃x1:α1,P0 x1∧(∃x2:α2,P1 x1 x2∧P2 x1 x2))(f:∀x1:α1,P0 x1→∀x2:α2,P1 x1 x2→P2 x1 x2→G):G:=h.elim fun x1 q1=>(q1.2).elim fun x2 q2=>f x1 q1.1 x2 q2.1 q2.2
theorem I6{α1 α2 α3:Type}{P0:α1→Prop}{P1 P2:α1→α2→α3→Prop}{G:Prop}(h:∃x1:α1,P0 x1∧(∃x2:α2,∃x3:α3,P1 x1 x2 x3∧P2 x1 x2 x3))(f:∀x1:α1,P0 x1→∀x2:α2,∀x3:α3,P1 x1 x2 x3→P2 x1 x2 x3→G):G:=h.elim fun x1 q1=>(q1.2).elim fun x2 q2=>q2.elim fun x3 q3=>f x1 q1.1 x2 x3 q3.1 q3.2
theorem TS{α1 α2 α3 α4:Type}{P0:α1→Prop}{P1 P2:α1→α2→α3→α4→Prop}{G:Prop}(h:∃x1:α1,P0 x1∧(∃x2:α2,∃x3:α3,∃x4:α4,P1 x1 x2 x3 x4∧P2 x1 x2 x3 x4))(f:∀x1:α1,P0 x1→∀x2:α2,∀x3:α3,∀x4:α4,P1 x1 x2 x3 x4→P2 x1 x2 x3 x4→G):G:=h.elim fun x1 q1=>(q1.2).elim fun x2 q2=>q2.elim fun x3 q3=>q3.elim fun x4 q4=>f x1 q1.1 x2 x3 x4 q4.1 q4.2
theorem Hq{α1 α2:Type}{P0:α1→α2→Prop}{G:Prop}(h:∃x1:α1,∃x2:α2,P0 x1 x2)(f:∀x1:α1,∀x2:α2,P0 x1 x2→G):G:=h.elim fun x1 q1=>q1.elim fun x2 q2=>f x1 x2 q2
theorem xl{α1 α2:Type}{P0 P1:α1→α2→Prop}{G:Prop}(h:∃x1:α1,∃x2:α2,P0 x1 x2∧P1 x1 x2)(f:∀x1:α1,∀x2:α2,P0 x1 x2→P1 x1 x2→G):G:=h.elim fun x1 q1=>q1.elim fun x2 q2=>f x1 x2 q2.1 q2.2
theorem Mm{α1 α2:Type}{P0 P1 P2:α1→α2→Prop}{G:Prop}(h:∃x1:α1,∃x2:α2,P0 x1 x2∧P1 x1 x2∧P2 x1 x2)(f:∀x1:α1,∀x2:α2,P0 x1 x2→P1 x1 x2→P2 x1 x2→G):G:=h.elim fun x1 q1=>q1.elim fun x2 q2=>f x1 x2 q2.1 q2.2.1 q2.2.2
theorem tW{α1 α2:Type}{P0 P1 P2 P3:α1→α2→Prop}{G:Prop}(h:∃x1:α1,∃x2:α2,P0 x1 x2∧P1 x1 x2∧P2 x1 x2∧P3 x1 x2)(f:∀x1:α1,∀x2:α2,P0 x1 x2→P1 x1 x2→P2 x1 x2→P3 x1 x2→G):G:=h.elim fun x1 q1=>q1.elim fun x2 q2=>f x1 x2 q2.1 q2.2.1 q2.2.2.1 q2.2.2.2
theorem cK{α1 α2:Type}{P0 P1 P2 P3 P4:α1→α2→Prop}{G:Prop}(h:∃x1:α1,∃x2:α2,P0 x1 x2∧P1 x1 x2∧P2 x1 x2∧P3 x1 x2∧P4 x1 x2)(f:∀x1:α1,∀x2:α2,P0 x1 x2→P1 x1 x2→P2 x1 x2→P3 x1 x2→P4 x1 x2→G):G:=h.elim fun x1 q1=>q1.elim fun x2 q2=>f x1 x2 q2.1 q2.2.1 q2.2.2.1 q2.2.2.2.1 q2.2.2.2.2
theorem UO{α1 α2 α3:Type}{P0:α1→α2→Prop}{P1 P2:α1→α2→α3→Prop}{G:Prop}(h:∃x1:α1,∃x2:α2,P0 x1 x2∧(∃x3:α3,P1 x1 x2 x3∧P2 x1 x2 x3))(f:∀x1:α1,∀x2:α2,P0 x1 x2→∀x3:α3,P1 x1 x2 x3→P2 x1 x2 x3→G):G:=h.elim fun x1 q1=>q1.elim fun x2 q2=>(q2.2).elim fun x3 q3=>f x1 x2 q2.1 x3 q3.1 q3.2
theorem TU{α1 α2 α3 α4:Type}{P0:α1→α2→Prop}{P1 P2:α1→α2→α3→α4→Prop}{G:Prop}(h:∃x1:α1,∃x2:α2,P0 x1 x2∧(∃x3:α3,∃x4:α4,P1 x1 x2 x3 x4∧P2 x1 x2 x3 x4))(f:∀x1:α1,∀x2:α2,P0 x1 x2→∀x3:α3,∀x4:α4,P1 x1 x2 x3 x4→P2 x1 x2 x3 x4→G):G:=h.elim fun x1 q1=>q1.elim fun x2 q2=>(q2.2).elim fun x3 q3=>q3.elim fun x4 q4=>f x1 x2 q2.1 x3 x4 q4.1 q4.2
theorem UP{α1 α2 α3:Type}{P0:α1→α2→α3→Prop}{G:Prop}(h:∃x1:α1,∃x2:α2,∃x3:α3,P0 x1 x2 x3)(f:∀x1:α1,∀x2:α2,∀x3:α3,P0 x1 x2 x3→G):G:=h.elim fun x1 q1=>q1.elim fun x2 q2=>q2.elim fun x3 q3=>f x1 x2 x3 q3
theorem Mp{α1 α2 α3:Type}{P0 P1:α1→α2→α3→Prop}{G:Prop}(h:∃x1:α1,∃x2:α2,∃x3:α3,P0 x1 x2 x3∧P1 x1 x2 x3)(f:∀x1:α1,∀x2:α2,∀x3:α3,P0 x1 x2 x3→P1 x1 x2 x3→G):G:=h.elim fun x1 q1=>q1.elim fun x2 q2=>q2.elim fun x3 q3=>f x1 x2 x3 q3.1 q3.2
theorem I7{α1 α2 α3:Type}{P0 P1 P2:α1→α2→α3→Prop}{G:Prop}(h:∃x1:α1,∃x2:α2,∃x3:α3,P0 x1 x2 x3∧P1 x1 x2 x3∧P2 x1 x2 x3)(f:∀x1:α1,∀x2:α2,∀x3:α3,P0 x1 x2 x3→P1 x1 x2 x3→P2 x1 x2 x3→G):G:=h.elim fun x1 q1=>q1.elim fun x2 q2=>q2.elim fun x3 q3=>f x1 x2 x3 q3.1 q3.2.1 q3.2.2
theorem TV{α1 α2 α3:Type}{P0 P1 P2 P3:α1→α2→α3→Prop}{G:Prop}(h:∃x1:α1,∃x2:α2,∃x3:α3,P0 x1 x2 x3∧P1 x1 x2 x3∧P2 x1 x2 x3∧P3 x1 x2 x3)(f:∀x1:α1,∀x2:α2,∀x3:α3,P0 x1 x2 x3→P1 x1 x2 x3→P2 x1 x2 x3→P3 x1 x2 x3→G):G:=h.elim fun x1 q1=>q1.elim fun x2 q2=>q2.elim fun x3 q3=>f x1 x2 x3 q3.1 q3.2.1 q3.2.2.1 q3.2.2.2
theorem vg{α1 α2 α3 α4:Type}{P0:α1→α2→α3→α4→Prop}{G:Prop}(h:∃x1:α1,∃x2:α2,∃x3:α3,∃x4:α4,P0 x1 x2 x3 x4)(f:∀x1:α1,∀x2:α2,∀x3:α3,∀x4:α4,P0 x1 x2 x3 x4→G):G:=h.elim fun x1 q1=>q1.elim fun x2 q2=>q2.elim fun x3 q3=>q3.elim fun x4 q4=>f x1 x2 x3 x4 q4
theorem vh{α1 α2 α3 α4:Type}{P0 P1 P2:α1→α2→α3→α4→Prop}{G:Prop}(h:∃x1:α1,∃x2:α2,∃x3:α3,∃x4:α4,P0 x1 x2 x3 x4∧P1 x1 x2 x3 x4∧P2 x1 x2 x3 x4)(f:∀x1:α1,∀x2:α2,∀x3:α3,∀x4:α4,P0 x1 x2 x3 x4→P1 x1 x2 x3 x4→P2 x1 x2 x3 x4→G):G:=h.elim fun x1 q1=>q1.elim fun x2 q2=>q2.elim fun x3 q3=>q3.elim fun x4 q4=>f x1 x2 x3 x4 q4.1 q4.2.1 q4.2.2
theorem I8{α1 α2 α3 α4 α5:Type}{P0:α1→α2→α3→α4→α5→Prop}{G:Prop}(h:∃x1:α1,∃x2:α2,∃x3:α3,∃x4:α4,∃x5:α5,P0 x1 x2 x3 x4 x5)(f:∀x1:α1,∀x2:α2,∀x3:α3,∀x4:α4,∀x5:α5,P0 x1 x2 x3 x4 x5→G):G:=h.elim fun x1 q1=>q1.elim fun x2 q2=>q2.elim fun x3 q3=>q3.elim fun x4 q4=>q4.elim fun x5 q5=>f x1 x2 x3 x4 x5 q5
theorem TX{α1 α2 α3 α4 α5 α6:Type}{P0:α1→α2→α3→α4→α5→α6→Prop}{G:Prop}(h:∃x1:α1,∃x2:α2,∃x3:α3,∃x4:α4,∃x5:α5,∃x6:α6,P0 x1 x2 x3 x4 x5 x6)(f:∀x1:α1,∀x2:α2,∀x3:α3,∀x4:α4,∀x5:α5,∀x6:α6,P0 x1 x2 x3 x4 x5 x6→G):G:=h.elim fun x1 q1=>q1.elim fun x2 q2=>q2.elim fun x3 q3=>q3.elim fun x4 q4=>q4.elim fun x5 q5=>q5.elim fun x6 q6=>f x1 x2 x3 x4 x5 x6 q6
end
section
variable{α β γ δ:Type}{G:Prop}
theorem bO{f:α→Option δ}(h:o.bind f=some c)(k:∀a,o=some a→f a=some c→G):G:=match o,h,k with|some a,h,k=>k a rfl h
theorem bP{o:Option (α×β)}(h:o.bind f=some c)(k:∀a b,o=some (a,b)→f (a,b)=some c→G):G:=match o,h,k with|some (a,b),h,k=>k a b rfl h
theorem bT{o:Option (α×β×γ)}(h:o.bind f=some c)(k:∀a b d,o=some (a,b,d)→f (a,b,d)=some c→G):G:=match o,h,k with|some (a,b,d),h,k=>k a b d rfl h
theorem mO{f:α→δ}(h:o.map f=some c)(k:∀a,o=some a→f a=c→G):G:=match o,h,k with|some a,h,k=>k a rfl (Option.some.inj h)
theorem mP{o:Option (α×β)}(h:o.map f=some c)(k:∀a b,o=some (a,b)→f (a,b)=c→G):G:=match o,h,k with|some (a,b),h,k=>k a b rfl (Option.some.inj h)
theorem mT{o:Option (α×β×γ)}(h:o.map f=some c)(k:∀a b d,o=some (a,b,d)→f (a,b,d)=c→G):G:=match o,h,k with|some (a,b,d),h,k=>k a b d rfl (Option.some.inj h)
end
section
variable{α β γ δ:Type}{G:Prop}
variable{c:Prop}[i:Decidable c]
theorem dk{o:Option α}{r:α}(h:(if c then o else none)=some r)(k:c→o=some r→G):G:=match i,h with|.isTrue q,h=>k q h
theorem tX{o:Option α}{r:α}(h:(if c then none else o)=some r)(k:¬c→o=some r→G):G:=match i,h with|.isFalse q,h=>k q h
theorem xm{a b r:α}(h:(if c then a else b)=r)(k1:c→a=r→G)(k2:¬c→b=r→G):G:=match i,h with|.isTrue q,h=>k1 q h|.isFalse q,h=>k2 q h
end
section
theorem nL{a d p:Nat}(h1:a≤p)(h2:p≤a+d):a+(d - (d+a - p))=p:=by
 obtain⟨k,rfl⟩:=Nat.exists_eq_add_of_le h1;obtain⟨j,rfl⟩:=Nat.exists_eq_add_of_le (Nat.le_of_add_le_add_left h2);rw[Nat.add_comm (k+j) a,←Nat.add_assoc,Nat.add_sub_cancel_left,Nat.add_sub_cancel]
theorem nS{i a d v:Nat}(h2:a≤v+d)(h3:d≤a)(h:v≤i):i - (a - d)=d+v - a+(i - v):=by
 obtain⟨m,rfl⟩:=Nat.exists_eq_add_of_le h;obtain⟨k,rfl⟩:=Nat.exists_eq_add_of_le h3;obtain⟨j,hj⟩:=Nat.exists_eq_add_of_le h2;obtain rfl:v=k+j:=by rw[Nat.add_comm v d,Nat.add_assoc]at hj;exact Nat.add_left_cancel hj
 rw[Nat.add_sub_cancel_left,Nat.add_sub_cancel_left,←Nat.add_assoc d,Nat.add_sub_cancel_left,Nat.add_assoc,Nat.add_sub_cancel_left]
theorem nP{l:Int}{m:Nat}(h:l.toNat=m+1):(l - 1).toNat=m:=by
 cases l with
 |ofNat n=>obtain rfl:n=m+1:=h;exact congrArg Int.toNat (Int.add_sub_cancel (m:Int) 1)
 |negSucc n=>cases h
theorem nA{b:Int}{n:Nat}(h:0<b)(h2:b<n):b.natAbs<n:=Int.ofNat_lt.mp (Int.natAbs_of_nonneg (Int.le_of_lt h)▸h2)
theorem nR{n k:Nat}(h:k<n):((n:Int) - 1+ -1 * k).toNat=n - 1 - k:=by
 obtain⟨j,rfl⟩:=Nat.exists_eq_add_of_lt h;rw[Int.neg_mul,Int.one_mul,←Int.sub_eq_add_neg,Nat.add_sub_cancel,Nat.add_sub_cancel_left];refine(congrArg Int.toNat (?_:_=(j:Int))).trans rfl;rw[Int.natCast_add,Int.natCast_add];exact(congrArg (· - (k:Int)) (Int.add_sub_cancel _ 1)).trans (Int.add_comm k j▸Int.add_sub_cancel _ _)
@[elab_as_elim] theorem nU {β:Sort _}{c:Prop}[i:Decidable c]{a b:β}{M:β→Prop}(k1:c→M a)(k2:¬c→M b):M (if c then a else b):=match i,k1,k2 with|.isTrue q,k,_=>k q|.isFalse q,_,k=>k q
theorem iG{G:Prop}(o:Option α)(k1:o=none→G)(k2:∀a,o=some a→G):G:=match o,k1,k2 with|none,k,_=>k rfl|some a,_,k=>k a rfl
theorem Mq{G:Prop} b (k1:b=false→G)(k2:b=true→G):G:=match b,k1,k2 with|false,k,_=>k rfl|true,_,k=>k rfl
theorem fY{α:Type}{P:α→Prop}{d:α}(h:P d):∀a∈[d],P a:=fun a m=>match a,m with|_,.head _=>h
theorem jM{P:α→Prop}:∀a∈([]:List α),P a:=fun _ h=>nomatch h
theorem cN{l:List α}{a:α}(h:l[i]? =some a):i<l.length:=(List.getElem?_eq_some_iff.mp h).1
theorem gP{A:Prop}(h:∀B:Prop,(A→B)→B):A:=h A id
end
namespace LX
section
set_option genSizeOf false
set_option genInjectivity false
set_option genCtorIdx false in
inductive NX where
 |v(i:Nat)|n(k:Nat)|add(a b:NX)|ml(k:Nat)(a:NX)|mr(a:NX)(k:Nat)
set_option genCtorIdx false in
inductive IX where
 |v(i:Nat)|n(k:Nat)|neg(a:IX)|add(a b:IX)|sub(a b:IX)|ml(k:Nat)(a:IX)|mr(a:IX)(k:Nat)|cast(a:NX)
set_option genCtorIdx false in
inductive RX where
 |nr(k:Nat)(a b:NX)|ir(k:Nat)(a b:IX)|and(a b:RX)|or(a b:RX)|not(a:RX)
noncomputable def NX.d(c:List Nat):NX→Nat
 |v i=>c.getD i 0
 |n k=>k
 |add a b=>a.d c+b.d c
 |ml k a=>k * a.d c
 |mr a k=>a.d c * k
noncomputable def IX.d(c:List Nat)(e:List Int):IX→Int
 |v i=>e.getD i 0
 |n k=>Int.ofNat k
 |neg a=>- a.d c e
 |add a b=>a.d c e+b.d c e
 |sub a b=>a.d c e - b.d c e
 |ml k a=>Int.ofNat k * a.d c e
 |mr a k=>a.d c e * Int.ofNat k
 |cast a=>Int.ofNat (a.d c)
def Mr(k a b:Nat):Prop:=match k with
 |0=>a≤b
 |1=>a<b
 |_=>a=b
def D1(k:Nat)(a b:Int):Prop:=match k with
 |0=>a≤b
 |1=>a<b
 |_=>a=b
def RX.d(c:List Nat)(e:List Int):RX→Prop
 |nr k a b=>Mr k (a.d c) (b.d c)
 |ir k a b=>D1 k (a.d c e) (b.d c e)
 |and a b=>a.d c e∧b.d c e
 |or a b=>a.d c e∨b.d c e
 |not a=>¬a.d c e
structure PX where
 k:Int
 a:List Int
 b:List Int
noncomputable def dot{β:Type}(f:β→Int):List Int→List β→Int
 |a::as,x::xs=>a * f x+dot f as xs
 |_,_=>0
noncomputable def D2:List Int→List Int→List Int
 |a::as,b::bs=>(a+b)::D2 as bs
 |[],bs=>bs
 |as,[]=>as
noncomputable def PX.d(c:List Nat)(e:List Int)(p:PX):Int:=p.k+(dot Int.ofNat p.a c+dot id p.b e)
noncomputable def PX.add(p q:PX):PX:=⟨p.k+q.k,D2 p.a q.a,D2 p.b q.b⟩
noncomputable def PX.mul(m:Int)(p:PX):PX:=⟨m * p.k,p.a.map (m * ·),p.b.map (m * ·)⟩
noncomputable def unit:Nat→List Int
 |0=>[1]
 |n+1=>0::unit n
noncomputable def NX.p:NX→PX
 |v i=>⟨0,unit i,[]⟩
 |n k=>⟨Int.ofNat k,[],[]⟩
 |add a b=>a.p.add b.p
 |ml k a=>a.p.mul (Int.ofNat k)
 |mr a k=>a.p.mul (Int.ofNat k)
noncomputable def IX.p:IX→PX
 |v i=>⟨0,[],unit i⟩
 |n k=>⟨Int.ofNat k,[],[]⟩
 |neg a=>a.p.mul (-1)
 |add a b=>a.p.add b.p
 |sub a b=>a.p.add (b.p.mul (-1))
 |ml k a=>a.p.mul (Int.ofNat k)
 |mr a k=>a.p.mul (Int.ofNat k)
 |cast a=>a.p
theorem four(a b c d:Int):(a+b)+(c+d)=(a+c)+(b+d):=by rw[Int.add_assoc,Int.add_assoc,Int.add_left_comm b]
theorem eY(f:β→Int) c:dot f [] c=0:=by cases c<;>rfl
theorem oh(f:β→Int) a:dot f a []=0:=by cases a<;>rfl
theorem vl{β:Type}(f:β→Int)(c:List β):∀(a b:List Int),dot f (D2 a b) c=dot f a c+dot f b c:=by
 induction c with
 |nil=>intro a b;simp only[oh,oh,oh];rfl
 |cons x xs ih=>
  intro a b;cases a with
  |nil=>simp only[eY,Int.zero_add];cases b<;>rfl
  |cons a as=>cases b with
   |nil=>exact(Int.add_zero _).symm
   |cons b bs=>exact(congr (congrArg HAdd.hAdd (Int.add_mul a b (f x))) (ih as bs)).trans (four _ _ _ _)
theorem vm{β:Type}(f:β→Int)(m:Int)(c:List β):∀(a:List Int),dot f (a.map (m * ·)) c=m * dot f a c:=by
 induction c with
 |nil=>intro a;simp only[oh,oh,Int.mul_zero]
 |cons x xs ih=>
  intro a;cases a with
  |nil=>exact(Int.mul_zero m).symm
  |cons a as=>exact(congr (congrArg HAdd.hAdd (Int.mul_assoc m a (f x))) (ih as)).trans (Int.mul_add m (a * f x) (dot f as xs)).symm
theorem lD{β:Type}(f:β→Int)(z:β)(hz:f z=0):∀(i:Nat) (c:List β),dot f (unit i) c=f (c.getD i z)
 |i,[]=>(oh f (unit i)).trans hz.symm
 |0,x::xs=>(congr (congrArg HAdd.hAdd (Int.one_mul (f x))) (eY f xs)).trans (Int.add_zero _)
 |i+1,x::xs=>(congrArg (· +dot f (unit i) xs) (Int.zero_mul (f x))).trans ((Int.zero_add _).trans (lD f z hz i xs))
end
section
set_option genSizeOf false
set_option genInjectivity false
variable(c:List Nat)(e:List Int)
theorem PX.oj(p q:PX):(p.add q).d c e=p.d c e+q.d c e:=
 (congrArg (p.k+q.k+·) ((congr (congrArg HAdd.hAdd (vl Int.ofNat c p.a q.a)) (vl id e p.b q.b)).trans (four _ _ _ _))).trans (four _ _ _ _)
theorem PX.j3 m(p:PX):(p.mul m).d c e=m * p.d c e:=
 (congrArg (m * p.k+·) ((congr (congrArg HAdd.hAdd (vm Int.ofNat m c p.a)) (vm id m e p.b)).trans (Int.mul_add _ _ _).symm)).trans (Int.mul_add _ _ _).symm
theorem NX.Hr(x:NX):x.p.d c e=Int.ofNat (x.d c):=by
 induction x with
 |v i=>exact(Int.zero_add _).trans ((congr (congrArg HAdd.hAdd (lD Int.ofNat 0 rfl i c)) (eY id e)).trans (Int.add_zero _))
 |n k=>exact(congrArg (Int.ofNat k+·) (congr (congrArg HAdd.hAdd (eY Int.ofNat c)) (eY id e))).trans (Int.add_zero _)
 |add a b ha hb=>exact(PX.oj c e a.p b.p).trans (congr (congrArg HAdd.hAdd ha) hb)
 |ml k a ha=>exact(PX.j3 c e _ a.p).trans (congrArg (Int.ofNat k * ·) ha)
 |mr a k ha=>exact(PX.j3 c e _ a.p).trans ((congrArg (Int.ofNat k * ·) ha).trans (Int.mul_comm _ _))
theorem IX.Hr(x:IX):x.p.d c e=x.d c e:=by
 induction x with
 |v i=>exact(Int.zero_add _).trans ((congr (congrArg HAdd.hAdd (eY Int.ofNat c)) (lD id 0 rfl i e)).trans (Int.zero_add _))
 |n k=>exact(congrArg (Int.ofNat k+·) (congr (congrArg HAdd.hAdd (eY Int.ofNat c)) (eY id e))).trans (Int.add_zero _)
 |neg a ha=>exact(PX.j3 c e _ a.p).trans ((congrArg (-1 * ·) ha).trans (Int.neg_one_mul _))
 |add a b ha hb=>exact(PX.oj c e a.p b.p).trans (congr (congrArg HAdd.hAdd ha) hb)
 |sub a b ha hb=>exact((PX.oj c e a.p (b.p.mul (-1))).trans (congr (congrArg HAdd.hAdd ha) ((PX.j3 c e _ b.p).trans ((congrArg (-1 * ·) hb).trans (Int.neg_one_mul (b.d c e)))))).trans Int.sub_eq_add_neg.symm
 |ml k a ha=>exact(PX.j3 c e _ a.p).trans (congrArg (Int.ofNat k * ·) ha)
 |mr a k ha=>exact(PX.j3 c e _ a.p).trans ((congrArg (Int.ofNat k * ·) ha).trans (Int.mul_comm _ _))
 |cast a=>exact NX.Hr c e a
end
section
set_option genSizeOf false
set_option genInjectivity false
noncomputable def le? (p q:PX)(k:Int):PX:=(q.add (p.mul (-1))).add ⟨k,[],[]⟩
noncomputable def both:List (List PX)→List (List PX)→List (List PX)
 |[],_=>[]
 |x::xs,ys=>ys.map (x++·)++both xs ys
noncomputable def rc(k:Nat)(p q:PX):Bool→List (List PX)
 |true=>match k with
  |0=>[[le? p q 0]]
  |1=>[[le? p q (-1)]]
  |_=>[[le? p q 0,le? q p 0]]
 |false=>match k with
  |0=>[[le? q p (-1)]]
  |1=>[[le? q p 0]]
  |_=>[[le? p q (-1)],[le? q p (-1)]]
noncomputable def RX.c:Bool→RX→List (List PX)
 |b,nr k x y=>rc k x.p y.p b
 |b,ir k x y=>rc k x.p y.p b
 |true,and a b=>both (a.c true) (b.c true)
 |false,and a b=>a.c false++b.c false
 |true,or a b=>a.c true++b.c true
 |false,or a b=>both (a.c false) (b.c false)
 |b,not a=>a.c (!b)
end
section
set_option genSizeOf false
set_option genInjectivity false
variable(c:List Nat)(e:List Int)
def AllP(l:List PX):Prop:=∀p∈l,0≤p.d c e
def ib(l:List (List PX)):Prop:=∃x∈l,AllP c e x
end
section
set_option genSizeOf false
set_option genInjectivity false
variable(c:List Nat)(e:List Int)
variable{c e}
theorem ib.both{ys:List (List PX)}(h2:ib c e ys):∀{xs:List (List PX)},ib c e xs→ib c e (both xs ys):=fun {xs}=>by
 induction xs with
 |nil=>exact fun⟨_,h,_⟩=>nomatch h
 |cons x xs ih=>
  refine fun h=>h.elim fun z hz=>(List.mem_cons.mp hz.1).elim (fun q=>h2.elim fun y hy=>?_) fun q=>(ih ⟨z,q,hz.2⟩).elim fun w hw=>⟨w,List.mem_append_right _ hw.1,hw.2⟩;exact⟨x++y,List.mem_append_left _ (List.mem_map.mpr ⟨y,hy.1,rfl⟩),fun p hp=>(List.mem_append.mp hp).elim (fun r=>hz.2 p (q▸r)) (hy.2 p)⟩
theorem ib.l{xs ys:List (List PX)}(h:ib c e xs):ib c e (xs++ys):=h.elim fun x a=>⟨x,List.mem_append_left _ a.1,a.2⟩
theorem ib.r{xs ys:List (List PX)}(h:ib c e ys):ib c e (xs++ys):=h.elim fun x a=>⟨x,List.mem_append_right _ a.1,a.2⟩
theorem le?_ok(ha:p.d c e=a)(hb:q.d c e=b)(h:a≤b+k):0≤(le? p q k).d c e:=by
 have h3:(⟨k,[],[]⟩:PX).d c e=k:=(congrArg (k+·) (congr (congrArg HAdd.hAdd (eY Int.ofNat c)) (eY id e))).trans (Int.add_zero _);unfold le?;simp only[PX.oj,PX.oj,PX.j3,ha,hb,h3];rw[Int.neg_mul,Int.one_mul,Int.add_right_comm,←Int.sub_eq_add_neg];exact Int.sub_nonneg_of_le h
theorem jN(h:0≤p.d c e):AllP c e [p]:=fun _ hq=>(List.mem_singleton.mp hq)▸h
theorem zu{p q:PX}{a b:Int}(ha:p.d c e=a)(hb:q.d c e=b):∀k:Nat,(D1 k a b→ib c e (rc k p q true))∧(¬D1 k a b→ib c e (rc k p q false))
 |0=>⟨fun h=>⟨_,.head _,jN (le?_ok ha hb ((Int.add_zero b).symm▸h))⟩,fun h=>⟨_,.head _,jN (le?_ok hb ha (Int.le_sub_one_of_lt (Int.not_le.mp h)))⟩⟩
 |1=>⟨fun h=>⟨_,.head _,jN (le?_ok ha hb (Int.le_sub_one_of_lt h))⟩,fun h=>⟨_,.head _,jN (le?_ok hb ha ((Int.add_zero a).symm▸Int.not_lt.mp h))⟩⟩
 |_+2=>⟨fun h=>⟨_,.head _,fun r hr=>(List.mem_cons.mp hr).elim (fun q=>q▸le?_ok ha hb ((Int.add_zero b).symm▸Int.le_of_eq h)) fun q=>(List.mem_singleton.mp q)▸le?_ok hb ha ((Int.add_zero a).symm▸Int.le_of_eq (Eq.symm h))⟩,
   fun h=>(Int.lt_or_gt_of_ne h).elim (fun q=>⟨_,.head _,jN (le?_ok ha hb (Int.le_sub_one_of_lt q))⟩) fun q=>⟨_,.tail _ (.head _),jN (le?_ok hb ha (Int.le_sub_one_of_lt q))⟩⟩
theorem Yy:∀(k a b:Nat),Mr k a b↔D1 k (Int.ofNat a) (Int.ofNat b)
 |0,_,_=>Int.ofNat_le.symm
 |1,_,_=>Int.ofNat_lt.symm
 |_+2,_,_=>Int.ofNat_inj.symm
theorem RX.Ms(r:RX):(r.d c e→ib c e (r.c true))∧(¬r.d c e→ib c e (r.c false)):=by
 induction r with
 |nr k a b=>exact⟨fun h=>(zu (NX.Hr c e a) (NX.Hr c e b) k).1 ((Yy k _ _).mp h),fun h=>(zu (NX.Hr c e a) (NX.Hr c e b) k).2 fun q=>h ((Yy k _ _).mpr q)⟩
 |ir k a b=>exact zu (IX.Hr c e a) (IX.Hr c e b) k
 |and a b ha hb=>exact⟨fun h=>.both (hb.1 h.2) (ha.1 h.1),fun h=>(Classical.not_and_iff_not_or_not.mp h).elim (fun q=>(ha.2 q).l) fun q=>(hb.2 q).r⟩
 |or a b ha hb=>exact⟨fun h=>h.elim (fun q=>(ha.1 q).l) fun q=>(hb.1 q).r,fun h=>.both (hb.2 fun q=>h (.inr q)) (ha.2 fun q=>h (.inl q))⟩
 |not a ha=>exact⟨ha.2,fun h=>ha.1 (Classical.not_not.mp h)⟩
end
section
set_option genSizeOf false
set_option genInjectivity false
def I9(c:List Nat)(e:List Int)(g:RX):List RX→Prop
 |[]=>g.d c e
 |r::rs=>r.d c e→I9 c e g rs
noncomputable def pj(g:RX):List RX→List (List PX)
 |[]=>g.c false
 |r::rs=>both (r.c true) (pj g rs)
noncomputable def comb:List Nat→List PX→PX
 |m::ms,p::ps=>(p.mul (Int.ofNat m)).add (comb ms ps)
 |_,_=>⟨0,[],[]⟩
noncomputable def D3(p:PX):Bool:=decide (p.k<0)&&(p.a.all (fun x=>decide (x≤0))&&p.b.all (fun x=>decide (x=0)))
noncomputable def pn:List (List Nat)→List (List PX)→Bool
 |_,[]=>true
 |m::ms,x::xs=>D3 (comb m x)&&pn ms xs
 |[],_=>false
end
section
set_option genSizeOf false
set_option genInjectivity false
variable{c:List Nat}{e:List Int}
theorem D4(l:List PX):∀(m:List Nat),AllP c e l→0≤(comb m l).d c e:=by
 have h0:0≤(⟨0,[],[]⟩:PX).d c e:=Int.le_of_eq ((congrArg (0+·) (congr (congrArg HAdd.hAdd (eY Int.ofNat c)) (eY id e)))).symm
 induction l with
 |nil=>intro m _;cases m<;>exact h0
 |cons p ps ih=>
  intro m h;cases m with
  |nil=>exact h0
  |cons m ms=>
   show 0≤((p.mul (Int.ofNat m)).add (comb ms ps)).d c e;simp only[PX.oj,PX.j3];exact Int.add_nonneg (Int.mul_nonneg (Int.natCast_nonneg m) (h p (.head _))) (ih ms fun q hq=>h q (.tail _ hq))
theorem zv{β:Type}(f:β→Int)(R:Int→Prop)(hm:∀a x,R a→a * f x≤0)(a:List Int):∀(c:List β),(∀x∈a,R x)→dot f a c≤0:=by
 induction a with
 |nil=>intro c _;exact Int.le_of_eq (eY f c)
 |cons a as ih=>
  intro c h;cases c with
  |nil=>exact Int.le_refl 0
  |cons x xs=>exact Int.add_nonpos (hm a x (h a (.head _))) (ih xs fun q hq=>h q (.tail _ hq))
theorem I'(h:D3 p=true):¬0≤p.d c e:=by
 unfold D3 at h;rw[Bool.and_eq_true,Bool.and_eq_true,decide_eq_true_eq,List.all_eq_true,List.all_eq_true]at h;have h1:=zv Int.ofNat (· ≤0) (fun a x q=>Int.mul_nonpos_of_nonpos_of_nonneg q (Int.natCast_nonneg x)) p.a c fun x hx=>of_decide_eq_true (h.2.1 x hx);have h2:=zv id (· =0) (fun a x (q:a=0)=>by refine q.symm▸?_;rw[Int.zero_mul];exact Int.le_refl 0) p.b e fun x hx=>of_decide_eq_true (h.2.2 x hx);exact Int.not_le.mpr (Int.lt_of_le_of_lt (Int.add_le_add_left (Int.add_nonpos h1 h2) p.k) ((Int.add_zero p.k).symm▸h.1))
theorem xn(l:List (List PX)):∀ms:List (List Nat),pn ms l=true→¬ib c e l:=by
 induction l with
 |nil=>exact fun _ _ ⟨_,h,_⟩=>nomatch h
 |cons x xs ih=>
  intro ms h;cases ms with
  |nil=>nomatch h
  |cons m ms=>
   haveI h:=Bool.and_eq_true_iff.mp (show(D3 (comb m x)&&pn ms xs)=true from h);exact fun q=>q.elim fun y hy=>(List.mem_cons.mp hy.1).elim (fun r=>I' h.1 (D4 x m (r▸hy.2))) fun r=>ih ms h.2 ⟨y,r,hy.2⟩
theorem zx{g:RX}:∀{hs:List RX},(ib c e (pj g hs)→False)→I9 c e g hs
 |[],h=>Classical.byContradiction fun q=>h ((RX.Ms g).2 q)
 |r::_,h=>fun hr=>zx fun q=>h (.both q ((RX.Ms r).1 hr))
end
section
set_option genSizeOf false
set_option genInjectivity false
noncomputable def nV{α:Type}:Nat→Nat→(Nat→Nat→α)→α
 |0,c,k=>k 0 c
 |f+1,c,k=>cond (Nat.blt (c % 16) 8) (k (c % 16) (c / 16)) (nV f (c / 16) fun n c'=>k (c % 16 - 8+8 * n) c')
noncomputable def Ja{α:Type}:Nat→Nat→(NX→Nat→α)→α
 |0,c,k=>k (.n 0) c
 |f+1,c,k=>match c % 16 with
  |0=>nV f (c / 16) fun i=>k (.v i)
  |1=>nV f (c / 16) fun i=>k (.n i)
  |2=>Ja f (c / 16) fun a c=>Ja f c fun b=>k (.add a b)
  |3=>nV f (c / 16) fun i c=>Ja f c fun a=>k (.ml i a)
  |_=>Ja f (c / 16) fun a c=>nV f c fun i=>k (.mr a i)
noncomputable def D5{α:Type}:Nat→Nat→(IX→Nat→α)→α
 |0,c,k=>k (.n 0) c
 |f+1,c,k=>match c % 16 with
  |0=>nV f (c / 16) fun i=>k (.v i)
  |1=>nV f (c / 16) fun i=>k (.n i)
  |2=>D5 f (c / 16) fun a c=>D5 f c fun b=>k (.add a b)
  |3=>nV f (c / 16) fun i c=>D5 f c fun a=>k (.ml i a)
  |4=>D5 f (c / 16) fun a c=>nV f c fun i=>k (.mr a i)
  |5=>D5 f (c / 16) fun a c=>D5 f c fun b=>k (.sub a b)
  |6=>D5 f (c / 16) fun a=>k (.neg a)
  |_=>Ja f (c / 16) fun a=>k (.cast a)
noncomputable def Jb{α:Type}:Nat→Nat→(RX→Nat→α)→α
 |0,c,k=>k (.nr 0 (.n 0) (.n 0)) c
 |f+1,c,k=>match c % 16 with
  |6=>Jb f (c / 16) fun a c=>Jb f c fun b=>k (.and a b)
  |7=>Jb f (c / 16) fun a c=>Jb f c fun b=>k (.or a b)
  |8=>Jb f (c / 16) fun a=>k (.not a)
  |r=>cond (Nat.blt r 3) (Ja f (c / 16) fun a c=>Ja f c fun b=>k (.nr r a b)) (D5 f (c / 16) fun a c=>D5 f c fun b=>k (.ir (r - 3) a b))
noncomputable def Yz{α β:Type}(g:Nat→(α→Nat→β)→β):Nat→Nat→(List α→Nat→β)→β
 |0,c,k=>k [] c
 |f+1,c,k=>cond (Nat.beq (c % 16) 0) (k [] (c / 16)) (g (c / 16) fun a c=>Yz g f c fun r=>k (a::r))
noncomputable def UQ{β:Type}:Nat→Nat→(List Nat→Nat→β)→β
 |0,c,k=>k [] c
 |f+1,c,k=>cond (Nat.beq (c % 16) 0) (k [] (c / 16)) (cond (Nat.blt (c % 16) 8) (UQ f (c / 16) fun r=>k ((c % 16 - 1)::r)) (nV 60 (c / 16) fun n c=>UQ f c fun r=>k (n::r)))
noncomputable def YB{β:Type}:Nat→Nat→(List (List Nat)→Nat→β)→β
 |0,c,k=>k [] c
 |f+1,c,k=>cond (Nat.beq c 0) (k [] c) (UQ 60 c fun a c=>YB f c fun r=>k (a::r))
noncomputable def D(c:Nat):List RX×RX×List (List Nat):=Yz (Jb 60) 60 c fun hs c=>Jb 60 c fun g c=>YB 60 c fun k _=>(hs,g,k)
noncomputable def ip(c:Nat):Bool:=pn (D c).2.2 (pj (D c).2.1 (D c).1)
def Den(c:Nat)(a:List Nat)(b:List Int):Prop:=I9 a b (D c).2.1 (D c).1
theorem iH c(h:ip c=true):Den c a b:=zx (xn _ _ h)
end
end LX
section
open LX
theorem rt:true=true:=rfl
theorem D6 c(h:ip c=true):Den c [] []:=iH c h
theorem bA(c:Nat){y0:Int}(h:ip c=true):Den c [] [y0]:=iH c h
theorem dr c(h:ip c=true):Den c [] [y0,y1]:=iH c h
theorem cg c(h:ip c=true):Den c [] [y0,y1,y2]:=iH c h
theorem rp c(h:ip c=true):Den c [] [y0,y1,y2,y3]:=iH c h
theorem YC c(h:ip c=true):Den c [] [y0,y1,y2,y3,y4]:=iH c h
theorem l06 c(h:ip c=true):Den c [] [y0,y1,y2,y3,y4,y5]:=iH c h
theorem l07 c(h:ip c=true):Den c [] [y0,y1,y2,y3,y4,y5,y6]:=iH c h
theorem aJ c(h:ip c=true):Den c [x0] []:=iH c h
theorem fy c(h:ip c=true):Den c [x0] [y0]:=iH c h
theorem lF c(h:ip c=true):Den c [x0] [y0,y1]:=iH c h
theorem La c(h:ip c=true):Den c [x0] [y0,y1,y2]:=iH c h
theorem UR c(h:ip c=true):Den c [x0] [y0,y1,y2,y3]:=iH c h
theorem l15 c(h:ip c=true):Den c [x0] [y0,y1,y2,y3,y4]:=iH c h
theorem Mt c(h:ip c=true):Den c [x0] [y0,y1,y2,y3,y4,y5]:=iH c h
theorem aC c(h:ip c=true):Den c [x0,x1] []:=iH c h
theorem fZ c(h:ip c=true):Den c [x0,x1] [y0]:=iH c h
theorem D7 c(h:ip c=true):Den c [x0,x1] [y0,y1]:=iH c h
theorem YD c(h:ip c=true):Den c [x0,x1] [y0,y1,y2]:=iH c h
theorem TY c(h:ip c=true):Den c [x0,x1] [y0,y1,y2,y3]:=iH c h
theorem aO c(h:ip c=true):Den c [x0,x1,x2] []:=iH c h
theorem l31 c(h:ip c=true):Den c [x0,x1,x2] [y0]:=iH c h
theorem T1 c(h:ip c=true):Den c [x0,x1,x2] [y0,y1]:=iH c h
theorem l34 c(h:ip c=true):Den c [x0,x1,x2] [y0,y1,y2,y3]:=iH c h
theorem bS c(h:ip c=true):Den c [x0,x1,x2,x3] []:=iH c h
theorem l42 c(h:ip c=true):Den c [x0,x1,x2,x3] [y0,y1]:=iH c h
theorem yZ c(h:ip c=true):Den c [x0,x1,x2,x3,x4] []:=iH c h
theorem y7 c(h:ip c=true):Den c [x0,x1,x2,x3,x4,x5] []:=iH c h
theorem l70 c(h:ip c=true):Den c [x0,x1,x2,x3,x4,x5,x6] []:=iH c h
theorem YF c(h:ip c=true):Den c [x0,x1,x2,x3,x4,x5,x6,x7] []:=iH c h
theorem l90 c(h:ip c=true):Den c [x0,x1,x2,x3,x4,x5,x6,x7,x8] []:=iH c h
theorem dI(k:Int)(h:0<k) a:k * (a / k)≤a∧a<k * (a / k)+k:=⟨Int.mul_ediv_self_le (Int.ne_of_gt h),Int.lt_mul_ediv_self_add h⟩
theorem dN k(h:0<k) a:k * (a / k)≤a∧a<k * (a / k)+k:=⟨Nat.mul_div_le a k,Nat.lt_mul_div_succ a h⟩
theorem iq a:(a<0∧a.toNat=0)∨(0≤a∧(a.toNat:Int)=a):=(Decidable.em (a<0)).imp (fun h=>⟨h,Int.toNat_eq_zero.mpr (Int.le_of_lt h)⟩) fun h=>⟨Int.not_lt.mp h,Int.toNat_of_nonneg (Int.not_lt.mp h)⟩
theorem bE(a b):(a<b∧a - b=0)∨(b≤a∧a - b+b=a):=(Nat.lt_or_ge a b).imp (fun h=>⟨h,Nat.sub_eq_zero_of_le (Nat.le_of_lt h)⟩) fun h=>⟨h,Nat.sub_add_cancel h⟩
end
section
open PyProof.Rows PySem PySem.Calls PySem.W
set_option maxRecDepth 100000
variable{prog:Program}{w:World}{A:Around}{E:Value→Shared→Prop}{s:Shared}
theorem dm(hit:IsTupIter s.heap it t i)(ht:IsTup s.heap t items)(hx:items[i]? =some x)
  (hQ:∀h',IsTupIter h' it t (i+1)→Heap.SameBut it s.heap h'→Q x {s with heap:=h'}):wpAny (model prog w) A (Builtin.SmallTypes.nextOf (.ref it)) Q E s:=by
 refine gP fun GP kP=>?_;obtain⟨o,ho,hc,hd⟩:=id hit;obtain⟨ol,UT,_,nl,Jc⟩:=ht;refine kP ?_
 refine wpAny_bind (wpAny_callSpecial?_slot (name:=Str.ofString "__next__") hit.typeIs slot_tupleiter_next
  (wpAny_call_entry slot_tupleiter_next hit.typeIs entry_tupleiter_next ?_ (args_tupleiter_next _)))
 show wpAny _ _ (field (.ref it) 0 >>= _) _ _ s;refine wpAny_bind (wpAny_field ho hd (x:=.ref t) rfl ?_);refine wpAny_bind (wpAny_field ho hd (x:=.int i 0) rfl ?_);refine wpAny_bind (wpAny_seqItems UT Jc ?_);simp only[Int.toNat_natCast,hx];refine wpAny_bind (wpAny_setField ho hd (Nat.le_refl _) (wpAny_pure ⟨x,rfl,wpAny_pure (hQ _ ?_ (Heap.SameBut.update ..))⟩))
 exact⟨_,Heap.get?_update_self _ ho (Obj.isFreed_of_fields (Obj.data_mapFields hd _)),(Obj.cls_mapFields ..).trans hc,by
  rw[Obj.data_mapFields hd];exact rfl⟩
theorem gY(hh:A.handled=none)(hit:IsTupIter s.heap it t i)(ht:IsTup s.heap t items)(hx:items[i]? =none)
  (hE:∀h' e,Heap.ExtBut it s.heap h'→(∃o,h'.get? e=some o∧o.cls=.type "StopIteration")→E (.ref e) {s with heap:=h'}):wpAny (model prog w) A (Builtin.SmallTypes.nextOf (.ref it)) Q E s:=by
 refine gP fun GP kP=>?_;obtain⟨o,ho,hc,hd⟩:=id hit;obtain⟨ol,UT,_,nl,Jc⟩:=ht;refine kP ?_
 refine wpAny_bind (wpAny_callSpecial?_slot (name:=Str.ofString "__next__") hit.typeIs slot_tupleiter_next
  (wpAny_call_entry slot_tupleiter_next hit.typeIs entry_tupleiter_next ?_ (args_tupleiter_next _)))
 show wpAny _ _ (field (.ref it) 0 >>= _) _ _ s;refine wpAny_bind (wpAny_field ho hd (x:=.ref t) rfl ?_);refine wpAny_bind (wpAny_field ho hd (x:=.int i 0) rfl ?_);refine wpAny_bind (wpAny_seqItems UT Jc ?_);simp only[Int.toNat_natCast,hx];refine wpAny_bind (wpAny_rule (wpAny_bind (wpAny_setField ho hd (by simp) ?_)));refine wpAny_bind ?_;refine wpAny_bind (wpAny_newObj_type ?_ (by size_fits));refine wpAny_bind (m:=firstArgMember _ _) (wpAny_of_eq (a:=Value.none) (by first|rfl|(simp only[firstArgMember];rfl)) ?_);refine wpAny_newObj_type ?_ (by size_fits);refine wpAny_bind (wpAny_handled ?_)
 first|refine(show A.in1.handled=none from hh).symm▸?_|rw[hh]
 refine wpAny_bind (wpAny_pure (wpAny_throw ?_));exact hE _ _ (((Heap.SameBut.update ..).extBut.push _).push _) ⟨_,Heap.get?_push_size _ rfl,rfl⟩
abbrev bY(h:Heap)(z TI TO:Addr)(f0 f1:Value):Prop:=
 h.get? z=some {cls:=.type "zip",dict:=none,data:=.fields #[f0,f1,.bool false,.ref TI,.ref TO],slots:=#[]}
structure cj(h:Heap)(z TI TO i1 i2 t1 t2:Addr)(k:Nat)(xs ys:Array Value):Prop where
 ti:IsPair h TI (.ref i1) (.ref i2)
 to:∃a b,IsPair h TO a b
 a1:IsTupIter h i1 t1 k
 a2:IsTupIter h i2 t2 k
 b1:IsTup h t1 xs
 b2:IsTup h t2 ys
structure lG(z TI TO i1 i2 t1 t2:Addr):Prop where
 TIz:TI≠z
 TOz:TO≠z
 i1z:i1≠z
 i2z:i2≠z
 TITO:TI≠TO
 TIi1:TI≠i1
 TIi2:TI≠i2
 TOi1:TO≠i1
 TOi2:TO≠i2
 i12:i1≠i2
 DJ:t1≠z
 UU:t1≠TO
 Mu:t1≠i1
 Mv:t1≠i2
 Hs:t2≠z
 Jd:t2≠TO
 xo:t2≠i1
 Mw:t2≠i2
theorem aV{a b t:Addr}{i:Nat}(x:IsTupIter h a t i)(hs:Heap.ExtBut b h h')(nK:a≠b):IsTupIter h' a t i:=
 let ⟨o,ho,r⟩:=x;⟨o,hs a o nK ho,r⟩
theorem pq(x:IsTupIter h a t i)(e:∀o,h.get? a=some o→h'.get? a=some o):IsTupIter h' a t i:=
 let ⟨o,ho,r⟩:=x;⟨o,e o ho,r⟩
theorem xq{z TI TO i1 i2 t1 t2:Addr}{k:Nat}{xs ys:Array Value}{x y:Value}{f1:Bool}{Q:Value→Shared→Prop}(D:lG z TI TO i1 i2 t1 t2)
  (hz:bY s.heap z TI TO .none (.bool f1)) (P:cj s.heap z TI TO i1 i2 t1 t2 k xs ys) (hx:xs[k]? =some x) (hy:ys[k]? =some y)
  (hQ:∀h',bY h' z TI TO (rawInt s.heap.objs.size) (.bool false)→cj h' z TI TO i1 i2 t1 t2 (k+1) xs ys→IsPair h' s.heap.objs.size x y→h'.objs.size=s.heap.objs.size+1→
   (∀c o,c≠z→c≠TO→c≠i1→c≠i2→s.heap.get? c=some o→h'.get? c=some o)→Q (.ref s.heap.objs.size) {s with heap:=h'}):
  wpAny (model prog w) A (Builtin.«zip.__next__» ⟨[.ref z],[]⟩) (fun fin s'=>∃v,fin=.done (.ret v)∧Q v s') E s:=by
 refine gP fun GP kQ=>?_;obtain⟨D8,⟨a,b,Lb⟩,h1,h2,rB,i8⟩:=P;refine kQ ?_;show wpAny _ _ (field (.ref z) 2 >>= _) _ _ _;refine wpAny_bind (wpAny_field hz rfl (x:=.bool false) rfl ?_);refine wpAny_bind (wpAny_field hz rfl (x:=.ref TI) rfl ?_);refine wpAny_bind (wpAny_seqItems D8 rfl ?_);refine wpAny_bind ?_;refine wpAny_bind (wpAny_field hz rfl (x:=.none) rfl (wpAny_pure ?_));refine wpAny_bind (wpAny_rule ?_);refine wpAny_bind (wpAny_field hz rfl (x:=.ref TO) rfl ?_);refine wpAny_bind (wpAny_setField_rec hz (by simp) fun kv om bI=>?_);refine wpAny_bind ?_;simp only[List.zipIdx_cons,List.zipIdx_nil,List.forIn_cons,List.forIn_nil];refine wpAny_bind (wpAny_bind (wpAny_onRaise ?_));refine wpAny_bind (dm (aV h1 bI.extBut D.i1z) (rB.extBut bI.extBut D.DJ) hx fun ic Ht bZ=>wpAny_pure ?_);haveI lH:IsPair ic TO a b:=bZ.extBut _ _ D.TOi1 (bI.extBut _ _ D.TOz Lb);refine wpAny_bind (wpAny_seqItems lH rfl ?_);refine wpAny_bind (wpAny_updateSeq_pair lH fun xr zy eu=>?_);refine wpAny_bind (wpAny_letGo (wpAny_pure ?_));refine wpAny_bind (wpAny_bind (wpAny_onRaise ?_))
 refine wpAny_bind (dm (aV (aV (aV h2 bI.extBut D.i2z) bZ.extBut D.i12.symm) eu.extBut D.TOi2.symm)
  (((i8.extBut bI.extBut D.Hs).extBut bZ.extBut D.xo).extBut eu.extBut D.Jd) hy fun zz Mx j4=>wpAny_pure ?_)
 haveI zA:IsPair zz TO x b:=j4.extBut _ _ D.TOi2 zy;refine wpAny_bind (wpAny_seqItems zA rfl ?_);refine wpAny_bind (wpAny_updateSeq_pair zA fun f7 pF j5=>?_);replace pF:IsPair f7 TO x y:=pF;refine wpAny_bind (wpAny_letGo (wpAny_pure (wpAny_pure ?_)));refine wpAny_bind (wpAny_seqItems pF rfl ?_);refine wpAny_bind (wpAny_newTuple ?_);have i5:f7.objs.size=s.heap.objs.size:=by simp only[j5.1,j4.1,eu.1,bZ.1,bI.1]
 haveI Hu:bY f7 z TI TO .ellipsis (.bool f1):=j5.extBut _ _ D.TOz.symm (j4.extBut _ _ D.i2z.symm (eu.extBut _ _ D.TOz.symm (bZ.extBut _ _ D.i1z.symm om)))
 have vn:∀c o,c≠z→c≠TO→c≠i1→c≠i2→s.heap.get? c=some o→f7.get? c=some o:=fun c o c1 c2 c3 c4 e=>
  j5.extBut _ _ c2 (j4.extBut _ _ c4 (eu.extBut _ _ c2 (bZ.extBut _ _ c3 (bI.extBut _ _ c1 e))))
 haveI My:IsTupIter f7 i1 t1 (k+1):=aV (aV (aV Ht eu.extBut D.TOi1.symm) j4.extBut D.i12) j5.extBut D.TOi1.symm;haveI Mz:IsTupIter f7 i2 t2 (k+1):=aV Mx j5.extBut D.TOi2.symm;haveI MA:z<f7.objs.size:=Heap.lt_size Hu;show wpAny _ _ (Builtin.SmallTypes.ownedTupleHandOut (.ref z) (.ref f7.objs.size) >>= _) _ _ _;refine wpAny_bind ?_;haveI MC:bY (f7.push {cls:=.type "tuple",data:=.seq #[x,y]}) z TI TO .ellipsis (.bool f1):=Heap.get?_push_of_some _ Hu;refine wpAny_bind (wpAny_setField_rec MC (by simp) fun UW zB zC=>?_);replace zB:bY UW z TI TO (rawInt f7.objs.size) (.bool f1):=zB;refine wpAny_setField_rec zB (by simp) fun zE vq zF=>?_;replace vq:bY zE z TI TO (rawInt f7.objs.size) (.bool false):=vq;have up:∀c o,c≠z→f7.get? c=some o→zE.get? c=some o:=fun c o c1 e=>zF.extBut _ _ c1 (zC.extBut _ _ c1 (Heap.get?_push_of_some _ e));haveI Hv:IsPair zE f7.objs.size x y:=zF.extBut _ _ (Nat.ne_of_gt MA) (zC.extBut _ _ (Nat.ne_of_gt MA) (Heap.get?_push_size _ rfl));haveI YG:zE.objs.size=f7.objs.size+1:=by simp only[zF.1,zC.1,Heap.size_push]
 rw[i5]at vq Hv YG;refine wpAny_pure ⟨_,rfl,?_⟩;rw[i5];refine hQ zE vq ⟨up _ _ D.TIz (vn _ _ D.TIz D.TITO D.TIi1 D.TIi2 D8),⟨x,y,up _ _ D.TOz pF⟩,pq My fun o e=>up _ o D.i1z e,pq Mz fun o e=>up _ o D.i2z e,?_,?_⟩ Hv YG fun c o c1 c2 c3 c4 e=>up c o c1 (vn c o c1 c2 c3 c4 e)
 ·obtain⟨o,ho,r⟩:=rB;exact⟨o,up _ _ D.DJ (vn _ _ D.DJ D.UU D.Mu D.Mv ho),r⟩
 ·obtain⟨o,ho,r⟩:=i8;exact⟨o,up _ _ D.Hs (vn _ _ D.Hs D.Jd D.xo D.Mw ho),r⟩
theorem lI(h:Q (s.heap.get? a) s):wpAny M A (loadIfAlive a) Q E s:=fun Γ p YH=>by
 exact h
theorem tY{z TI TO i1 i2 t1 t2 T:Addr}{oT:Obj}{k:Nat}{xs ys:Array Value}{x y:Value}{f1:Bool}{Q:Value→Shared→Prop}(D:lG z TI TO i1 i2 t1 t2)
  (hz:bY s.heap z TI TO (rawInt T) (.bool f1)) (hT:s.heap.get? T=some oT) (P:cj s.heap z TI TO i1 i2 t1 t2 k xs ys) (hx:xs[k]? =some x) (hy:ys[k]? =some y)
  (hQ:∀h',bY h' z TI TO (rawInt T) (.bool true)→cj h' z TI TO i1 i2 t1 t2 (k+1) xs ys→IsPair h' s.heap.objs.size x y→h'.objs.size=s.heap.objs.size+1→
   (∀c o,c≠z→c≠TO→c≠i1→c≠i2→s.heap.get? c=some o→h'.get? c=some o)→Q (.ref s.heap.objs.size) {s with heap:=h'}):
  wpAny (model prog w) A (Builtin.«zip.__next__» ⟨[.ref z],[]⟩) (fun fin s'=>∃v,fin=.done (.ret v)∧Q v s') E s:=by
 refine gP fun GP kQ=>?_;obtain⟨D8,⟨a,b,Lb⟩,h1,h2,rB,i8⟩:=P;refine kQ ?_;show wpAny _ _ (field (.ref z) 2 >>= _) _ _ _;refine wpAny_bind (wpAny_field hz rfl (x:=.bool false) rfl ?_);refine wpAny_bind (wpAny_field hz rfl (x:=.ref TI) rfl ?_);refine wpAny_bind (wpAny_seqItems D8 rfl ?_);refine wpAny_bind ?_;refine wpAny_bind (wpAny_field hz rfl (x:=rawInt T) rfl ?_)
 have tail:∀h₀,bY h₀ z TI TO (rawInt T) (.bool true)→Heap.SameBut z s.heap h₀→∀{Q':PySem.Fin→Shared→Prop},(∀h',bY h' z TI TO (rawInt T) (.bool true)→cj h' z TI TO i1 i2 t1 t2 (k+1) xs ys→IsPair h' s.heap.objs.size x y→h'.objs.size=s.heap.objs.size+1→
   (∀c o,c≠z→c≠TO→c≠i1→c≠i2→s.heap.get? c=some o→h'.get? c=some o)→Q' (.done (.ret (.ref s.heap.objs.size))) {s with heap:=h'})→
   wpAny (model prog w) A (Builtin.SmallTypes.nextOf (.ref i1)) (fun v1 s1=>wpAny (model prog w) A (Builtin.SmallTypes.nextOf (.ref i2)) (fun v2 s2=>wpAny (model prog w) A (newTuple [v1,v2]) (fun v3 s3=>Q' (.done (.ret v3)) s3) E s2) E s1) E {s with heap:=h₀}:=by
  intro h₀ vt cZ Q' MD;refine dm (aV h1 cZ.extBut D.i1z) (rB.extBut cZ.extBut D.DJ) hx fun kv Hw bI=>?_;refine dm (aV (aV h2 cZ.extBut D.i2z) bI.extBut D.i12.symm) ((i8.extBut cZ.extBut D.Hs).extBut bI.extBut D.xo) hy fun ic ME bZ=>?_;refine wpAny_newTuple ?_;have i5:ic.objs.size=s.heap.objs.size:=by simp only[bZ.1,bI.1,cZ.1]
  have up:∀c o,c≠z→c≠i1→c≠i2→s.heap.get? c=some o→(ic.push {cls:=.type "tuple",data:=.seq #[x,y]}).get? c=some o:=fun c o c1 c2 c3 e=>
   Heap.get?_push_of_some _ (bZ.extBut _ _ c3 (bI.extBut _ _ c2 (cZ.extBut _ _ c1 e)))
  simp only[i5];refine MD _ (Heap.get?_push_of_some _ (bZ.extBut _ _ D.i2z.symm (bI.extBut _ _ D.i1z.symm vt))) ⟨up _ _ D.TIz D.TIi1 D.TIi2 D8,⟨a,b,up _ _ D.TOz D.TOi1 D.TOi2 Lb⟩,?_,?_,?_,?_⟩ ?_ (by rw[Heap.size_push,i5]) fun c o c1 _ c3 c4 e=>up c o c1 c3 c4 e
  ·exact pq (aV Hw bZ.extBut D.i12) fun o e=>Heap.get?_push_of_some _ e
  ·exact pq ME fun o e=>Heap.get?_push_of_some _ e
  ·obtain⟨o,ho,r⟩:=rB;exact⟨o,up _ _ D.DJ D.Mu D.Mv ho,r⟩
  ·obtain⟨o,ho,r⟩:=i8;exact⟨o,up _ _ D.Hs D.xo D.Mw ho,r⟩
  ·exact(i5▸(Heap.get?_push_size _ rfl))
 refine wpAny_bind (lI ?_);rw[Int.toNat_natCast];refine hT.symm▸?_;refine wpAny_bind (wpAny_field hz rfl (x:=.bool f1) rfl ?_);cases f1 with
 |false=>
  refine wpAny_bind (wpAny_setField_rec hz (by simp) fun h₀ vt cZ=>wpAny_pure ?_);refine wpAny_bind (wpAny_bind (wpAny_bind (wpAny_holding ?_)));refine wpAny_bind (wpAny_mono (tail h₀ vt cZ (Q':=fun fin s'=>∃v,fin=.done (.ret v)∧Q v s') fun h' a1 a2 a3 a4 a5=>⟨_,rfl,hQ h' a1 a2 a3 a4 a5⟩) (fun v1 s1 H1=>wpAny_pure (wpAny_pure ?_)) fun _ _ x=>x);refine wpAny_bind (wpAny_bind (wpAny_holding ?_));refine wpAny_bind (wpAny_mono H1 (fun v2 s2 H2=>wpAny_pure (wpAny_pure (wpAny_pure ?_))) fun _ _ x=>x);exact(wpAny_bind (wpAny_mono H2 (fun v3 s3 H3=>wpAny_pure H3) fun _ _ x=>x))
 |true=>
  refine wpAny_pure ?_;refine wpAny_bind (wpAny_bind (wpAny_bind (wpAny_holding ?_)));refine wpAny_bind (wpAny_mono (tail s.heap hz (Heap.SameBut.refl ..) (Q':=fun fin s'=>∃v,fin=.done (.ret v)∧Q v s') fun h' a1 a2 a3 a4 a5=>⟨_,rfl,hQ h' a1 a2 a3 a4 a5⟩) (fun v1 s1 H1=>wpAny_pure (wpAny_pure ?_)) fun _ _ x=>x);refine wpAny_bind (wpAny_bind (wpAny_holding ?_));refine wpAny_bind (wpAny_mono H1 (fun v2 s2 H2=>wpAny_pure (wpAny_pure (wpAny_pure ?_))) fun _ _ x=>x);exact(wpAny_bind (wpAny_mono H2 (fun v3 s3 H3=>wpAny_pure H3) fun _ _ x=>x))
theorem zG(hh:A.handled=none)(D:lG z TI TO i1 i2 t1 t2)
  (hz:bY s.heap z TI TO .none (.bool f1)) (P:cj s.heap z TI TO i1 i2 t1 t2 k xs ys) (rC:xs[k]? =none∨ys[k]? =none)
  (hE:∀h' e,(∀c o,c≠z→c≠TO→c≠i1→c≠i2→s.heap.get? c=some o→h'.get? c=some o)→(∃o,h'.get? e=some o∧o.cls=.type "StopIteration")→E (.ref e) {s with heap:=h'}):
  wpAny (model prog w) A (Builtin.«zip.__next__» ⟨[.ref z],[]⟩) Q E s:=by
 refine gP fun GP kQ=>?_;obtain⟨D8,⟨a,b,Lb⟩,h1,h2,rB,i8⟩:=P;refine kQ ?_;show wpAny _ _ (field (.ref z) 2 >>= _) _ _ _;refine wpAny_bind (wpAny_field hz rfl (x:=.bool false) rfl ?_);refine wpAny_bind (wpAny_field hz rfl (x:=.ref TI) rfl ?_);refine wpAny_bind (wpAny_seqItems D8 rfl ?_);refine wpAny_bind ?_;refine wpAny_bind (wpAny_field hz rfl (x:=.none) rfl (wpAny_pure ?_));refine wpAny_bind (wpAny_rule ?_);refine wpAny_bind (wpAny_field hz rfl (x:=.ref TO) rfl ?_);refine wpAny_bind (wpAny_setField_rec hz (by simp) fun kv om bI=>?_);replace om:bY kv z TI TO .ellipsis (.bool f1):=om;refine wpAny_bind ?_;simp only[List.zipIdx_cons,List.zipIdx_nil,List.forIn_cons,List.forIn_nil];refine wpAny_bind (wpAny_bind (wpAny_onRaise ?_));refine iG (xs[k]?) (fun hx=>?_) fun x hx=>?_
 ·refine wpAny_bind (gY hh (aV h1 bI.extBut D.i1z) (rB.extBut bI.extBut D.DJ) hx fun ic e bZ he=>?_)
  obtain⟨oe,Je,MF⟩:=he;have Hx:bY ic z TI TO .ellipsis (.bool f1):=bZ _ _ D.i1z.symm om;have UX:e≠z:=fun x=>by cases x;rw[Hx]at Je;cases Je;simp at MF
  refine wpAny_setField_rec Hx (by simp) fun xr _ eu=>hE xr e (fun c o c1 _ c3 _ x=>eu.extBut _ _ c1 (bZ _ _ c3 (bI.extBut _ _ c1 x))) ⟨oe,eu.extBut _ _ UX Je,MF⟩
 ·haveI hy:ys[k]? =none:=by rcases rC with h|h;replace h:=hx▸h;cases h;exact h
  refine wpAny_bind (dm (aV h1 bI.extBut D.i1z) (rB.extBut bI.extBut D.DJ) hx fun ic Ht bZ=>wpAny_pure ?_);haveI lH:IsPair ic TO a b:=bZ.extBut _ _ D.TOi1 (bI.extBut _ _ D.TOz Lb);refine wpAny_bind (wpAny_seqItems lH rfl ?_);refine wpAny_bind (wpAny_updateSeq_pair lH fun xr zy eu=>?_);refine wpAny_bind (wpAny_letGo (wpAny_pure ?_));refine wpAny_bind (wpAny_bind (wpAny_onRaise ?_))
  refine wpAny_bind (gY hh (aV (aV (aV h2 bI.extBut D.i2z) bZ.extBut D.i12.symm) eu.extBut D.TOi2.symm)
   (((i8.extBut bI.extBut D.Hs).extBut bZ.extBut D.xo).extBut eu.extBut D.Jd) hy fun zz e j4 he=>?_)
  obtain⟨oe,Je,MF⟩:=he;have Hy:bY zz z TI TO .ellipsis (.bool f1):=j4 _ _ D.i2z.symm (eu.extBut _ _ D.TOz.symm (bZ.extBut _ _ D.i1z.symm om));have UX:e≠z:=fun x=>by cases x;rw[Hy]at Je;cases Je;simp at MF
  refine wpAny_setField_rec Hy (by simp) fun f7 _ j5=>hE f7 e (fun c o c1 c2 c3 c4 x=>j5.extBut _ _ c1 (j4 _ _ c4 (eu.extBut _ _ c2 (bZ.extBut _ _ c3 (bI.extBut _ _ c1 x))))) ⟨oe,j5.extBut _ _ UX Je,MF⟩
theorem xu{z TI TO i1 i2 t1 t2 T:Addr}{oT:Obj}{k:Nat}{xs ys:Array Value}{f1:Bool}{Q:PySem.Fin→Shared→Prop}(hh:A.handled=none)(D:lG z TI TO i1 i2 t1 t2)
  (hz:bY s.heap z TI TO (rawInt T) (.bool f1)) (hT:s.heap.get? T=some oT) (P:cj s.heap z TI TO i1 i2 t1 t2 k xs ys) (rC:xs[k]? =none∨ys[k]? =none)
  (hE:∀h' e,(∀c o,c≠z→c≠TO→c≠i1→c≠i2→s.heap.get? c=some o→h'.get? c=some o)→(∃o,h'.get? e=some o∧o.cls=.type "StopIteration")→E (.ref e) {s with heap:=h'}):
  wpAny (model prog w) A (Builtin.«zip.__next__» ⟨[.ref z],[]⟩) Q E s:=by
 refine gP fun GP kQ=>?_;obtain⟨D8,⟨a,b,Lb⟩,h1,h2,rB,i8⟩:=P;refine kQ ?_;show wpAny _ _ (field (.ref z) 2 >>= _) _ _ _;refine wpAny_bind (wpAny_field hz rfl (x:=.bool false) rfl ?_);refine wpAny_bind (wpAny_field hz rfl (x:=.ref TI) rfl ?_);refine wpAny_bind (wpAny_seqItems D8 rfl ?_);refine wpAny_bind ?_;refine wpAny_bind (wpAny_field hz rfl (x:=rawInt T) rfl ?_)
 have tail:∀h₀,Heap.SameBut z s.heap h₀→∀{Q1:Value→Shared→Prop},(∀v1 s1,(∀Q2:Value→Shared→Prop,wpAny (model prog w) A (Builtin.SmallTypes.nextOf (.ref i2)) Q2 E s1)→Q1 v1 s1)→
   wpAny (model prog w) A (Builtin.SmallTypes.nextOf (.ref i1)) Q1 E {s with heap:=h₀}:=by
  intro h₀ cZ Q1 hq;refine iG (xs[k]?) (fun hx=>?_) fun x hx=>?_
  ·exact gY hh (aV h1 cZ.extBut D.i1z) (rB.extBut cZ.extBut D.DJ) hx fun ic e bZ he=>hE ic e (fun c o c1 _ c3 _ x=>bZ _ _ c3 (cZ.extBut _ _ c1 x)) he
  ·have hy:ys[k]? =none:=by rcases rC with h|h;replace h:=hx▸h;cases h;exact h
   refine dm (aV h1 cZ.extBut D.i1z) (rB.extBut cZ.extBut D.DJ) hx fun kv Hw bI=>hq _ _ fun Q2=>?_
   exact gY hh (aV (aV h2 cZ.extBut D.i2z) bI.extBut D.i12.symm) ((i8.extBut cZ.extBut D.Hs).extBut bI.extBut D.xo) hy fun ic e bZ he=>
    hE ic e (fun c o c1 _ c3 c4 x=>bZ _ _ c4 (bI.extBut _ _ c3 (cZ.extBut _ _ c1 x))) he
 refine wpAny_bind (lI ?_);rw[Int.toNat_natCast];refine hT.symm▸?_;refine wpAny_bind (wpAny_field hz rfl (x:=.bool f1) rfl ?_);cases f1 with
 |false=>
  refine wpAny_bind (wpAny_setField_rec hz (by simp) fun h₀ vt cZ=>wpAny_pure ?_);refine wpAny_bind (wpAny_bind (wpAny_bind (wpAny_holding ?_)));refine wpAny_bind (tail h₀ cZ fun v1 s1 H1=>wpAny_pure (wpAny_pure ?_));refine wpAny_bind (wpAny_bind (wpAny_holding ?_));exact wpAny_bind (H1 _)
 |true=>
  refine wpAny_pure ?_;refine wpAny_bind (wpAny_bind (wpAny_bind (wpAny_holding ?_)));refine wpAny_bind (tail s.heap (Heap.SameBut.refl ..) fun v1 s1 H1=>wpAny_pure (wpAny_pure ?_));refine wpAny_bind (wpAny_bind (wpAny_holding ?_));exact wpAny_bind (H1 _)
theorem lJ(hz:bY s.heap z TI TO f0 f1)
  (h:∀{Q':Value→Shared→Prop} {E':Value→Shared→Prop},(∀v s',Q' v s'→True)→wpAny (model prog w) A.in1 (Builtin.«zip.__next__» ⟨[.ref z],[]⟩) (fun fin s'=>∃v,fin=.done (.ret v)∧Q (some v) s') (fun e s'=>∃b,(∃o,s'.heap.get? b=some o∧o.cls=.type "StopIteration")∧e=.ref b∧Q none s') s):
  wpAny (model prog w) A (pyNext (.ref z)) Q E s:=by
 refine gP fun GP kQ=>?_;haveI hT:s.TypeIs (.ref z) "zip":=⟨_,hz,rfl⟩
 refine kQ ?_;refine wpAny_bind (wpAny_attempt (wpAny_callSpecial?_slot (name:=Str.ofString "__next__") hT PySem.F.slot_zip_next
  (wpAny_call_entry PySem.F.slot_zip_next hT PySem.F.entry_zip_next ?_ (PySem.F.args_zip_next_1 _))))
 refine wpAny_mono (h (Q':=fun _ _=>True) (E':=fun _ _=>True) fun _ _ _=>trivial) (fun fin s' hf=>?_) fun e s' he=>?_
 ·obtain⟨v,rfl,hv⟩:=hf
  exact⟨v,rfl,wpAny_pure hv⟩
 ·refine gP fun GP pI=>?_
  obtain⟨b,⟨o,ho,hc⟩,rfl,hq⟩:=he;refine pI ?_;refine wpAny_bind (wpAny_isInstance (T:="StopIteration") (b:=true) ⟨o,ho,hc⟩ isSubtype_stop ?_);exact wpAny_pure hq
theorem xx{z TI TO T:Addr}(hz:bY s.heap z TI TO (rawInt T) f1)
  (hQ:∀h',bY h' z TI TO .none f1→Heap.SameBut z s.heap h'→Q () {s with heap:=h'}):wpAny (model prog w) A (letOwnedTupleGo (.Tuple elts x1 pos) (.ref z) (.ref T)) Q E s:=by
 refine wpAny_bind (wpAny_load hz ?_)
 show wpAny _ _ (if(["enumerate","zip","dict_itemiterator","dict_reverseitemiterator","odict_iterator","itertools.zip_longest","itertools.pairwise"].contains "zip"&&
   (#[rawInt T,f1,.bool false,.ref TI,.ref TO]:Array Value)[0]? ==some (rawInt T))=true then _ else _) Q E s
 rw[if_pos (by simp)];refine wpAny_bind (wpAny_rule ?_);exact wpAny_setField_rec hz (by simp) fun h' Hz hs'=>hQ h' Hz hs'
theorem rD(hz:bY s.heap z TI TO f0 f1)(h:Q (.ref z) s):wpAny (model prog w) A (pyIter (.ref z)) Q E s:=by
 haveI hT:s.TypeIs (.ref z) "zip":=⟨_,hz,rfl⟩;refine wpAny_pyIter_slot hT PySem.F.slot_zip_iter (wpAny_call_entry PySem.F.slot_zip_iter hT PySem.F.entry_zip_iter ?_ (PySem.F.args_zip_iter_1 _));exact wpAny_pure ⟨_,rfl,"zip",_,hT,PySem.F.slot_zip_next.lookup,h⟩
theorem zH{N t1 t2:Nat}(l1:t1<N)(l2:t2<N):lG (N+4) (N+2) (N+3) N (N+1) t1 t2:=by
 constructor<;>(refine neN ?_;lia)
noncomputable abbrev T2(h:Heap)(t1:Addr):Heap:=h.push {cls:=.type "tuple_iterator",data:=.fields #[.ref t1,.int 0 0]}
noncomputable abbrev T3(h:Heap)(t1 t2:Addr):Heap:=(T2 h t1).push {cls:=.type "tuple_iterator",data:=.fields #[.ref t2,.int 0 0]}
noncomputable abbrev T4(h:Heap)(t1 t2:Addr):Heap:=(T3 h t1 t2).push {cls:=.type "tuple",data:=.seq #[.ref h.objs.size,.ref (T2 h t1).objs.size]}
noncomputable abbrev T5(h:Heap)(t1 t2:Addr):Heap:=(T4 h t1 t2).push {cls:=.type "tuple",data:=.seq #[.none,.none]}
noncomputable abbrev HD(h:Heap)(t1 t2:Addr):Heap:=(T5 h t1 t2).push {cls:=.type "zip",data:=.fields #[.none,.bool false,.bool false,.ref (T3 h t1 t2).objs.size,.ref (T4 h t1 t2).objs.size]}
theorem tZ(t1 t2)(xs ys):
  Meets (Builtin.«zip.__new__» ⟨[.type "zip",.ref t1,.ref t2],[]⟩) (fun _ R s=>IsTup s.heap t1 xs∧IsTup s.heap t2 ys∧
   R (.ok (.ret (.ref (T5 s.heap t1 t2).objs.size))) {s with heap:=HD s.heap t1 t2}):=
 .of_wp fun prog w A R s h=>by
  obtain⟨hp,g,d,tk,os⟩:=s;haveI rB:=h.1;haveI i8:=h.2.1;haveI h:=h.2.2;haveI aac:=sub_zip;haveI hL1:IsTup (Shared.heap ⟨hp,g,d,tk,os⟩) t1 xs:=rB;haveI hL2:IsTup (Shared.heap ⟨hp.push {cls:=.type "tuple_iterator",data:=.fields #[.ref t1,.int 0 0]},g,d,tk,os⟩) t2 ys:=i8.push _
  wp_walk using iter_tuple hL1,iter_tuple hL2
  exact⟨_,rfl,h⟩
theorem xA{t1 t2:Addr}(rB:IsTup s.heap t1 xs)(i8:IsTup s.heap t2 ys)
  (h:∀h',bY h' (s.heap.objs.size+4) (s.heap.objs.size+2) (s.heap.objs.size+3) .none (.bool false)→
   cj h' (s.heap.objs.size+4) (s.heap.objs.size+2) (s.heap.objs.size+3) s.heap.objs.size (s.heap.objs.size+1) t1 t2 0 xs ys→
   lG (s.heap.objs.size+4) (s.heap.objs.size+2) (s.heap.objs.size+3) s.heap.objs.size (s.heap.objs.size+1) t1 t2→h'.objs.size=s.heap.objs.size+5→
   (∀c o,s.heap.get? c=some o→h'.get? c=some o)→Q (.ref (s.heap.objs.size+4)) {s with heap:=h'}):
  wpAny (model prog w) A (PySem.call (.type "zip") [.ref t1,.ref t2]) Q E s:=by
 refine callType_new PySem.F.called_zip (by decide) (PySem.F.typeCall_zip_2 _ _) (PySem.F.newCall_zip_2 _ _) (fun obj=>PySem.F.args_object_init_3 obj _ _) PySem.F.entry_zip_new
  (tZ t1 t2 xs ys) ⟨rB,i8,?_⟩
 haveI z1:(T2 s.heap t1).objs.size=s.heap.objs.size+1:=Heap.size_push ..;haveI z2:(T3 s.heap t1 t2).objs.size=s.heap.objs.size+2:=by rw[Heap.size_push,z1]
 haveI z3:(T4 s.heap t1 t2).objs.size=s.heap.objs.size+3:=by rw[Heap.size_push,z2]
 haveI z4:(T5 s.heap t1 t2).objs.size=s.heap.objs.size+4:=by rw[Heap.size_push,z3]
 haveI z5:(HD s.heap t1 t2).objs.size=s.heap.objs.size+5:=by rw[Heap.size_push,z4]
 haveI g5:(HD s.heap t1 t2).get? (T5 s.heap t1 t2).objs.size=some _:=Heap.get?_push_size _ rfl;haveI g4:(HD s.heap t1 t2).get? (T4 s.heap t1 t2).objs.size=some _:=Heap.get?_push_of_some _ (Heap.get?_push_size _ rfl);haveI g3:(HD s.heap t1 t2).get? (T3 s.heap t1 t2).objs.size=some _:=Heap.get?_push_of_some _ (Heap.get?_push_of_some _ (Heap.get?_push_size _ rfl));haveI g2:(HD s.heap t1 t2).get? (T2 s.heap t1).objs.size=some _:=Heap.get?_push_of_some _ (Heap.get?_push_of_some _ (Heap.get?_push_of_some _ (Heap.get?_push_size _ rfl)));haveI g1:(HD s.heap t1 t2).get? s.heap.objs.size=some _:=Heap.get?_push_of_some _ (Heap.get?_push_of_some _ (Heap.get?_push_of_some _ (Heap.get?_push_of_some _ (Heap.get?_push_size _ rfl))))
 have k:∀c o,s.heap.get? c=some o→(HD s.heap t1 t2).get? c=some o:=fun c o x=>
  Heap.get?_push_of_some _ (Heap.get?_push_of_some _ (Heap.get?_push_of_some _ (Heap.get?_push_of_some _ (Heap.get?_push_of_some _ x))))
 haveI g5:=z4▸(z3▸(z2▸g5));haveI g3:=z2▸(z1▸g3);haveI g4:=z3▸g4;rw[z1]at g2;refine z4.symm▸?_;haveI l1:t1<s.heap.objs.size:=by obtain⟨o,e,_⟩:=rB;exact Heap.lt_size e
 haveI l2:t2<s.heap.objs.size:=by obtain⟨o,e,_⟩:=i8;exact Heap.lt_size e
 refine⟨⟨_,g5,rfl⟩,h _ g5 ⟨g3,⟨_,_,g4⟩,⟨_,g1,rfl,rfl⟩,⟨_,g2,rfl,rfl⟩,?_,?_⟩ ?_ z5 k⟩
 ·obtain⟨o,e,r⟩:=rB;exact⟨o,k _ _ e,r⟩
 ·obtain⟨o,e,r⟩:=i8;exact⟨o,k _ _ e,r⟩
 ·exact zH l1 l2
end
section
open PyProof.Rows PySem
theorem lK{α:Type}:∀(l:List α),(List.range l.length).filterMap (fun k=>l[k]?)=l
 |[]=>rfl
 |a::r=>by
  rw[List.length_cons,List.range_succ_eq_map,List.filterMap_cons];simp only[List.getElem?_cons_zero,List.filterMap_map]
  congr 1
  haveI:=lK r;exact this
theorem fS{α β:Type}{f g:α→Option β}:∀{l:List α},(∀x∈l,f x=g x)→l.filterMap f=l.filterMap g
 |[],_=>rfl
 |a::r,h=>by
  rw[List.filterMap_cons,List.filterMap_cons,h a (List.mem_cons_self ..),fS fun x hx=>h x (List.mem_cons_of_mem _ hx)]
theorem zI l:slicePick (List.toArray l) none none (some (-1))=List.toArray l.reverse:=by
 simp only[slicePick,sliceBounds,sliceRange];simp only[Option.getD_some,List.size_toArray];haveI hd:¬((-1:Int)>0):=by decide
 simp only[hd,if_false]
 haveI hc:(if(l.length:Int) - 1> -1 then((l.length:Int) - 1 - -1 - -1 - 1) / (- -1)else 0).toNat=l.length:=by
  split
  ·simp only[show(- -1:Int)=1 by rfl,Int.ediv_one];exact aC 0x21210221102021121000201111611611107555500751111611611107555501360100201111161161110755554671 rt (iq _)
  ·exact(Nat.eq_zero_of_not_pos fun q=>absurd (Int.lt_of_lt_of_le (by decide:(-1:Int)<0) (Int.sub_nonneg_of_le (Int.ofNat_le.mpr q))) ‹_›).symm
 refine hc.symm▸?_
 congr 1
 rw[←lK l.reverse,List.filterMap_map,List.length_reverse];refine fS fun k hk=>?_;haveI hk:=List.mem_range.mp hk;simp only[List.getElem?_reverse hk];simp only[Function.comp_def,List.getElem?_toArray]
 congr 1
 exact nR hk
end
section
open PySem
set_option genSizeOf false in
inductive V where
 |none|bool (b:Bool)|int (i:Int)|str (s:Str)
 |tup(vs:List V)
 |lst(i:Nat)
 |obj(C:Nat)(i:Nat)
 |fn(a:Nat)
set_option genSizeOf false in
inductive Cell where
 |list(vs:List V)
 |inst(fs:List (Nat×V))
noncomputable abbrev St:=List Cell
noncomputable abbrev Loc:=List (Option V)
set_option genSizeOf false in
set_option genInjectivity false in
inductive Bi where
 |len|int|ja|gj|tuple|list|sorted
 deriving DecidableEq
set_option genSizeOf false in
set_option genInjectivity false in
inductive SK where
 |seq|dY|zip|enum
set_option genCtorIdx false in
set_option genSizeOf false in
set_option genInjectivity false in
inductive cD where
 |var(k:Nat)
 |vars(ks:List Nat)
 |du(ks:List Nat)
 |nest(k:Nat)(ks:List Nat)
set_option genSizeOf false in
set_option genInjectivity false in
inductive Sl where
 |dZ|gm|rev
set_option genCtorIdx false in
set_option genSizeOf false in
set_option genInjectivity false in
inductive E where
 |stuck
 |cst(v:V)
 |loc(k:Nat)
 |nil
 |cons(a b:E)
 |tup(es:E)
 |lst(es:E)
 |bin(op:Operator)(a b:E)
 |neg(a:E)
 |cmp(op:CmpOp)(a b:E)
 |chain(nM gp:CmpOp)(a b c:E)
 |and(a b:E)
 |or(a b:E)
 |not(a:E)
 |ite(c a b:E)
 |sub(a i:E)
 |slice(k:Sl)(a:E)
 |attr(a:E)(k:Nat)
 |call(f:E)(args:E)
 |az(b:Bi)(args:E)
 |dK(args:E)
 |aF(o:E)(k:Nat)(args:E)
 |comp(c7:List (Option Nat))(p:cD)(sk:SK)(src:E)(cond:E)(elt:E)
 |iu(c7:List (Option Nat))(p:cD)(sk:SK)(src:E)(p2:cD)(iI:E)(elt:E)
set_option genCtorIdx false in
set_option genSizeOf false in
set_option genInjectivity false in
inductive S where
 |stuck
 |skip
 |seq(a b:S)
 |expr(e:E)
 |asg(p:cD)(e:E)
 |setattr(o:E)(k:Nat)(e:E)
 |setitem(o i e:E)
 |ret(e:E)
 |ite(c:E)(a b:S)
 |pJ(c:E)(b:S)
 |loop(p:cD)(sk:SK)(src:E)(b:S)
 |cont
set_option genSizeOf false in
set_option genInjectivity false in
structure It where
 items:List V
 guards:List (Nat×List V)
noncomputable def jO{β:Type}(o:Option Cell)(f:List V→Option β):Option β:=match o with
 |some (.list vs)=>f vs
 |_=>none
open PySem in
noncomputable def toPy:Nat→St→V→Option PyData
 |0,_,_=>none
 |n+1,st,.tup vs=>(vs.mapM (toPy n st)).map PyData.tuple
 |n+1,st,.lst i=>jO st[i]? fun vs=>(vs.mapM (toPy n st)).map PyData.list
 |_+1,_,.none=>some .none
 |_+1,_,.int i=>some (.int i)
 |_+1,_,.str x=>if PyData.strOk x then some (.str x)else none
 |_+1,_,_=>none
end
section
open PySem
variable{β:Type}
noncomputable def l1(vs:List V)(f:V→Option β):Option β:=match vs with
 |[x]=>f x
 |_=>none
noncomputable def UY(vs:List V)(f:V→Option β)(g:V→V→Option β):Option β:=match vs with
 |[x]=>f x
 |[x,y]=>g x y
 |_=>none
noncomputable def YJ(vs:List V)(f:V→Option β)(g:V→V→Option β)(k:V→V→V→Option β):Option β:=match vs with
 |[x]=>f x
 |[x,y]=>g x y
 |[x,y,z]=>k x y z
 |_=>none
noncomputable def two(vs:List V)(g:V→V→Option β):Option β:=match vs with
 |[x,y]=>g x y
 |_=>none
noncomputable def tV(x:V)(f:List V→Option β):Option β:=match x with
 |.tup a=>f a
 |_=>none
noncomputable def Jf(o:Option Cell)(f:List (Nat×V)→Bool):Bool:=match o with
 |some (.inst vs)=>f vs
 |_=>false
noncomputable def zJ(st:St)(x:V)(f:List V→Option β)(g:Nat→List V→Option β):Option β:=match x with
 |.tup vs=>f vs
 |.lst l=>jO st[l]? (g l)
 |_=>none
noncomputable def lV(st:St)(x:V)(g:Nat→List V→Option β):Option β:=match x with
 |.lst l=>jO st[l]? (g l)
 |_=>none
noncomputable def iV(x:V)(f:Int→Option β):Option β:=match x with
 |.int a=>f a
 |_=>none
noncomputable def Lc(x y:V)(f:Int→Int→Option β):Option β:=iV x fun a=>iV y (f a)
noncomputable def UZ(o:Option (List Int))(f:Int→List Int→Option β):Option β:=match o with
 |some (a::r)=>f a r
 |_=>none
end
section
open PySem
variable{β:Type}
variable{b:β}
@[elab_as_elim] theorem DK {vs:List V}{f:V→Option β}(h:l1 vs f=some b){M:List V→Prop}(k:∀x,f x=some b→M [x]):M vs:=by
 rcases vs with _|⟨x,_|⟨y,r⟩⟩
 ·cases h
 ·exact k x h
 ·cases h
@[elab_as_elim] theorem MG {vs:List V}{f:V→Option β}{g:V→V→Option β}(h:UY vs f g=some b){M:List V→Prop}(k:∀x,f x=some b→M [x])(k2:∀x y,g x y=some b→M [x,y]):M vs:=by
 rcases vs with _|⟨x,_|⟨y,_|⟨z,r⟩⟩⟩
 ·cases h
 ·exact k x h
 ·exact k2 x y h
 ·cases h
@[elab_as_elim] theorem U0 {vs:List V}{f:V→Option β}{g:V→V→Option β}{q:V→V→V→Option β}(h:YJ vs f g q=some b){M:List V→Prop}(k:∀x,f x=some b→M [x])(k2:∀x y,g x y=some b→M [x,y])(k3:∀x y z,q x y z=some b→M [x,y,z]):M vs:=by
 rcases vs with _|⟨x,_|⟨y,_|⟨z,_|⟨u,r⟩⟩⟩⟩
 ·cases h
 ·exact k x h
 ·exact k2 x y h
 ·exact k3 x y z h
 ·cases h
@[elab_as_elim] theorem U1 {vs:List V}{g:V→V→Option β}(h:two vs g=some b){M:List V→Prop}(k2:∀x y,g x y=some b→M [x,y]):M vs:=by
 rcases vs with _|⟨x,_|⟨y,_|⟨z,r⟩⟩⟩
 ·cases h
 ·cases h
 ·exact k2 x y h
 ·cases h
@[elab_as_elim] theorem tE {x:V}{f:List V→Option β}(h:tV x f=some b){M:V→Prop}(k:∀a,f a=some b→M (.tup a)):M x:=by
 cases x with
 |tup a=>exact k a h
 |_=>cases h
@[elab_as_elim] theorem vu {a:β}(h:some a=some b){N:β→Prop}(k:N a):N b:=Option.some.inj h▸k
theorem HG(h:jO o f=some b){G:Prop}(k:∀vs,o=some (.list vs)→f vs=some b→G):G:=by
 rcases o with _|c
 ·cases h
 ·cases c with
  |list vs=>exact k vs rfl h
  |inst fs=>cases h
@[elab_as_elim] theorem MH {st:St}{x:V}{f:List V→Option β}{g:Nat→List V→Option β}(h:zJ st x f g=some b){M:V→Prop}(k:∀vs,f vs=some b→M (.tup vs))(k2:∀l vs,st[l]? =some (.list vs)→g l vs=some b→M (.lst l)):M x:=by
 cases x with
 |tup vs=>exact k vs h
 |lst l=>exact HG h (k2 l)
 |_=>cases h
@[elab_as_elim] theorem lE {st:St}{x:V}{g:Nat→List V→Option β}(h:lV st x g=some b){M:V→Prop}(k2:∀l vs,st[l]? =some (.list vs)→g l vs=some b→M (.lst l)):M x:=by
 cases x with
 |lst l=>exact HG h (k2 l)
 |_=>cases h
@[elab_as_elim] theorem iE {x:V}{f:Int→Option β}(h:iV x f=some b){M:V→Prop}(k:∀a,f a=some b→M (.int a)):M x:=by
 cases x with
 |int a=>exact k a h
 |_=>cases h
theorem inE(h:Jf o f=true){G:Prop}(k:∀vs,o=some (.inst vs)→f vs=true→G):G:=by
 rcases o with _|c
 ·exact Bool.noConfusion h
 ·cases c with
  |list vs=>exact Bool.noConfusion h
  |inst fs=>exact k fs rfl h
theorem YK(h:UZ o f=some b){G:Prop}(k:∀a r,o=some (a::r)→f a r=some b→G):G:=by
 rcases o with _|_|⟨a,r⟩
 ·cases h
 ·cases h
 ·exact k a r rfl h
end
section
open PySem
@[elab_as_elim] theorem nN {a d:V}{s af:St}{N:V→St→Prop}(h:some ([a],s)=some ([d],af))(k:N a s):N d af:=by cases h;exact k
noncomputable def vv(st:St)(x y:V):Option Bool:=match x,y with
 |.int a,.int b=>some (a==b)
 |.str a,.str b=>some (a==b)
 |.tup a,.tup b=>match toPy 8 st (.tup a),toPy 8 st (.tup b)with|some p,some q=>some (PyData.eqv p q)|_,_=>none
 |.lst a,.lst b=>match toPy 8 st (.lst a),toPy 8 st (.lst b)with|some p,some q=>some (PyData.eqv p q)|_,_=>none
 |_,_=>none
noncomputable def cm(st:St)(op:CmpOp)(x y:V):Option V:=match op with
 |.Eq=>(vv st x y).map .bool
 |.NotEq=>(vv st x y).map fun b=>.bool !b
 |.Lt=>Lc x y fun a b=>some (.bool (decide (a<b)))
 |.LtE=>Lc x y fun a b=>some (.bool (decide (a≤b)))
 |.Gt=>Lc x y fun a b=>some (.bool (decide (b<a)))
 |.GtE=>Lc x y fun a b=>some (.bool (decide (b≤a)))
 |.Is=>match y with|.none=>some (.bool (match x with|.none=>true|_=>false))|_=>none
 |.IsNot=>match y with|.none=>some (.bool (match x with|.none=>false|_=>true))|_=>none
 |.NotIn=>match x with
  |.str a=>match y with
   |.tup vs=>if vs.all (fun|.str _=>true|_=>false)then some (.bool !(vs.any fun|.str b=>b==a|_=>false))else none
   |_=>none
  |_=>none
 |.In=>none
noncomputable def lL(a b:Int):Bool:=decide (a.natAbs<2^64) ||decide (b.natAbs<2^64)
noncomputable def binI(op:Operator)(a b:Int):Option Int:=match op with
 |.Add=>some (a+b)
 |.Sub=>some (a - b)
 |.Mult=>if lL a b then some (a * b)else none
 |.FloorDiv=>if b=0∨2^30≤b.natAbs then none else some (a.fdiv b)
 |.Mod=>if b=0 then none else some (a.fmod b)
 |.Pow=>if 0≤b∧b≤1000∧a.natAbs<2^64 then some (a^b.toNat)else none
 |_=>none
noncomputable def ah:Nat:=100000
noncomputable def jP(op:Operator)(x y:V)(st:St):Option (List V×St):=match x with
 |.int a=>iV y fun b=>(binI op a b).map fun c=>([.int c],st)
 |.lst i=>match y with
  |.lst j=>match op with
   |.Add=>jO st[i]? fun xs=>jO st[j]? fun ys=>if xs.length+ys.length≤ah then some ([.lst st.length],st++[.list (xs++ys)])else none
   |_=>none
  |.int n=>match op with
   |.Mult=>jO st[i]? fun xs=>l1 xs fun x=>if 0≤n∧n≤ah then some ([.lst st.length],st++[.list (List.replicate n.toNat x)])else none
   |_=>none
  |_=>none
 |_=>none
noncomputable def idx(i:Int)(n:Nat):Option Nat:=
 if 0≤i then(if i<n then some i.toNat else none)else if 0≤i+n then some (i+n).toNat else none
noncomputable def nW(x i:V)(st:St):Option V:=iV i fun k=>zJ st x (fun vs=>(idx k vs.length).bind fun j=>vs[j]?) fun _ vs=>(idx k vs.length).bind fun j=>vs[j]?
noncomputable def lM(k:Sl)(vs:List V):List V:=match k with
 |.dZ=>vs.drop 1
 |.gm=>vs.take 1
 |.rev=>vs.reverse
noncomputable def d7(k:Sl)(x:V)(st:St):Option (List V×St):=zJ st x (fun vs=>match k with
  |.dZ=>if vs.length=0 then none else some ([.tup (vs.drop 1)],st)
  |_=>none) fun _ vs=>some ([.lst st.length],st++[.list (lM k vs)])
noncomputable def cn:V→V→Bool
 |.tup [.int a,.int b],.tup [.int c,.int d]=>decide (a<c∨(a=c∧b≤d))
 |_,_=>false
noncomputable def c9:V→Bool
 |.tup [.int _,.int _]=>true
 |_=>false
noncomputable def fA:Int→List Int→Int
 |a,[]=>a
 |a,b::r=>fA (if a<b then b else a) r
noncomputable def fD:Int→List Int→Int
 |a,[]=>a
 |a,b::r=>fD (if b<a then b else a) r
noncomputable def intsOf:List V→Option (List Int)
 |[]=>some []
 |.int i::r=>(intsOf r).map (i::·)
 |_=>none
noncomputable def nX(b:Bi)(args:List V)(st:St):Option (List V×St):=match b with
 |.len=>l1 args fun x=>zJ st x (fun vs=>some ([.int vs.length],st)) fun _ vs=>some ([.int vs.length],st)
 |.int=>l1 args fun x=>match x with
  |.int i=>some ([.int i],st)
  |.bool b=>some ([.int (if b then 1 else 0)],st)
  |_=>none
 |.ja=>UY args (fun x=>lV st x fun _ vs=>UZ (intsOf vs) fun a r=>some ([.int (fA a r)],st)) fun x y=>Lc x y fun a b=>some ([.int (if a<b then b else a)],st)
 |.gj=>UY args (fun x=>lV st x fun _ vs=>UZ (intsOf vs) fun a r=>some ([.int (fD a r)],st)) fun x y=>Lc x y fun a b=>some ([.int (if b<a then b else a)],st)
 |.tuple=>l1 args fun x=>zJ st x (fun vs=>some ([.tup vs],st)) fun _ vs=>some ([.tup vs],st)
 |.list=>l1 args fun x=>lV st x fun _ vs=>some ([.lst st.length],st++[.list vs])
 |.sorted=>l1 args fun x=>lV st x fun _ vs=>if vs.all c9∧vs.length<64 then some ([.lst st.length],st++[.list (vs.mergeSort cn)])else none
noncomputable def fT(x:V)(st:St):Option It:=zJ st x (fun vs=>some ⟨vs,[]⟩) fun l vs=>some ⟨vs,[(l,vs)]⟩
noncomputable def aD(a c:Int):Nat→List V
 |0=>[]
 |n+1=>.int a::aD (a+c) c n
noncomputable def ey:Int→List V→List V
 |_,[]=>[]
 |k,v::vs=>.tup [.int k,v]::ey (k+1) vs
noncomputable def aZ(a:Int):Bool:=decide (-(2^40:Int)≤a∧a≤2^40)
noncomputable def bU(sk:SK)(args:List V)(st:St):Option It:=match sk with
 |.seq=>l1 args fun x=>fT x st
 |.dY=>YJ args (fun x=>iV x fun b=>if aZ b∧b≤ah then some ⟨aD 0 1 b.toNat,[]⟩else none)
   (fun x y=>iV x fun a=>iV y fun b=>if aZ a∧aZ b∧b - a≤ah then some ⟨aD a 1 (b - a).toNat,[]⟩else none)
   fun x y z=>iV x fun a=>iV y fun b=>iV z fun c=>if aZ a∧aZ b∧1≤c∧c<1073741824∧b - a≤ah then some ⟨aD a c ((b - a+c - 1) / c).toNat,[]⟩else none
 |.zip=>two args fun x y=>tV x fun xs=>tV y fun ys=>some ⟨(xs.zip ys).map fun(a,b)=>.tup [a,b],[]⟩
 |.enum=>l1 args fun x=>lV st x fun l vs=>some ⟨ey 0 vs,[(l,vs)]⟩
noncomputable def cp:List Nat→List V→Loc→Option Loc
 |[],[],l=>some l
 |k::ks,v::vs,l=>cp ks vs (l.set k (some v))
 |_,_,_=>none
noncomputable def cb(p:cD)(v:V)(l:Loc):Option Loc:=match p,v with
 |.var k,v=>some (l.set k (some v))
 |.vars ks,.tup vs=>cp ks vs l
 |.du ks,.tup vs=>if vs.length=ks.length then cp ks.reverse vs.reverse l else none
 |.nest k ks,.tup [a,.tup vs]=>cp ks vs (l.set k (some a))
 |_,_=>none
noncomputable def one(r:Option (List V×St)):Option (V×St):=match r with
 |some ([v],st)=>some (v,st)
 |_=>none
noncomputable def dA(r:Option (List V×St)):Option (Bool×St):=match r with
 |some ([.bool b],st)=>some (b,st)
 |_=>none
@[elab_as_elim] theorem Ld {a v:V}{s t:St}(h:one (some ([a],s))=some (v,t)){N:V→St→Prop}(k:N a s):N v t:=by
 have h:some (a,s)=some (v,t):=h;cases h;exact k
@[elab_as_elim] theorem U2 {o:Option (Option V)}{v:V}{s t:St}(h:one (match o with|some (some v)=>some ([v],s)|_=>none)=some (v,t)){N:V→St→Prop}(k:∀a,o=some (some a)→N a s):N v t:=by
 rcases o with _|_|a
 ·exact absurd h nofun
 ·exact absurd h nofun
 ·exact Ld h (k a rfl)
def au(gs:List (Nat×List V))(st:St):Prop:=∀g∈gs,st[g.1]? =some (.list g.2)
noncomputable def a9(c7:List (Option Nat))(l:Loc):Loc:=
 c7.map fun o=>o.bind fun j=>(l[j]?).getD none
theorem MI l:a9 [] l=[]:=rfl
theorem MJ(r) l:a9 (none::r) l=none::a9 r l:=rfl
theorem MK j(r) l:a9 (some j::r) l=(l[j]?).getD none::a9 r l:=rfl
set_option genSizeOf false in
set_option genInjectivity false in
structure FI where
 n:Nat
 np:Nat
 defaults:List V
 body:S
set_option genSizeOf false in
set_option genInjectivity false in
structure CI where
 init:Nat
 meths:List (Nat×Nat)
 attrs:List Nat
set_option genSizeOf false in
set_option genInjectivity false in
structure Pg where
 fns:List (Nat×FI)
 cls:List (Nat×CI)
noncomputable abbrev bj:=Nat→List V→St→Option (V×St)
noncomputable def setField(k:Nat)(v:V):List (Nat×V)→List (Nat×V)
 |[]=>[(k,v)]
 |(j,x)::r=>if j=k then(j,v)::r else(j,x)::setField k v r
@[elab_as_elim] theorem U3 {x v:V}{s t:St}(h:(match x with|.int i=>some ([V.int (-i)],s)|_=>none)=some ([v],t)){N:V→V→St→Prop}(k:∀i,N (.int i) (.int (-i)) s):N x v t:=by
 cases x with
 |int i=>exact nN h (k i)
 |_=>cases h
@[elab_as_elim] theorem ML {P:Pg}{st:St}{β:Type}{x:V}{f:Nat→CI→List (Nat×V)→Option β}{b:β}(h:(match x with
  |.obj C i=>match P.cls.lookup C,st[i]? with
   |some c,some (.inst fs)=>f i c fs
   |_,_=>none
  |_=>none)=some b) {M:V→Prop} (k:∀C i c fs,P.cls.lookup C=some c→st[i]? =some (.inst fs)→f i c fs=some b→M (.obj C i)):M x:=by
 cases x with
 |obj C i=>
  have h:(match P.cls.lookup C,st[i]? with
   |some c,some (.inst fs)=>f i c fs
   |_,_=>none)=some b:=h
  replace k:=k C i;generalize P.cls.lookup C=o1 at h k;generalize st[i]? =o2 at h k;rcases o1 with _|c
  ·cases h
  ·rcases o2 with _|_|fs
   ·cases h
   ·cases h
   ·exact k c fs rfl rfl h
 |_=>cases h
@[elab_as_elim] theorem fnE {x:V}{β:Type}{f:Nat→Option β}{b:β}(h:(match x with|.fn a=>f a|_=>none)=some b){M:V→Prop}(k:∀a,f a=some b→M (.fn a)):M x:=by
 cases x with
 |fn a=>exact k a h
 |_=>cases h
@[elab_as_elim] theorem siE {x y:V}{st:St}{β:Type}{g:Nat→List V→Nat→Option β}{r:β}(h:(match x,y with
  |.lst a,.int k=>match st[a]? with
   |some (.list vs)=>match idx k vs.length with
    |some j=>if a=0 then none else g a vs j
    |none=>none
   |_=>none
  |_,_=>none)=some r) {M:V→V→Prop} (k:∀a i vs j,st[a]? =some (.list vs)→idx i vs.length=some j→a≠0→g a vs j=some r→M (.lst a) (.int i)):M x y:=by
 cases x with
 |lst a=>
  cases y with
  |int i=>
   have h:(match st[a]? with
    |some (.list vs)=>match idx i vs.length with
     |some j=>if a=0 then none else g a vs j
     |none=>none
    |_=>none)=some r:=h
   replace k:=k a i;generalize st[a]? =o1 at h k;rcases o1 with _|vs|_
   ·cases h
   ·replace k:=k vs
    have h:(match idx i vs.length with
     |some j=>if a=0 then none else g a vs j
     |none=>none)=some r:=h
    generalize idx i vs.length=o2 at h k;rcases o2 with _|j
    ·cases h
    ·exact tX h fun h0 h=>k j rfl rfl h0 h
   ·cases h
  |_=>cases h
 |_=>cases h
@[elab_as_elim] theorem EQt {b c:Bool}{s t:St}(h:dA (some ([.bool b],s))=some (c,t)){N:Bool→St→Prop}(k:N b s):N c t:=by
 have h:some (b,s)=some (c,t):=h;cases h;exact k
theorem U4 k:ey k []=[]:=rfl
theorem t4 k v vs:ey k (v::vs)=.tup [.int k,v]::ey (k+1) vs:=rfl
theorem tlT st vs(f:List V→Option β) g:zJ st (.tup vs) f g=f vs:=rfl
theorem tlL st l(f:List V→Option β) g:zJ st (.lst l) f g=jO st[l]? (g l):=rfl
theorem U5 vs(f:List V→Option β):jO (some (.list vs)) f=f vs:=rfl
theorem U6 vs:lM .dZ vs=vs.drop 1:=rfl
theorem U7 vs:lM .gm vs=vs.take 1:=rfl
theorem YL k v:setField k v []=[(k,v)]:=rfl
theorem MN k v j x(r):setField k v ((j,x)::r)=if j=k then(j,v)::r else(j,x)::setField k v r:=rfl
noncomputable def dt:Nat:=0
noncomputable def dM:Nat:=1
noncomputable def pK:Nat:=2
noncomputable def d8(P:Pg)(o:V)(k:Nat)(st:St):Bool:=match o with
 |.obj C i=>match P.cls.lookup C with
  |some c=>Jf st[i]? fun fs=>(c.meths.lookup k).isSome&&(fs.lookup k).isNone
  |none=>false
 |.lst l=>match st[l]? with
  |some (.list _)=>decide (l≠0)&&(k=dt ||k=dM ||k=pK)
  |_=>false
 |_=>false
theorem U8{P:Pg}{C i k:Nat}{st:St}(h:d8 P (.obj C i) k st=true){G:Prop}(kk:∀c fs,P.cls.lookup C=some c→st[i]? =some (.inst fs)→((c.meths.lookup k).isSome&&(fs.lookup k).isNone)=true→G):G:=by
 have h:(match P.cls.lookup C with|some c=>Jf st[i]? fun fs=>(c.meths.lookup k).isSome&&(fs.lookup k).isNone|none=>false)=true:=h;cases e:P.cls.lookup C with
 |none=>rw[e]at h;exact Bool.noConfusion h
 |some c=>rw[e]at h;exact inE h fun fs h1 h2=>kk c fs e h1 h2
theorem MO(h:d8 P (.lst l) k st=true){G:Prop}(kk:∀vs,st[l]? =some (.list vs)→l≠0→G):G:=by
 have h:(match st[l]? with|some (.list _)=>decide (l≠0)&&(k=dt ||k=dM ||k=pK)|_=>false)=true:=h;rcases e:st[l]? with _|c
 ·rw[e]at h;exact Bool.noConfusion h
 ·rw[e]at h;cases c with
  |list vs=>exact kk vs e (of_decide_eq_true (Bool.and_eq_true_iff.mp h).1)
  |inst fs=>exact Bool.noConfusion h
noncomputable def iw(P:Pg)(call:bj)(o:V)(k:Nat)(args:List V)(st:St):Option (List V×St):=match o with
 |.obj C i=>match P.cls.lookup C with
  |some c=>match c.meths.lookup k with
   |some f=>(call f (o::args) st).map fun(v,st)=>([v],st)
   |none=>none
  |none=>none
 |.lst l=>jO st[l]? fun vs=>
   if k=dt then l1 args fun x=>if vs.length<ah then some ([.none],st.set l (.list (vs++[x])))else none
   else if k=dM then l1 args fun x=>lV st x fun m ws=>if m=l then none else if vs.length+ws.length<ah then some ([.none],st.set l (.list (vs++ws)))else none
   else if k=pK then(match args with
    |[]=>match vs.getLast? with|some x=>some ([x],st.set l (.list vs.dropLast))|none=>none
    |_=>none)
   else none
 |_=>none
open Classical in
noncomputable def aB(p:cD)(gs:List (Nat×List V))(cond:Loc→St→Option (Bool×St))(elt:Loc→St→Option (V×St)):
  List V→Loc→St→Option (List V×St)
 |[],_,st=>if au gs st then some ([],st)else none
 |v::vs,l,st=>if au gs st then
   (cb p v l).bind fun l1=>(cond l1 st).bind fun(b,st1)=>
    if b then(elt l1 st1).bind fun(x,ak)=>(aB p gs cond elt vs l1 ak).map fun(r,cO)=>(x::r,cO)
    else aB p gs cond elt vs l1 st1
  else none
open Classical in
noncomputable def bf(p:cD)(gs:List (Nat×List V))(inner:Loc→St→Option (List V×Loc×St)):
  List V→Loc→St→Option (List V×St)
 |[],_,st=>if au gs st then some ([],st)else none
 |v::vs,l,st=>if au gs st then
   (cb p v l).bind fun l1=>(inner l1 st).bind fun(x,l2,ak)=>(bf p gs inner vs l2 ak).map fun(r,cO)=>(x++r,cO)
  else none
open Classical in
noncomputable def cG(p:cD)(gs:List (Nat×List V))(elt:Loc→St→Option (V×St)):
  List V→Loc→St→Option (List V×Loc×St)
 |[],l,st=>if au gs st then some ([],l,st)else none
 |v::vs,l,st=>if au gs st then
   (cb p v l).bind fun l1=>(elt l1 st).bind fun(x,ak)=>(cG p gs elt vs l1 ak).map fun(r,l3,cO)=>(x::r,l3,cO)
  else none
noncomputable def ev(P:Pg)(call:bj):E→Loc→St→Option (List V×St)
 |.stuck,_,_=>none
 |.cst v,_,st=>some ([v],st)
 |.loc k,l,st=>match l[k]? with|some (some v)=>some ([v],st)|_=>none
 |.nil,_,st=>some ([],st)
 |.cons a b,l,st=>(one (ev P call a l st)).bind fun(v,st1)=>(ev P call b l st1).map fun(vs,ak)=>(v::vs,ak)
 |.tup es,l,st=>(ev P call es l st).bind fun(vs,st1)=>if vs.length≤ah then some ([.tup vs],st1)else none
 |.lst es,l,st=>(ev P call es l st).bind fun(vs,st1)=>if vs.length≤ah then some ([.lst st1.length],st1++[.list vs])else none
 |.bin op a b,l,st=>(one (ev P call a l st)).bind fun(x,st1)=>(one (ev P call b l st1)).bind fun(y,ak)=>jP op x y ak
 |.neg a,l,st=>(one (ev P call a l st)).bind fun(x,st1)=>match x with|.int i=>some ([.int (-i)],st1)|_=>none
 |.cmp op a b,l,st=>(one (ev P call a l st)).bind fun(x,st1)=>(one (ev P call b l st1)).bind fun(y,ak)=>(cm ak op x y).map fun c=>([c],ak)
 |.chain nM gp a b c,l,st=>(one (ev P call a l st)).bind fun(x,st1)=>(one (ev P call b l st1)).bind fun(y,ak)=>
   match cm ak nM x y with
   |some (.bool true)=>(one (ev P call c l ak)).bind fun(z,cO)=>(cm cO gp y z).map fun c=>([c],cO)
   |some (.bool false)=>some ([.bool false],ak)
   |_=>none
 |.and a b,l,st=>(dA (ev P call a l st)).bind fun(c,st1)=>if c then(dA (ev P call b l st1)).map fun(c,ak)=>([.bool c],ak)else some ([.bool false],st1)
 |.or a b,l,st=>(dA (ev P call a l st)).bind fun(c,st1)=>if c then some ([.bool true],st1)else(dA (ev P call b l st1)).map fun(c,ak)=>([.bool c],ak)
 |.not a,l,st=>(dA (ev P call a l st)).map fun(c,st1)=>([.bool !c],st1)
 |.ite c a b,l,st=>(dA (ev P call c l st)).bind fun(t,st1)=>if t then ev P call a l st1 else ev P call b l st1
 |.sub a i,l,st=>(one (ev P call a l st)).bind fun(x,st1)=>(one (ev P call i l st1)).bind fun(y,ak)=>(nW x y ak).map fun v=>([v],ak)
 |.slice k a,l,st=>(one (ev P call a l st)).bind fun(x,st1)=>d7 k x st1
 |.attr a k,l,st=>(one (ev P call a l st)).bind fun(x,st1)=>match x with
  |.obj C i=>match P.cls.lookup C,st1[i]? with
   |some c,some (.inst fs)=>if c.attrs.contains k then(fs.lookup k).map fun v=>([v],st1)else none
   |_,_=>none
  |_=>none
 |.call f args,l,st=>(one (ev P call f l st)).bind fun(x,st1)=>(ev P call args l st1).bind fun(vs,ak)=>match x with
  |.fn a=>(call a vs ak).map fun(v,cO)=>([v],cO)
  |_=>none
 |.az b args,l,st=>(ev P call args l st).bind fun(vs,st1)=>nX b vs st1
 |.dK args,l,st=>(ev P call args l st).bind fun(vs,st1)=>(bU .zip vs st1).bind fun it=>if it.items.length≤ah then some ([.lst st1.length],st1++[.list it.items])else none
 |.aF o k args,l,st=>(one (ev P call o l st)).bind fun(x,st1)=>if d8 P x k st1 then(ev P call args l st1).bind fun(vs,ak)=>iw P call x k vs ak else none
 |.comp c7 p sk src cond elt,l,st=>(ev P call src l st).bind fun(vs,st1)=>(bU sk vs st1).bind fun it=>
   (aB p it.guards (fun l' af=>dA (ev P call cond l' af)) (fun l' af=>one (ev P call elt l' af)) it.items (a9 c7 l) st1).bind fun(vs,ak)=>
    if vs.length≤ah then some ([.lst ak.length],ak++[.list vs])else none
 |.iu c7 p sk src p2 iI elt,l,st=>(ev P call src l st).bind fun(vs,st1)=>(bU sk vs st1).bind fun it=>
   (bf p it.guards (fun l' af=>(one (ev P call iI l' af)).bind fun(x,ak)=>(fT x ak).bind fun pL=>
     cG p2 pL.guards (fun l' af=>one (ev P call elt l' af)) pL.items l' ak) it.items (a9 c7 l) st1).bind fun(vs,ak)=>
    if vs.length≤ah then some ([.lst ak.length],ak++[.list vs])else none
set_option genSizeOf false in
set_option genInjectivity false in
inductive Fl where
 |next|cont|ret (v:V)
noncomputable abbrev Run:=Loc→St→Option (Fl×Loc×St)
open Classical in
noncomputable def aw(p:cD)(gs:List (Nat×List V))(f:Run):List V→Loc→St→Option (Loc×St)
 |[],l,st=>if au gs st then some (l,st)else none
 |v::vs,l,st=>if au gs st then
   (cb p v l).bind fun l1=>(f l1 st).bind fun(fl,l2,ak)=>match fl with
    |.ret _=>none
    |_=>aw p gs f vs l2 ak
  else none
noncomputable def bR(c:Loc→St→Option (Bool×St))(f:Run):Nat→Loc→St→Option (Loc×St)
 |0,_,_=>none
 |n+1,l,st=>(c l st).bind fun(b,st1)=>if b then(f l st1).bind fun(fl,l2,ak)=>match fl with
    |.ret _=>none
    |_=>bR c f n l2 ak
   else some (l,st1)
noncomputable def ex(P:Pg)(call:bj):S→Run
 |.stuck,_,_=>none
 |.skip,l,st=>some (.next,l,st)
 |.seq a b,l,st=>(ex P call a l st).bind fun(fl,l1,st1)=>match fl with
  |.next=>ex P call b l1 st1
  |_=>some (fl,l1,st1)
 |.expr e,l,st=>(one (ev P call e l st)).map fun(_,st1)=>(.next,l,st1)
 |.asg p e,l,st=>(one (ev P call e l st)).bind fun(v,st1)=>(cb p v l).map fun l1=>(.next,l1,st1)
 |.setattr o k e,l,st=>(one (ev P call e l st)).bind fun(v,st1)=>(one (ev P call o l st1)).bind fun(x,ak)=>match x with
  |.obj C i=>match P.cls.lookup C,ak[i]? with
   |some c,some (.inst fs)=>if c.attrs.contains k∧fs.length<100∧i≠0 then some (.next,l,ak.set i (.inst (setField k v fs)))else none
   |_,_=>none
  |_=>none
 |.setitem o i e,l,st=>(one (ev P call e l st)).bind fun(v,st1)=>(one (ev P call o l st1)).bind fun(x,ak)=>(one (ev P call i l ak)).bind fun(y,cO)=>match x,y with
  |.lst a,.int k=>match cO[a]? with
   |some (.list vs)=>match idx k vs.length with
    |some j=>if a=0 then none else some (.next,l,cO.set a (.list (vs.set j v)))
    |none=>none
   |_=>none
  |_,_=>none
 |.ret e,l,st=>(one (ev P call e l st)).map fun(v,st1)=>(.ret v,l,st1)
 |.ite c a b,l,st=>(dA (ev P call c l st)).bind fun(t,st1)=>if t then ex P call a l st1 else ex P call b l st1
 |.pJ c b,l,st=>(bR (fun l st=>dA (ev P call c l st)) (ex P call b) 1000 l st).map fun(l,st)=>(.next,l,st)
 |.loop p sk src b,l,st=>(ev P call src l st).bind fun(vs,st1)=>(bU sk vs st1).bind fun it=>
   (aw p it.guards (ex P call b) it.items l st1).map fun(l,st)=>(.next,l,st)
 |.cont,l,st=>some (.cont,l,st)
end
section
open Classical PySem
variable{p:cD}{gs:List (Nat×List V)}{f:Run}{elt:Loc→St→Option (V×St)}{inner:Loc→St→Option (List V×Loc×St)}{v:V}{vs:List V}{l:Loc}{st:St}{G:Prop}
theorem MP(h:au gs st):aw p gs f [] l st=some (l,st):=if_pos h
theorem MQ(h:au gs st):aw p gs f (v::vs) l st=((cb p v l).bind fun l1=>(f l1 st).bind fun(fl,l2,ak)=>match fl with
    |.ret _=>none
    |_=>aw p gs f vs l2 ak):=if_pos h
theorem U9(h:au gs st):cG p gs elt [] l st=some ([],l,st):=if_pos h
theorem U'(h:au gs st):cG p gs elt (v::vs) l st=((cb p v l).bind fun l1=>(elt l1 st).bind fun(x,ak)=>(cG p gs elt vs l1 ak).map fun(r,l3,cO)=>(x::r,l3,cO)):=if_pos h
theorem Va(h:au gs st):bf p gs inner [] l st=some ([],st):=if_pos h
theorem Vb(h:au gs st):bf p gs inner (v::vs) l st=((cb p v l).bind fun l1=>(inner l1 st).bind fun(x,l2,ak)=>(bf p gs inner vs l2 ak).map fun(r,cO)=>(x++r,cO)):=if_pos h
theorem lwh(hc:c l st=some (true,s1))(hf:f l s1=some (.next,l2,s2)):bR c f (k+1) l st=bR c f k l2 s2:=by
 show(c l st).bind _=_;rw[hc];show(f l s1).bind _=_;rw[hf];rfl
theorem YM(hc:c l st=some (false,s1)):bR c f (k+1) l st=some (l,s1):=by
 show(c l st).bind _=_;rw[hc];rfl
theorem MR(h:aw p gs f [] l st=some r)(k:au gs st→some (l,st)=some r→G):G:=dk h k
theorem MS(h:aw p gs f (v::vs) l st=some r)(k:au gs st→((cb p v l).bind fun l1=>(f l1 st).bind fun(fl,l2,ak)=>match fl with
    |.ret _=>none
    |_=>aw p gs f vs l2 ak)=some r→G):G:=dk h k
theorem Vc(h:cG p gs elt [] l st=some r)(k:au gs st→some ([],l,st)=some r→G):G:=dk h k
theorem Vd(h:cG p gs elt (v::vs) l st=some r)(k:au gs st→((cb p v l).bind fun l1=>(elt l1 st).bind fun(x,ak)=>(cG p gs elt vs l1 ak).map fun(r,l3,cO)=>(x::r,l3,cO))=some r→G):G:=dk h k
theorem Ve(h:bf p gs inner [] l st=some r)(k:au gs st→some ([],st)=some r→G):G:=dk h k
theorem Vf(h:bf p gs inner (v::vs) l st=some r)(k:au gs st→((cb p v l).bind fun l1=>(inner l1 st).bind fun(x,l2,ak)=>(bf p gs inner vs l2 ak).map fun(r,cO)=>(x++r,cO))=some r→G):G:=dk h k
end
section
open PySem
noncomputable def FI.run(P:Pg)(call:bj)(f:FI)(args:List V)(st:St):Option (V×St):=
 if f.np<args.length∨args.length+f.defaults.length<f.np then none else
 (ex P call f.body (((args++f.defaults.drop (f.defaults.length+args.length - f.np)).map some)++List.replicate (f.n - f.np) none) st).bind fun(fl,_,st1)=>match fl with
  |.ret v=>some (v,st1)
  |.next=>some (.none,st1)
  |.cont=>none
noncomputable def ae(P:Pg):Nat→bj
 |0=>fun _ _ _=>none
 |n+1=>fun a args st=>match P.fns.lookup a with
  |some f=>f.run P (ae P n) args st
  |none=>match P.cls.lookup a with
   |some c=>match ae P n c.init (.obj a st.length::args) (st++[.inst []])with
    |some (.none,st1)=>some (.obj a st.length,st1)
    |_=>none
   |none=>none
theorem HH(h:ae P (n+1) a args st=some r){G:Prop}(k1:∀f,P.fns.lookup a=some f→f.run P (ae P n) args st=some r→G)
  (k2:∀c st1,P.cls.lookup a=some c→ae P n c.init (.obj a st.length::args) (st++[.inst []])=some (.none,st1)→some (V.obj a st.length,st1)=some r→G):G:=by
 have h:(match P.fns.lookup a with
  |some f=>f.run P (ae P n) args st
  |none=>match P.cls.lookup a with
   |some c=>match ae P n c.init (.obj a st.length::args) (st++[.inst []])with
    |some (.none,st1)=>some (V.obj a st.length,st1)
    |_=>none
   |none=>none)=some r:=h
 generalize P.fns.lookup a=o1 at h k1;rcases o1 with _|f
 ·have h:(match P.cls.lookup a with
   |some c=>match ae P n c.init (.obj a st.length::args) (st++[.inst []])with
    |some (.none,st1)=>some (V.obj a st.length,st1)
    |_=>none
   |none=>none)=some r:=h
  generalize P.cls.lookup a=o2 at h k2;rcases o2 with _|c
  ·cases h
  ·replace k2:=k2 c
   have h:(match ae P n c.init (.obj a st.length::args) (st++[.inst []])with
    |some (.none,st1)=>some (V.obj a st.length,st1)
    |_=>none)=some r:=h
   generalize ae P n c.init _ _=o3 at h k2;rcases o3 with _|⟨v,s⟩
   ·cases h
   ·cases v with
    |none=>exact k2 s rfl rfl h
    |_=>cases h
 ·exact k1 f rfl h
theorem V02 P call v l st:ev P call (.cst v) l st=(some ([v],st)):=rfl
theorem V03 P call k l st:ev P call (.loc k) l st=(match l[k]? with|some (some v)=>some ([v],st)|_=>none):=rfl
theorem V04 P call l st:ev P call (.nil) l st=(some ([],st)):=rfl
theorem V05 P call a b l st:ev P call (.cons a b) l st=((one (ev P call a l st)).bind fun(v,st1)=>(ev P call b l st1).map fun(vs,ak)=>(v::vs,ak)):=rfl
theorem V06 P call es l st:ev P call (.tup es) l st=((ev P call es l st).bind fun(vs,st1)=>if vs.length≤ah then some ([.tup vs],st1)else none):=rfl
theorem V07 P call es l st:ev P call (.lst es) l st=((ev P call es l st).bind fun(vs,st1)=>if vs.length≤ah then some ([.lst st1.length],st1++[.list vs])else none):=rfl
theorem V08 P call op a b l st:ev P call (.bin op a b) l st=((one (ev P call a l st)).bind fun(x,st1)=>(one (ev P call b l st1)).bind fun(y,ak)=>jP op x y ak):=rfl
theorem V09 P call a l st:ev P call (.neg a) l st=((one (ev P call a l st)).bind fun(x,st1)=>match x with|.int i=>some ([.int (-i)],st1)|_=>none):=rfl
theorem V10 P call op a b l st:ev P call (.cmp op a b) l st=((one (ev P call a l st)).bind fun(x,st1)=>(one (ev P call b l st1)).bind fun(y,ak)=>(cm ak op x y).map fun c=>([c],ak)):=rfl
theorem V11 P call nM gp a b c l st:ev P call (.chain nM gp a b c) l st=((one (ev P call a l st)).bind fun(x,st1)=>(one (ev P call b l st1)).bind fun(y,ak)=>
   match cm ak nM x y with
   |some (.bool true)=>(one (ev P call c l ak)).bind fun(z,cO)=>(cm cO gp y z).map fun c=>([c],cO)
   |some (.bool false)=>some ([.bool false],ak)
   |_=>none):=rfl
theorem V12 P call a b l st:ev P call (.and a b) l st=((dA (ev P call a l st)).bind fun(c,st1)=>if c then(dA (ev P call b l st1)).map fun(c,ak)=>([.bool c],ak)else some ([.bool false],st1)):=rfl
theorem V13 P call a b l st:ev P call (.or a b) l st=((dA (ev P call a l st)).bind fun(c,st1)=>if c then some ([.bool true],st1)else(dA (ev P call b l st1)).map fun(c,ak)=>([.bool c],ak)):=rfl
theorem V14 P call a l st:ev P call (.not a) l st=((dA (ev P call a l st)).map fun(c,st1)=>([.bool !c],st1)):=rfl
theorem V15 P call c a b l st:ev P call (.ite c a b) l st=((dA (ev P call c l st)).bind fun(t,st1)=>if t then ev P call a l st1 else ev P call b l st1):=rfl
theorem V16 P call a i l st:ev P call (.sub a i) l st=((one (ev P call a l st)).bind fun(x,st1)=>(one (ev P call i l st1)).bind fun(y,ak)=>(nW x y ak).map fun v=>([v],ak)):=rfl
theorem V17 P call k a l st:ev P call (.slice k a) l st=((one (ev P call a l st)).bind fun(x,st1)=>d7 k x st1):=rfl
theorem V18 P call a k l st:ev P call (.attr a k) l st=((one (ev P call a l st)).bind fun(x,st1)=>match x with
  |.obj C i=>match P.cls.lookup C,st1[i]? with
   |some c,some (.inst fs)=>if c.attrs.contains k then(fs.lookup k).map fun v=>([v],st1)else none
   |_,_=>none
  |_=>none):=rfl
theorem V19 P call f args l st:ev P call (.call f args) l st=((one (ev P call f l st)).bind fun(x,st1)=>(ev P call args l st1).bind fun(vs,ak)=>match x with
  |.fn a=>(call a vs ak).map fun(v,cO)=>([v],cO)
  |_=>none):=rfl
theorem V20 P call b args l st:ev P call (.az b args) l st=((ev P call args l st).bind fun(vs,st1)=>nX b vs st1):=rfl
theorem V21 P call args l st:ev P call (.dK args) l st=((ev P call args l st).bind fun(vs,st1)=>(bU .zip vs st1).bind fun it=>if it.items.length≤ah then some ([.lst st1.length],st1++[.list it.items])else none):=rfl
theorem YN P call o k args l st:ev P call (.aF o k args) l st=((one (ev P call o l st)).bind fun(x,st1)=>if d8 P x k st1 then(ev P call args l st1).bind fun(vs,ak)=>iw P call x k vs ak else none):=rfl
theorem V23 P call c7 p sk src cond elt l st:ev P call (.comp c7 p sk src cond elt) l st=((ev P call src l st).bind fun(vs,st1)=>(bU sk vs st1).bind fun it=>
   (aB p it.guards (fun l' af=>dA (ev P call cond l' af)) (fun l' af=>one (ev P call elt l' af)) it.items (a9 c7 l) st1).bind fun(vs,ak)=>
    if vs.length≤ah then some ([.lst ak.length],ak++[.list vs])else none):=rfl
theorem V24 P call c7 p sk src p2 iI elt l st:ev P call (.iu c7 p sk src p2 iI elt) l st=((ev P call src l st).bind fun(vs,st1)=>(bU sk vs st1).bind fun it=>
   (bf p it.guards (fun l' af=>(one (ev P call iI l' af)).bind fun(x,ak)=>(fT x ak).bind fun pL=>
     cG p2 pL.guards (fun l' af=>one (ev P call elt l' af)) pL.items l' ak) it.items (a9 c7 l) st1).bind fun(vs,ak)=>
    if vs.length≤ah then some ([.lst ak.length],ak++[.list vs])else none):=rfl
theorem YQ P call l st:ex P call (.skip) l st=(some (.next,l,st)):=rfl
theorem X04 P call e l st:ex P call (.expr e) l st=((one (ev P call e l st)).map fun(_,st1)=>(.next,l,st1)):=rfl
theorem X05 P call p e l st:ex P call (.asg p e) l st=((one (ev P call e l st)).bind fun(v,st1)=>(cb p v l).map fun l1=>(.next,l1,st1)):=rfl
theorem YR P call o k e l st:ex P call (.setattr o k e) l st=((one (ev P call e l st)).bind fun(v,st1)=>(one (ev P call o l st1)).bind fun(x,ak)=>match x with
  |.obj C i=>match P.cls.lookup C,ak[i]? with
   |some c,some (.inst fs)=>if c.attrs.contains k∧fs.length<100∧i≠0 then some (.next,l,ak.set i (.inst (setField k v fs)))else none
   |_,_=>none
  |_=>none):=rfl
theorem X07 P call o i e l st:ex P call (.setitem o i e) l st=((one (ev P call e l st)).bind fun(v,st1)=>(one (ev P call o l st1)).bind fun(x,ak)=>(one (ev P call i l ak)).bind fun(y,cO)=>match x,y with
  |.lst a,.int k=>match cO[a]? with
   |some (.list vs)=>match idx k vs.length with
    |some j=>if a=0 then none else some (.next,l,cO.set a (.list (vs.set j v)))
    |none=>none
   |_=>none
  |_,_=>none):=rfl
theorem X08 P call e l st:ex P call (.ret e) l st=((one (ev P call e l st)).map fun(v,st1)=>(.ret v,l,st1)):=rfl
theorem X09 P call c a b l st:ex P call (.ite c a b) l st=((dA (ev P call c l st)).bind fun(t,st1)=>if t then ex P call a l st1 else ex P call b l st1):=rfl
theorem Vg P call c b l st:ex P call (.pJ c b) l st=((bR (fun l st=>dA (ev P call c l st)) (ex P call b) 1000 l st).map fun(l,st)=>(.next,l,st)):=rfl
theorem Vh P call p sk src b l st:ex P call (.loop p sk src b) l st=((ev P call src l st).bind fun(vs,st1)=>(bU sk vs st1).bind fun it=>
   (aw p it.guards (ex P call b) it.items l st1).map fun(l,st)=>(.next,l,st)):=rfl
theorem YS P call l st:ex P call (.cont) l st=(some (.cont,l,st)):=rfl
end
section
open PyProof.Rows PySem PySem.W
noncomputable def bw:List Str:=(["append","extend","pop","width","height","left","top","cells","holds","get","put","places","like","fill","rows","take","one","alpha","other","beta","first","second","product","hard","turned","stack","depth","push","x1","y1","x2","y2","way","row","covers","place_at","fine","counts","most","place","count","add","full","multiplied","is_empty","colour","colour_at","grain","message"]:List String).map Str.ofString
noncomputable def atName(k:Nat):Str:=bw.getD k (Str.ofString "?")
theorem nY:bw.Nodup:=by decide+kernel
inductive VR(Z σ:List Addr)(h:Heap):Value→V→Prop where
 |zK:VR Z σ h .none .none
 |bool(b):VR Z σ h (.bool b) (.bool b)
 |int(i t):VR Z σ h (.int i t) (.int i)
 |str(x t):VR Z σ h (.str x t) (.str x)
 |tup{a l ds}:a∉Z→IsTup h a (List.toArray l)→l.length=ds.length→ds.length≤ah→(∀(i:Nat) v d,l[i]? =some v→ds[i]? =some d→VR Z σ h v d)→VR Z σ h (.ref a) (.tup ds)
 |lst{a i}:σ[i]? =some a→VR Z σ h (.ref a) (.lst i)
 |obj{a dx C i}:a∉Z→σ[i]? =some dx→h.get? a=some (instObj C dx)→VR Z σ h (.ref a) (.obj C i)
 |fn(a):VR Z σ h (.ref a) (.fn a)
structure aj(Z σ:List Addr)(h:Heap)(l:List Value)(ds:List V):Prop where
 a1:l.length=ds.length
 a2:∀(i:Nat) v d,l[i]? =some v→ds[i]? =some d→VR Z σ h v d
def pM(Z σ:List Addr)(h:Heap)(e:DictEntry)(f:Nat×V):Prop:=
 f.1<bw.length∧(∃t,e.key=.str (atName f.1) t)∧VR Z σ h e.val f.2
structure eZ(Z σ:List Addr)(h:Heap)(es:List DictEntry)(fs:List (Nat×V)):Prop where
 a1:es.length=fs.length
 a2:∀(i:Nat) e f,es[i]? =some e→fs[i]? =some f→pM Z σ h e f
def CR(Z σ:List Addr)(h:Heap)(a:Addr):Cell→Prop
 |.list ds=>∃l n,h.get? a=some (listOf (List.toArray l) n)∧aj Z σ h l ds∧ds.length≤ah
 |.inst fs=>∃es n,h.get? a=some (dictOf es n)∧eZ Z σ h es fs∧fs.length≤100
structure Rel(base:Heap)(Z σ:List Addr)(st:St)(h:Heap):Prop where
 keep:∀b o,base.get? b=some o→h.get? b=some o
 len:σ.length=st.length
 nd:σ.Nodup
 fresh:∀a∈σ,base.get? a=none
 apart:∀a∈σ,a∉Z
 alive:∀a∈Z,h.get? a≠none
 bW:∀a∈Z,base.get? a=none
 cell:∀(i:Nat) c a,st[i]? =some c→σ[i]? =some a→CR Z σ h a c
structure Ext(W σ:List Addr)(s:Shared)(σ':List Addr)(s':Shared):Prop where
 pre:σ<+:σ'
 new:∀(i:Nat) a,σ.length≤i→σ'[i]? =some a→s.heap.get? a=none∨a∈W
 keep:∀a o,s.heap.get? a=some o→a∉σ→a∉W→s'.heap.get? a=some o
 live:∀a,a∉W→s.heap.get? a≠none→s'.heap.get? a≠none
 iJ:∀a o,σ[0]? =some a→a∉W→s.heap.get? a=some o→s'.heap.get? a=some o
 gens:s'.gens=s.gens
 os:s'.os=s.os
theorem Ext.refl(W σ) s:Ext W σ s σ s:=
 ⟨List.prefix_refl _,fun i a h e=>(by replace e:=(List.getElem?_eq_none h)▸e;cases e),fun _ _ e _ _=>e,fun _ _ e=>e,fun _ _ _ _ e=>e,rfl,rfl⟩
theorem cq{α:Type}{l l':List α}{i:Nat}{a:α}(h:l<+:l')(e:l[i]? =some a):l'[i]? =some a:=by
 obtain⟨t,rfl⟩:=h;haveI hi:=(cN e);exact((List.getElem?_append_left hi).symm▸e)
theorem ix{l l':List α}{a:α}(h:l<+:l')(hi:i<l.length)(e:l'[i]? =some a):l[i]? =some a:=by
 refine gP fun GP kQ=>?_;obtain⟨t,rfl⟩:=h;rw[List.getElem?_append_left hi]at e;refine kQ ?_;exact e
theorem Ext.zL(X:Ext W σ s σ' s')(ha:s.heap.get? a≠none)(hn:a∉σ)(hw:a∉W):a∉σ':=fun hm=>by
 obtain⟨i,hi⟩:=List.mem_iff_getElem?.mp hm;refine(Classical.em (i<σ.length)).elim (fun hl=>?_) fun hl=>?_
 ·exact hn (List.mem_of_getElem? (ix X.pre hl hi))
 ·exact(X.new i a (Nat.le_of_not_lt hl) hi).elim ha hw
theorem Ext.trans{W σ σ₁ σ₂:List Addr}{s iK rE:Shared}(X:Ext W σ s σ₁ iK)(Y:Ext W σ₁ iK σ₂ rE):Ext W σ s σ₂ rE where
 pre:=X.pre.trans Y.pre
 new:=fun i a hi e=>by
  refine(Classical.em (i<σ₁.length)).elim (fun hl=>?_) fun hl=>?_
  ·exact X.new i a hi (ix Y.pre hl e)
  ·rcases Y.new i a (Nat.le_of_not_lt hl) e with this|this
   ·refine(Classical.em (a∈W)).elim (fun hw=>?_) fun hw=>?_
    ·exact .inr hw
    ·cases q:s.heap.get? a with
     |none=>exact .inl rfl
     |some o=>exact absurd this (X.live a hw ((q.symm▸(fun e=>nomatch e))))
   ·exact .inr this
 keep:=fun a o e h1 h2=>Y.keep a o (X.keep a o e h1 h2) (X.zL (e.symm▸(fun e=>nomatch e)) h1 h2) h2
 live:=fun a hw e=>Y.live a hw (X.live a hw e)
 iJ:=fun a o h hw e=>Y.iJ a o (cq X.pre h) hw (X.iJ a o h hw e)
 gens:=Y.gens.trans X.gens
 os:=Y.os.trans X.os
theorem Ext.aN{W W' σ σ':List Addr}(X:Ext W σ s σ' s')(h:∀a∈W,a∈W'):Ext W' σ s σ' s':=
 ⟨X.pre,fun i a h1 h2=>(X.new i a h1 h2).imp id (h a),fun a o e h1 h2=>X.keep a o e h1 fun q=>h2 (h a q),fun a h1 h2=>X.live a (fun q=>h1 (h a q)) h2,fun a o e h2=>X.iJ a o e fun q=>h2 (h a q),X.gens,X.os⟩
theorem Ext.sub(X:Ext W σ s σ' s')(h:∀a∈W,a∈W'∨s.heap.get? a=none):Ext W' σ s σ' s':=
 ⟨X.pre,fun i a h1 h2=>(X.new i a h1 h2).elim .inl fun q=>(h a q).elim .inr .inl,fun a o e h1 h2=>X.keep a o e h1 fun q=>(h a q).elim h2 fun n=>(by rw[n]at e;cases e),fun a h1 h2=>X.live a (fun q=>(h a q).elim h1 h2) h2,fun a o e h2 e2=>X.iJ a o e (fun q=>(h a q).elim h2 fun n=>(by rw[n]at e2;cases e2)) e2,X.gens,X.os⟩
theorem VR.mono{Z σ σ':List Addr}{h h':Heap}(hp:σ<+:σ')(hk:∀a o,a∉Z→h.get? a=some o→(∀es n,o.data≠.dict es n)→(∀c,o.data≠.cell c)→o.cls≠.type "list"→h'.get? a=some o):
  ∀{v:Value} {d:V},VR Z σ h v d→VR Z σ' h' v d:=by
 intro v d H
 induction H with
 |zK=>exact .zK
 |bool b=>exact .bool b
 |int i t=>exact .int i t
 |str x t=>exact .str x t
 |tup hz ht hl hs _ ih=>
  refine gP fun GP MT=>?_;obtain⟨o,ho,hc,n,hd⟩:=ht;refine MT ?_;refine .tup hz ⟨o,hk _ o hz ho ?_ ?_ ?_,hc,n,hd⟩ hl hs ih
  ·intro es n e;replace e:=hd▸e;cases e
  ·intro c e;replace e:=hd▸e;cases e
  ·exact(hc.symm▸(fun e=>nomatch e))
 |lst e=>exact .lst (cq hp e)
 |obj hz e ho=>exact .obj hz (cq hp e) (hk _ _ hz ho (fun _ _ e=>nomatch e) (fun _ e=>nomatch e) (fun e=>nomatch e))
 |fn a=>exact .fn a
theorem VR.weaken{Z Z' σ:List Addr}{h:Heap}(hz:∀a,h.get? a≠none→a∉Z→a∉Z'):∀{v:Value} {d:V},VR Z σ h v d→VR Z' σ h v d:=by
 intro v d H
 induction H with
 |zK=>exact .zK
 |bool b=>exact .bool b
 |int i t=>exact .int i t
 |str x t=>exact .str x t
 |tup Hz ht hl hs _ ih=>
  refine .tup (hz _ ?_ Hz) ht hl hs ih;obtain⟨o,ho,_⟩:=ht;rw[ho];exact fun e=>nomatch e
 |lst e=>exact .lst e
 |obj Hz e ho=>exact .obj (hz _ (by rw[ho];exact fun e=>nomatch e) Hz) e ho
 |fn a=>exact .fn a
theorem aj.imp{Z Z' σ σ':List Addr}{h h':Heap}(X:aj Z σ h l ds)(f:∀v d,VR Z σ h v d→VR Z' σ' h' v d):aj Z' σ' h' l ds:=
 ⟨X.1,fun i v d e1 e2=>f v d (X.2 i v d e1 e2)⟩
theorem eZ.imp{Z Z' σ σ':List Addr}(X:eZ Z σ h l ds)(f:∀v d,VR Z σ h v d→VR Z' σ' h' v d):eZ Z' σ' h' l ds:=
 ⟨X.1,fun i v d e1 e2=>⟨(X.2 i v d e1 e2).1,(X.2 i v d e1 e2).2.1,f _ _ (X.2 i v d e1 e2).2.2⟩⟩
theorem aj.nil{Z σ:List Addr}{h:Heap}:aj Z σ h [] []:=⟨rfl,fun i v d e=>by injection e⟩
theorem aj.cons{Z σ:List Addr}{h:Heap}{v:Value}{d:V}{l:List Value}{ds:List V}(x:VR Z σ h v d)(X:aj Z σ h l ds):aj Z σ h (v::l) (d::ds):=
 ⟨by simp[X.1],fun i u e e1 e2=>by
  cases i with
  |zero=>simp at e1 e2;subst e1 e2;exact x
  |succ i=>simp at e1 e2;exact X.2 i u e e1 e2⟩
theorem aj.head{Z σ:List Addr}{h:Heap}{v:Value}{d:V}{l:List Value}{ds:List V}(X:aj Z σ h (v::l) (d::ds)):VR Z σ h v d:=X.2 0 v d rfl rfl
theorem aj.tail{Z σ:List Addr}{h:Heap}{v:Value}{d:V}{l:List Value}{ds:List V}(X:aj Z σ h (v::l) (d::ds)):aj Z σ h l ds:=
 ⟨by haveI:=X.1;simpa using this,fun i u e e1 e2=>X.2 (i+1) u e (e1) (e2)⟩
theorem aj.aW{Z σ:List Addr}{h:Heap}{l:List Value}{d:V}{ds:List V}(X:aj Z σ h l (d::ds)){GG:Prop}(kk:∀v l',l=v::l'→VR Z σ h v d→aj Z σ h l' ds→GG):GG:=by
 cases l with
 |nil=>haveI:=X.1;injection this
 |cons v l'=>exact kk v l' rfl X.head X.tail
theorem aj.lN(X:aj Z σ h l (d::ds)):∃v l',l=v::l'∧VR Z σ h v d∧aj Z σ h l' ds:=aj.aW X fun x1 x2 x3 x4 x5=>⟨x1,x2,x3,x4,x5⟩
theorem aj.da{Z σ:List Addr}{h:Heap}{l:List Value}(X:aj Z σ h l []):l=[]:=List.length_eq_zero_iff.mp X.1
theorem aj.jb(X:aj Z σ h l ds){i:Nat}(e:ds[i]? =some d){GG:Prop}(kk:∀v,l[i]? =some v→VR Z σ h v d→GG):GG:=by
 haveI hi:=(cN e);haveI hl:i<l.length:=X.1▸hi;exact kk (l[i]) (by simp[hl]) (X.2 i _ d (by simp[hl]) e)
theorem aj.get{Z σ:List Addr}{h:Heap}{l:List Value}{ds:List V}(X:aj Z σ h l ds){i:Nat}{d:V}(e:ds[i]? =some d):∃v,l[i]? =some v∧VR Z σ h v d:=aj.jb X e fun x1 x2 x3=>⟨x1,x2,x3⟩
theorem aj.append{Z σ:List Addr}{h:Heap}{l l':List Value}{ds ds':List V}(X:aj Z σ h l ds)(Y:aj Z σ h l' ds'):aj Z σ h (l++l') (ds++ds'):=by
 refine⟨by simp[X.1,Y.1],fun i v d e1 e2=>?_⟩
 by_cases hi:i<l.length
 ·rw[List.getElem?_append_left hi]at e1
  rw[List.getElem?_append_left (X.1▸hi)]at e2;exact X.2 i v d e1 e2
 ·rw[List.getElem?_append_right (Nat.le_of_not_lt hi)]at e1
  rw[List.getElem?_append_right (X.1▸Nat.le_of_not_lt hi)]at e2;exact Y.2 _ v d e1 (X.1▸e2)
theorem Rel.dS{base:Heap}{Z σ:List Addr}{st:St}{h:Heap}(R:Rel base Z σ st h){a:Addr}(ha:a∈σ){GG:Prop}(kk:∀o,h.get? a=some o→(((∃l n,o=listOf l n)∨(∃es n,o=dictOf es n)))→GG):GG:=by
 obtain⟨i,hi⟩:=List.mem_iff_getElem?.mp ha;haveI hl:=(cN hi);have hs:i<st.length:=R.len▸hl;haveI C:=R.cell i st[i] a (by simp[hs]) hi;cases hc:st[i]with
 |list ds=>rw[hc]at C;obtain⟨l,n,g,_⟩:=C;exact kk _ g (.inl ⟨_,_,rfl⟩)
 |inst fs=>rw[hc]at C;obtain⟨es,n,g,_⟩:=C;exact kk _ g (.inr ⟨_,_,rfl⟩)
theorem Rel.lO{st:St}{h:Heap}(R:Rel base Z σ st h)(ha:a∈σ):h.get? a≠none:=by
 refine R.dS ha fun o g _=>?_;exact(g.symm▸(fun e=>nomatch e))
theorem VR.ext{base:Heap}{Z σ σ' W:List Addr}{st:St}{s s':Shared}(R:Rel base Z σ st s.heap)(X:Ext W σ s σ' s')(hW:∀a∈W,a∈Z∨(∃c,s.heap.IsCell a c)∨(∃m,s.heap.Ns a m)∨s.heap.get? a=none){v:Value}{d:V}
  (H:VR Z σ s.heap v d):VR Z σ' s'.heap v d:=by
 refine H.mono X.pre fun a o hz e nd nc nl=>X.keep a o e (fun hm=>?_) fun hm=>?_
 ·refine R.dS hm fun o' g xB=>?_;obtain h|h:=xB
  ·obtain⟨l,n,rfl⟩:=h;replace g:=e▸g;cases g;exact nl rfl
  ·obtain⟨l,n,rfl⟩:=h;replace g:=e▸g;cases g;exact nd _ _ rfl
 ·rcases hW a hm with h|⟨c,o',g,hd⟩|⟨m,o',es,ep,g,hd,_⟩|h
  ·exact hz h
  ·replace g:=e▸g;cases g;exact nc _ hd
  ·replace g:=e▸g;cases g;exact nd _ _ hd
  ·replace h:=e▸h;cases h
end
section
open PyProof.Rows PySem PySem.Calls PySem.W
variable{Z σ:List Addr}{h:Heap}{v:Value}{d:V}
theorem T6(x:VR Z σ h v .none):v=.none:=by cases x;rfl
theorem MU(x:VR Z σ h v (.bool b)):v=.bool b:=by cases x;rfl
theorem bx(x:VR Z σ h v (.int i)){GG:Prop}(kk:∀t,v=.int i t→GG):GG:=by cases x;exact kk _ rfl
theorem YT(x:VR Z σ h v (.int i)):∃t,v=.int i t:=bx x fun x1 x2=>⟨x1,x2⟩
theorem zM(x:VR Z σ h v (.str i)){GG:Prop}(kk:∀t,v=.str i t→GG):GG:=by cases x;exact kk _ rfl
theorem VRs(x:VR Z σ h v (.str i)):∃t,v=.str i t:=zM x fun x1 x2=>⟨x1,x2⟩
theorem VRf(x:VR Z σ h v (.fn a)):v=.ref a:=by cases x;rfl
end
section
open PyProof.Rows PySem PySem.Calls PySem.W
variable{α β γ:Type}
theorem cU{a b:α}(h:some a=some b):b=a:=Option.some.inj h.symm
theorem t5{a b:α}{s t:β}(h:some (a,s)=some (b,t)):b=a∧t=s:=by cases h;exact⟨rfl,rfl⟩
theorem DL{a b:α}{s t:β}(h:some ([a],s)=some ([b],t)):b=a∧t=s:=by cases h;exact⟨rfl,rfl⟩
theorem Le{a b:α}{s t:β}{x y:γ}(h:some (a,s,x)=some (b,t,y)):b=a∧t=s∧y=x:=by cases h;exact⟨rfl,rfl,rfl⟩
theorem bX{a:α}{p:Prop}(h:none=some a):p:=nomatch h
end
section
open PyProof.Rows PySem PySem.Calls PySem.W
@[elab_as_elim] theorem rF {vs:List V}{st:St}{it:It}(h:bU .zip vs st=some it){M:List V→It→Prop}(k:∀xs ys:List V,M [.tup xs,.tup ys] ⟨(xs.zip ys).map fun(a,b)=>V.tup [a,b],[]⟩):M vs it:=by
 refine U1 h ?_;intro x y h;refine tE h ?_;intro xs h;refine tE h ?_;intro ys h;exact vu h (k xs ys)
@[elab_as_elim] theorem xC {vs:List V}{st:St}{it:It}(h:bU .enum vs st=some it){M:List V→It→Prop}(k:∀(l:Nat) (us:List V),st[l]? =some (.list us)→M [.lst l] ⟨ey 0 us,[(l,us)]⟩):M vs it:=by
 refine DK h ?_;intro x h;refine lE h ?_;intro l us h1 h;exact vu h (k l us h1)
@[elab_as_elim] theorem zN {vs:List V}{st:St}{it:It}(h:bU .dY vs st=some it){M:List V→It→Prop}(k1:∀b:Int,(aZ b∧b≤ah)→M [.int b] ⟨aD 0 1 b.toNat,[]⟩)
  (k2:∀a b:Int,(aZ a∧aZ b∧b - a≤ah)→M [.int a,.int b] ⟨aD a 1 (b - a).toNat,[]⟩)
  (k3:∀a b c:Int,(aZ a∧aZ b∧1≤c∧c<1073741824∧b - a≤ah)→M [.int a,.int b,.int c] ⟨aD a c ((b - a+c - 1) / c).toNat,[]⟩):M vs it:=by
 refine U0 h ?_ ?_ ?_
 ·intro x h
  refine iE h ?_;intro b h;exact dk h fun c h=>vu h (k1 b c)
 ·intro x y h
  refine iE h ?_;intro a h;refine iE h ?_;intro b h;exact dk h fun c h=>vu h (k2 a b c)
 ·intro x y z h
  refine iE h ?_;intro a h;refine iE h ?_;intro b h;refine iE h ?_;intro c h;exact dk h fun d h=>vu h (k3 a b c d)
theorem nZ(h:cb (.vars ks) d l=some l'){GG:Prop}(kk:∀ds,d=.tup ds→cp ks ds l=some l'→GG):GG:=by
 cases d<;>first|exact bX h|exact kk _ rfl h
theorem lQ(h:cb (.du ks) d l=some l'){GG:Prop}(kk:∀ds,d=.tup ds→ds.length=ks.length→cp ks.reverse ds.reverse l=some l'→GG):GG:=by
 cases d<;>try exact bX h
 rename_i ds;haveI h:(if ds.length=ks.length then cp ks.reverse ds.reverse l else none)=some l':=h
 by_cases hl:ds.length=ks.length
 ·rw[if_pos hl]at h;exact kk ds rfl hl h
 ·rw[if_neg hl]at h;exact bX h
theorem n4{k:Nat}{ks:List Nat}{l l':Loc}(h:cb (.nest k ks) d l=some l'){GG:Prop}(kk:∀a ds,d=.tup [a,.tup ds]→cp ks ds (l.set k (some a))=some l'→GG):GG:=by
 cases d<;>try exact bX h
 rename_i ds;rcases ds with _|⟨a,_|⟨b,_|⟨c,r⟩⟩⟩<;>try exact bX h
 ·cases b<;>first|exact bX h|exact kk _ _ rfl h
 ·cases b<;>exact bX h
theorem D9{st:St}(h:vv st x y=some b):(∃i j,x=.int i∧y=.int j∧b=(i==j))∨(∃i j,x=.str i∧y=.str j∧b=(i==j))∨
  (∃p q,toPy 8 st x=some p∧toPy 8 st y=some q∧b=PyData.eqv p q):=by
 have two:∀{u v:Option PyData},(match u,v with|some p,some q=>some (PyData.eqv p q)|_,_=>none)=some b→∃p q,u=some p∧v=some q∧b=PyData.eqv p q:=fun {u v} e=>by
  cases u with
  |none=>exact bX e
  |some p=>cases v with
   |none=>exact bX e
   |some q=>exact⟨p,q,rfl,rfl,cU e⟩
 cases x<;>try exact bX h
 ·cases y<;>try exact bX h
  exact .inl ⟨_,_,rfl,rfl,cU h⟩
 ·cases y<;>try exact bX h
  exact .inr (.inl ⟨_,_,rfl,rfl,cU h⟩)
 ·cases y<;>try exact bX h
  exact .inr (.inr (two h))
 ·cases y<;>try exact bX h
  exact .inr (.inr (two h))
@[elab_as_elim] theorem Jg {op:Operator}{x y d:V}{st af:St}(h:jP op x y st=some ([d],af)){M:Operator→V→V→V→St→Prop}
  (k1:∀op i j c,binI op i j=some c→M op (.int i) (.int j) (.int c) st)
  (k2:∀(i j:Nat) (xs ys:List V),st[i]? =some (.list xs)→st[j]? =some (.list ys)→xs.length+ys.length≤ah→M .Add (.lst i) (.lst j) (.lst st.length) (st++[.list (xs++ys)]))
  (k3:∀(i:Nat) (n:Int) (x0:V),st[i]? =some (.list [x0])→(0≤n∧n≤ah)→M .Mult (.lst i) (.int n) (.lst st.length) (st++[.list (List.replicate n.toNat x0)])):M op x y d af:=by
 cases x with
 |int i=>exact iE (M:=fun y=>M op (.int i) y d af) h fun j h=>mO (show(binI op i j).map (fun c=>([V.int c],st))=_ from h) fun c hc e=>nN (N:=fun d s=>M op (.int i) (.int j) d s) (congrArg some e) (k1 op i j c hc)
 |lst i=>cases y with
  |lst j=>cases op with
   |Add=>exact HG h fun xs h1 h=>HG h fun ys h2 h=>dk h fun hc h=>nN (N:=fun d s=>M .Add (.lst i) (.lst j) d s) h (k2 i j xs ys h1 h2 hc)
   |_=>cases h
  |int n=>cases op with
   |Mult=>exact HG h fun xs h1 h=>DK (M:=fun xs=>st[i]? =some (.list xs)→M .Mult (.lst i) (.int n) d af) h (fun x h h1=>dk h fun hc h=>nN (N:=fun d s=>M .Mult (.lst i) (.int n) d s) h (k3 i n x h1 hc)) h1
   |_=>cases h
  |_=>cases h
 |_=>cases h
noncomputable def vB(x:V):Option Bool:=match x with
 |.bool b=>some b
 |_=>none
noncomputable def vI(x:V):Option Int:=match x with
 |.int b=>some b
 |_=>none
noncomputable def vO(x:V):Option (Nat×Nat):=match x with
 |.obj c i=>some (c,i)
 |_=>none
noncomputable def vL(x:V):Option Nat:=match x with
 |.lst i=>some i
 |_=>none
noncomputable def vF(x:V):Option Nat:=match x with
 |.fn i=>some i
 |_=>none
theorem rG(h:vB x=some b):x=.bool b:=by cases x<;>cases h<;>rfl
theorem oq(h:vI x=some b):x=.int b:=by cases x<;>cases h<;>rfl
theorem MV(h:vO x=some b):x=.obj b.1 b.2:=by cases x<;>cases h<;>rfl
theorem MZ(h:vL x=some b):x=.lst b:=by cases x<;>cases h<;>rfl
theorem HJ(h:vF x=some b):x=.fn b:=by cases x<;>cases h<;>rfl
def Ok(A:Around)(n:Nat):Prop:=A.handled=none∧A.depth+2 * n+4<recursionLimit∧A.units+8 * n+400<cLine
theorem Ok.units(h:Ok A n):A.units+400<cLine:=by haveI:=h.2.2;exact aO 0x22106a8100210106a8120183002211 rt this
theorem Ok.in1(h:Ok A (n+1)):Ok A.in1 n:=⟨h.1,by haveI:=h.2.1;show A.depth+_+_<_;exact aO 0x222041102300221020411110223002211 rt this,by haveI:=h.2.2;show A.units+1+_+_<_;exact aO 0x22206a8110183110022210206a8111102183002211 rt this⟩
theorem Ok.deeper{A:Around}{n:Nat}{env:Env}(h:Ok A (n+1)):Ok (A.deeper env) n:=
 ⟨h.1,by haveI:=h.2.1;show A.depth+1+_+_<_;exact aO 0x222041102311002221020411110223002211 rt this,by haveI:=h.2.2;show A.units+3+_+_<_;exact aO 0x22206a8110183310022210206a8111102183002211 rt this⟩
structure bl(env:Env)(sc:List (Str×NameKind)):Prop where
 kind:env.scope.kind=.function
 glob:env.globals=mainGlobals
 blt:env.builtins=builtinsNs
 kinds:∀x kd,sc.lookup x=some kd→env.kindOf x=some kd∨(kd=.free∧env.kindOf x=some .cell)
 nodup:(sc.map (·.1)).Nodup
structure FS(base:Heap)(Z σ:List Addr)(h:Heap)(env:Env)(sc:List (Str×NameKind))(loc:Loc):Prop where
 len:loc.length=sc.length
 ns:∃m,h.Ns env.locals m∧∀(k:Nat) x d,sc[k]? =some (x,.local)→loc[k]? =some (some d)→∃v,m x=some v∧VR Z σ h v d
 cells:∀(k:Nat) x kd,sc[k]? =some (x,kd)→kd=.cell∨kd=.free→∃c w,env.cells.lookup x=some c∧h.IsCell c w∧base.get? c=none∧c∉Z∧∀d,loc[k]? =some (some d)→∃v,w=some v∧VR Z σ h v d
 apart:∀x y c,env.cells.lookup x=some c→env.cells.lookup y=some c→x=y
 lf:base.get? env.locals=none
 vz:env.locals∉σ
 lz:env.locals∉Z
 only:∀(k:Nat) x kd d,sc[k]? =some (x,kd)→loc[k]? =some (some d)→kd=.local∨kd=.cell∨kd=.free
noncomputable def aU(sc:List (Str×NameKind))(x:Str):Nat:=sc.findIdx (·.1==x)
theorem slot_get{sc:List (Str×NameKind)}{x:Str}{kd:NameKind}(h:sc.lookup x=some kd):sc[aU sc x]? =some (x,kd):=by
 unfold aU
 induction sc with
 |nil=>(exact bX h)
 |cons p r ih=>
  obtain⟨y,k⟩:=p;rw[List.lookup_cons]at h;simp only[List.findIdx_cons]
  by_cases hy:x=y
  ·subst hy
   simp at h;simp[h]
  ·haveI h1:(x==y)=false:=by simpa using hy
   haveI h2:(y==x)=false:=by simpa using fun e:y=x=>hy e.symm
   haveI h:=h1▸h;simp only[h2,cond_false];exact ih h
theorem bq{sc:List (Str×NameKind)}(hn:(sc.map (·.1)).Nodup):∀{k:Nat} {x:Str} {kd:NameKind},sc[k]? =some (x,kd)→sc.lookup x=some kd∧aU sc x=k:=by
 induction sc with
 |nil=>intro k x kd h;injection h
 |cons p r ih=>
  obtain⟨y,jQ⟩:=p;intro k x kd h;rw[List.map_cons,List.nodup_cons]at hn;cases k with
  |zero=>
   simp at h;obtain⟨rfl,rfl⟩:=h;constructor
   ·simp[List.lookup_cons]
   ·simp[aU,List.findIdx_cons]
  |succ k=>
   simp at h;haveI hm:x∈r.map (·.1):=List.mem_map.mpr ⟨_,List.mem_of_getElem? h,rfl⟩;have jK:x≠y:=fun e=>hn.1 (e▸hm);haveI h1:=(ih hn.2 h).1;haveI h2:=(ih hn.2 h).2;constructor
   ·simp only[List.lookup_cons,show(x==y)=false by simpa using jK];exact h1
   ·unfold aU at h2⊢
    simp only[List.findIdx_cons,show(y==x)=false by simpa using fun e:y=x=>jK e.symm];simp[h2]
end
section
open PyProof.Rows PySem PySem.Calls PySem.W
variable{base:Heap}{Z σ σ' W:List Addr}{st:St}{s s':Shared}{env:Env}{sc:List (Str×NameKind)}{loc:Loc}
theorem Rel.kI(R:Rel base Z σ st s.heap)(h:s.heap.IsCell c w):c∉σ:=fun hm=>by
 obtain⟨o,g,hd⟩:=h;refine R.dS hm fun o' g' rH=>?_;obtain h|h:=rH
 ·obtain⟨l,n,rfl⟩:=h;rw[g]at g';obtain rfl:=cU g';cases hd
 ·obtain⟨l,n,rfl⟩:=h;rw[g]at g';obtain rfl:=cU g';cases hd
theorem FS.ext(R:Rel base Z σ st s.heap)(F:FS base Z σ s.heap env sc loc)(X:Ext [] σ s σ' s'):FS base Z σ' s'.heap env sc loc:=by
 have vr:∀{v d},VR Z σ s.heap v d→VR Z σ' s'.heap v d:=fun H=>VR.ext R X jM H;refine b9 (F.ns) fun m hn hm=>?_;have hL:∃o,s.heap.get? env.locals=some o:=let ⟨o,_,_,e,_⟩:=hn;⟨o,e⟩
 refine⟨F.len,⟨m,?_,fun k x d e1 e2=>?_⟩,fun k x kd e1 e2=>?_,F.apart,F.lf,?_,F.lz,F.only⟩
 ·obtain⟨o,es,ep,e,r⟩:=hn
  exact⟨o,es,ep,X.keep _ _ e F.vz (fun h=>nomatch h),r⟩
 ·refine b9 (hm k x d e1 e2) fun v a b=>?_
  exact⟨v,a,vr b⟩
 ·refine cK (F.cells k x kd e1 e2) fun c w h1 h2 h3 h4 h5=>?_
  refine⟨c,w,h1,?_,h3,h4,fun d e=>?_⟩
  ·haveI:=R.kI h2
   obtain⟨o,g,hd⟩:=h2;exact⟨o,X.keep _ _ g this (fun h=>nomatch h),hd⟩
  ·refine b9 (h5 d e) fun v a b=>?_
   exact⟨v,a,vr b⟩
 ·obtain⟨o,e⟩:=hL
  exact X.zL ((e.symm▸(fun e=>nomatch e))) F.vz (fun h=>nomatch h)
end
section
open PyProof.Rows PySem PySem.Calls PySem.W
structure Gd(K:Frag)(base:Heap):Prop where
 X:K.In base
 T:∃p loose mg mb,TopRead p loose mg mb base
set_option genCtorIdx false in
set_option genSizeOf false in
set_option genInjectivity false in
inductive GV where
 |val(v:V)
 |bi(b:Bi)
 |dY|zip|enum
noncomputable def jc:GV→Option Value
 |.bi .len=>some (.builtin "len")
 |.bi .int=>some (.type "int")
 |.bi .ja=>some (.builtin "max")
 |.bi .gj=>some (.builtin "min")
 |.bi .tuple=>some (.type "tuple")
 |.bi .list=>some (.type "list")
 |.bi .sorted=>some (.builtin "sorted")
 |.dY=>some (.type "range")
 |.zip=>some (.type "zip")
 |.enum=>some (.type "enumerate")
 |.val _=>none
def rq(K:Frag)(base:Heap)(G:Str→Option GV):Prop:=
 ∀x g,G x=some g→match g with
  |.val v=>∃v',nsIn K mainGlobals x=some (some v')∧∀(Z σ:List Addr) (h:Heap),(∀b o,base.get? b=some o→h.get? b=some o)→(∀a∈Z,base.get? a=none)→VR Z σ h v' v
  |g=>nsIn K mainGlobals x=some none∧x≠"__name__"∧∃v,jc g=some v∧bootBuiltins x=some v
end
section
open PyProof.Rows PySem PySem.Calls PySem.W
variable(prog:Program)(w:World)(K:Frag)(base:Heap)(P:Pg)(call:bj)(n:Nat)(sc:List (Str×NameKind))
def av(e:Expr)(e':E):Prop:=∀{env:Env} {A:Around} {Z σ:List Addr} {s:Shared} {loc:Loc} {st:St} {v:V} {af:St} {Q:Value→Shared→Prop} {E:Value→Shared→Prop},
 Ok A n→bl env sc→Rel base Z σ st s.heap→FS base Z σ s.heap env sc loc→one (ev P call e' loc st)=some (v,af)→
 (∀σ' v' s',Rel base Z σ' af s'.heap→VR Z σ' s'.heap v' v→Ext [] σ s σ' s'→Q v' s')→wpAny (model prog w) A (eval e env) Q E s
def cu(e:Expr)(e':E):Prop:=∀{env:Env} {A:Around} {Z σ:List Addr} {s:Shared} {loc:Loc} {st:St} {b:Bool} {af:St} {Q:Bool→Shared→Prop} {E:Value→Shared→Prop},
 Ok A n→bl env sc→Rel base Z σ st s.heap→FS base Z σ s.heap env sc loc→dA (ev P call e' loc st)=some (b,af)→
 (∀σ' s',Rel base Z σ' af s'.heap→Ext [] σ s σ' s'→Q b s')→wpAny (model prog w) A (isTrue e env (eval e env)) Q E s
def ej(es:List Expr)(e':E):Prop:=∀{env:Env} {A:Around} {Z σ:List Addr} {s:Shared} {loc:Loc} {st:St} {vs:List V} {af:St} {pos:Pos} {Q:List Value→Shared→Prop} {E:Value→Shared→Prop},
 Ok A n→bl env sc→Rel base Z σ st s.heap→FS base Z σ s.heap env sc loc→ev P call e' loc st=some (vs,af)→
 (∀σ' Ea s',Rel base Z σ' af s'.heap→aj Z σ' s'.heap Ea vs→Ext [] σ s σ' s'→Q Ea s')→wpAny (model prog w) A (spliced (backTo pos (starEach es env))) Q E s
def lR:Prop:=∀{a:Addr} {vs:List V} {st:St} {v:V} {af:St} {A:Around} {Z σ:List Addr} {s:Shared} {args:List Value} {Q:Value→Shared→Prop} {E:Value→Shared→Prop},
 call a vs st=some (v,af)→Ok A n→Rel base Z σ st s.heap→aj Z σ s.heap args vs→
 (∀σ' v' s',Rel base Z σ' af s'.heap→VR Z σ' s'.heap v' v→Ext [] σ s σ' s'→Q v' s')→
 codeAny (model prog w) A (.call (.ref a) ⟨args,[]⟩) (fun r s'=>match r with|.ok (.ret v)=>Q v s'|.ok _=>False|.error e=>E e s') s
end
section
open PyProof.Rows PySem PySem.Calls PySem.W
variable{prog:Program}{w:World}{K:Frag}{base:Heap}{P:Pg}{call:bj}{n:Nat}{sc:List (Str×NameKind)}
theorem aE{v:V}{st:St}(h:one r=some (v,st)):r=some ([v],st):=by
 rcases r with _|⟨_|⟨x,_|⟨y,r⟩⟩,s⟩<;>cases h
 rfl
theorem bN{st:St}(h:dA r=some (b,st)):one r=some (.bool b,st):=by
 rcases r with _|⟨_|⟨x,_|⟨y,r⟩⟩,s⟩
 ·cases h
 ·cases h
 ·cases x<;>cases h
  rfl
 ·cases x<;>cases h
theorem Rel.dc{st:St}{s:Shared}(R:Rel base Z σ st s.heap){s':Shared}(h:s'.heap=s.heap):Rel base Z σ st s'.heap:=h▸R
theorem Ext.toks:Ext W σ s σ {s with toks:=k}:=
 ⟨List.prefix_refl _,fun i a h e=>(by haveI e:=(List.getElem?_eq_none h)▸e;(exact bX e)),fun _ _ e _ _=>e,fun _ _ e=>e,fun _ _ _ _ e=>e,rfl,rfl⟩
theorem aI(e:Expr):av prog w base P call n sc e .stuck:=fun _ _ _ _ h _=>by injection h
theorem lS(e:Expr):cu prog w base P call n sc e .stuck:=fun _ _ _ _ h _=>by injection h
theorem lT(e:List Expr):ej prog w base P call n sc e .stuck:=fun _ _ _ _ h _=>by injection h
theorem t6{e:Expr}{e':E}(H:av prog w base P call n sc e e')(he:∀env whole,isTrue e env whole=(do let v ←whole;standAt e.pos;holding [v] (truthy v))):
  cu prog w base P call n sc e e':=fun {env A Z σ s loc st b af Q E} ok eo R F h hQ=>by
 refine wpAny_isTrue_value (H ok eo R F (bN h) fun σ' v' s' R' V X=>?_) (he env _)
 (obtain rfl:=MU V)
 exact wpAny_truthy_bool (hQ σ' s' R' X)
theorem Eb(i:Int)(k:Nat)(pos:Pos):av prog w base P call n sc (.Constant (.int i) k pos) (.cst (.int i)):=fun {env A Z σ s loc st v af Q E} ok eo R F h hQ=>by
 revert hQ;refine Ld h ?_;intro hQ;exact wpAny_Constant_int (hQ σ _ _ (R.dc rfl) (.int _ _) .toks)
theorem Ec(x:Str)(k:Nat)(pos:Pos):av prog w base P call n sc (.Constant (.str x) k pos) (.cst (.str x)):=fun {env A Z σ s loc st v af Q E} ok eo R F h hQ=>by
 refine gP fun GP kQ=>?_;revert hQ;refine Ld h ?_;intro hQ;refine kQ ?_;intro Γ p _;exact hQ σ (.str x s.toks) {s with toks:=s.toks+1} (R.dc rfl) (.str _ _) .toks
theorem zO(b:Bool)(k:Nat)(pos:Pos):av prog w base P call n sc (.Constant (.bool b) k pos) (.cst (.bool b)):=fun {env A Z σ s loc st v af Q E} ok eo R F h hQ=>by
 refine gP fun GP kQ=>?_;revert hQ;refine Ld h ?_;intro hQ;refine kQ ?_;intro Γ p _;exact hQ σ (.bool b) s R (.bool _) (.refl _ _ _)
theorem zP(k:Nat)(pos:Pos):av prog w base P call n sc (.Constant .none k pos) (.cst .none):=fun {env A Z σ s loc st v af Q E} ok eo R F h hQ=>by
 refine gP fun GP kQ=>?_;revert hQ;refine Ld h ?_;intro hQ;refine kQ ?_;intro Γ p _;exact hQ σ .none s R .zK (.refl _ _ _)
theorem zQ{x:Str}{pos:Pos}{kd:NameKind}(hk:sc.lookup x=some kd)(hd:(x==("__debug__":Str))=false)(hc:(x==("__classdict__":Str))=false):
  av prog w base P call n sc (.Name x pos) (.loc (aU sc x)):=fun {env A Z σ s loc st v af Q E} ok eo R F h hQ=>by
 refine gP fun GP kQ=>?_;have hs:=slot_get hk;revert hQ;refine U2 h ?_;intro rI hv hQ
 ·refine gP fun GP xD=>?_
  rcases F.only _ _ _ _ hs hv with e|e|e
  ·subst e
   refine b9 (F.ns) fun m hn hm=>?_;refine b9 (hm _ _ _ hs hv) fun v' h1 h2=>?_;rcases eo.kinds _ _ hk with k|⟨k,_⟩
   ·refine xD ?_;refine kQ ?_;exact wpAny_Name (wpAny_loadName_local eo.kind k hn h1 (hQ σ v' s R h2 (.refl _ _ _))) hd
   ·cases k
  ·refine cK (F.cells _ _ _ hs (.inl e)) fun c w' h1 h2 _ _ h5=>?_
   refine b9 (h5 _ hv) fun v' eq1 h6=>?_;obtain rfl:=eq1;subst e;rcases eo.kinds _ _ hk with k|⟨k,_⟩
   ·refine xD ?_;refine kQ ?_;exact wpAny_Name (wpAny_loadName_cell eo.kind k h1 h2 (hQ σ v' s R h6 (.refl _ _ _))) hd
   ·cases k
  ·refine cK (F.cells _ _ _ hs (.inr e)) fun c w' h1 h2 _ _ h5=>?_
   refine b9 (h5 _ hv) fun v' eq1 h6=>?_;obtain rfl:=eq1;subst e;rcases eo.kinds _ _ hk with k|⟨_,k⟩
   ·refine xD ?_;refine kQ ?_;exact wpAny_Name (wpAny_loadName_free eo.kind k h1 h2 (hQ σ v' s R h6 (.refl _ _ _)) hc) hd
   ·refine xD ?_;refine kQ ?_;exact wpAny_Name (wpAny_loadName_cell eo.kind k h1 h2 (hQ σ v' s R h6 (.refl _ _ _))) hd
theorem t7(g:Gd K base)(fb:rq K base G)(hk:sc.lookup x=some .globalImplicit)(hg:G x=some (.val rI))(hd:(x==("__debug__":Str))=false):
  av prog w base P call n sc (.Name x pos) (.cst rI):=fun {env A Z σ s loc st v af Q E} ok eo R F h hQ=>by
 refine gP fun GP kQ=>?_;revert hQ;refine Ld h ?_;intro hQ;refine b9 (fb _ _ hg) fun v' h1 h2=>?_;refine vg (g.T) fun p loose mg mb T=>?_;rcases eo.kinds _ _ hk with k|⟨k,_⟩
 ·refine kQ ?_;refine Name_function_global eo.kind k (loadGlobal_global (env:=env) (mg:=mg) (((eo.glob).symm▸(T.g.keeps R.keep))) (mg_of g.X T.g h1) ?_) hd
  exact hQ σ v' s R (h2 Z σ s.heap R.keep R.bW) (.refl _ _ _)
 ·cases k
theorem cA(g:Gd K base)(fb:rq K base G)(hk:sc.lookup x=some .globalImplicit)(hg:G x=some gv)(hb:jc gv=some bv)(hd:(x==("__debug__":Str))=false)
  {st:St} {E:Value→Shared→Prop} (eo:bl env sc) (R:Rel base Z σ st s.heap) (h:Q bv s):
  wpAny (model prog w) A (eval (.Name x pos) env) Q E s:=by
 refine gP fun GP kQ=>?_;refine vg (g.T) fun p loose mg mb T=>?_
 haveI key:nsIn K mainGlobals x=some none∧x≠"__name__"∧∃v,jc gv=some v∧bootBuiltins x=some v:=by
  haveI:=fb _ _ hg;cases gv<;>first|exact this|((exact bX hb))
 refine Mi key fun h1 h2 v h3 h4=>?_;try clear key
 haveI h3:=hb▸h3
 (obtain rfl:=cU h3)
 rcases eo.kinds _ _ hk with k|⟨k,_⟩
 ·refine kQ ?_;exact Name_function_global eo.kind k (loadGlobal_builtin (env:=env) (mg:=mg) (mb:=mb) (by rw[eo.glob];exact T.g.keeps R.keep) (mg_none_of g.X T.g h1) (by rw[eo.blt];exact T.b.keeps R.keep) ((T.builtins x h2).trans h4) h) hd
 ·cases k
theorem Ext.push{W σ:List Addr}{s:Shared}(o:Obj){k:Nat}:Ext W σ s σ {s with heap:=s.heap.push o,toks:=k} where
 pre:=List.prefix_refl _
 new:=fun i a h e=>by haveI e:=(List.getElem?_eq_none h)▸e;(exact bX e)
 keep:=fun a o' e _ _=>Heap.get?_push_of_some _ e
 iJ:=fun a o' _ _ e=>Heap.get?_push_of_some _ e
 live:=fun a _ e=>by
  refine iG (s.heap.get? a) (fun q=>?_) fun o' q=>?_
  ·exact absurd q e
  ·show(s.heap.push o).get? a≠none;exact((Heap.get?_push_of_some _ q).symm▸(fun e=>nomatch e))
 gens:=rfl
 os:=rfl
theorem bo(h:Heap):h.get? h.objs.size=none:=by
 cases q:h.get? h.objs.size with
 |none=>rfl
 |some o=>exact absurd (Heap.lt_size q) (Nat.lt_irrefl _)
theorem Rel.cQ{Z σ:List Addr}{st:St}{h:Heap}(R:Rel base Z σ st h):h.objs.size∉σ∧h.objs.size∉Z∧base.get? h.objs.size=none:=by
 refine⟨fun hm=>R.lO hm (bo h),fun hm=>R.alive _ hm (bo h),?_⟩;cases q:base.get? h.objs.size with
 |none=>rfl
 |some o=>haveI:=R.keep _ _ q;rw[bo]at this;(exact bX this)
theorem Rel.ext{Z σ W:List Addr}{st:St}{s s':Shared}(R:Rel base Z σ st s.heap)(X:Ext W σ s σ s')(hW:∀a∈W,a∈Z∨(∃c,s.heap.IsCell a c)∨(∃m,s.heap.Ns a m)∨s.heap.get? a=none)
  (hWb:∀a∈W,base.get? a=none) (Vi:∀a∈σ,∀o,s.heap.get? a=some o→s'.heap.get? a=some o) (hl:∀a∈W,a∈Z→s'.heap.get? a≠none):Rel base Z σ st s'.heap where
 keep:=fun b o e=>X.keep b o (R.keep b o e) (fun hm=>by rw[R.fresh b hm]at e;(exact bX e)) fun hm=>by rw[hWb b hm]at e;(exact bX e)
 len:=R.len
 nd:=R.nd
 fresh:=R.fresh
 apart:=R.apart
 alive:=fun a ha=>by
  refine(Classical.em (a∈W)).elim (fun hw=>?_) fun hw=>?_
  ·exact hl a hw ha
  ·exact X.live a hw (R.alive a ha)
 bW:=R.bW
 cell:=fun i c a e1 e2=>by
  haveI C:=R.cell i c a e1 e2;haveI hm:a∈σ:=List.mem_of_getElem? e2;haveI vr:∀v d,VR Z σ s.heap v d→VR Z σ s'.heap v d:=fun v d H=>VR.ext R X hW H;cases c with
  |list ds=>obtain⟨l,n,g,H,hl⟩:=C;exact⟨l,n,Vi a hm _ g,H.imp vr,hl⟩
  |inst fs=>obtain⟨l,n,g,H,hn⟩:=C;exact⟨l,n,Vi a hm _ g,H.imp vr,hn⟩
theorem Rel.push{Z σ:List Addr}{st:St}{s:Shared}(R:Rel base Z σ st s.heap)(o:Obj):Rel base Z σ st (s.heap.push o):=
 R.ext (s':={s with heap:=s.heap.push o}) (W:=[]) (.push o) (fun a h=>nomatch h) jM (fun a _ o' e=>Heap.get?_push_of_some _ e) fun a h=>nomatch h
theorem VR.push{Z σ:List Addr}{st:St}{s:Shared}(R:Rel base Z σ st s.heap)(o:Obj){v:Value}{d:V}(H:VR Z σ s.heap v d):VR Z σ (s.heap.push o) v d:=
 VR.ext (s':={s with heap:=s.heap.push o}) R (.push (W:=[]) o) jM H
theorem pN{Z σ:List Addr}{st:St}{s:Shared}(R:Rel base Z σ st s.heap){vs:List Value}{ds:List V}(H:aj Z σ s.heap vs ds)(hl:ds.length≤ah):
  VR Z σ (s.heap.push {cls:=.type "tuple",data:=.seq vs.toArray}) (.ref s.heap.objs.size) (.tup ds):=
 .tup (R.cQ).2.1 ⟨_,Heap.get?_push_size _ rfl,rfl,0,rfl⟩ H.1 hl fun i v d e1 e2=>VR.push R _ (H.2 i v d e1 e2)
theorem Ext.cJ{W σ:List Addr}{s:Shared}(o:Obj){k:Nat}:Ext W σ s (σ++[s.heap.objs.size]) {s with heap:=s.heap.push o,toks:=k} where
 pre:=List.prefix_append _ _
 new:=fun i a h e=>by
  replace e:=(List.getElem?_append_right h)▸e
  haveI:a=s.heap.objs.size:=by
   cases hi:i - σ.length with
   |zero=>haveI e:=hi▸e;simpa using e.symm
   |succ j=>rw[hi]at e;injection e
  exact(this.symm▸(.inl (bo _)))
 keep:=fun a o' e _ _=>Heap.get?_push_of_some _ e
 iJ:=fun a o' _ _ e=>Heap.get?_push_of_some _ e
 live:=(Ext.push (W:=W) (σ:=σ) (s:=s) o (k:=k)).live
 gens:=rfl
 os:=rfl
theorem Rel.cJ{Z σ:List Addr}{st:St}{s:Shared}(R:Rel base Z σ st s.heap){o:Obj}(hf:o.isFreed=false){c:Cell}
  (hc:∀σ',σ<+:σ'→CR Z σ' (s.heap.push o) s.heap.objs.size c):Rel base Z (σ++[s.heap.objs.size]) (st++[c]) (s.heap.push o) where
 keep:=(R.push o).keep
 len:=by simp[R.len]
 nd:=by
  rw[List.nodup_append];refine⟨R.nd,List.nodup_cons.mpr ⟨(fun h=>nomatch h),List.nodup_nil⟩,fun a ha b hb e=>?_⟩;simp at hb;subst hb;exact R.cQ.1 (e▸ha)
 fresh:=fun a ha=>by
  rcases List.mem_append.mp ha with h|h
  ·exact R.fresh a h
  ·simp at h;subst h;exact R.cQ.2.2
 apart:=fun a ha=>by
  rcases List.mem_append.mp ha with h|h
  ·exact R.apart a h
  ·simp at h;subst h;exact R.cQ.2.1
 alive:=(R.push o).alive
 bW:=R.bW
 cell:=fun i c' a e1 e2=>by
  by_cases hi:i<st.length
  ·refine gP fun GP HK=>?_
   rw[List.getElem?_append_left hi]at e1;simp only[List.getElem?_append_left (R.len▸hi)]at e2;haveI C:=(R.push o).cell i c' a e1 e2;haveI vr:∀v d,VR Z σ (s.heap.push o) v d→VR Z (σ++[s.heap.objs.size]) (s.heap.push o) v d:=fun v d H=>H.mono (List.prefix_append _ _) fun _ _ _ e _ _ _=>e;cases c' with
   |list ds=>obtain⟨l,n,g,H,hl⟩:=C;refine HK ?_;exact⟨l,n,g,H.imp vr,hl⟩
   |inst fs=>obtain⟨l,n,g,H,hn⟩:=C;refine HK ?_;exact⟨l,n,g,H.imp vr,hn⟩
  ·have fE:st.length≤i:=Nat.le_of_not_lt hi
   rw[List.getElem?_append_right fE]at e1;rw[List.getElem?_append_right (R.len▸fE)]at e2
   have h0:i - st.length=0:=by
    cases hj:i - st.length with
    |zero=>rfl
    |succ j=>rw[hj]at e1;injection e1
   rw[h0]at e1;replace e2:=h0▸((R.len)▸e2);simp at e1 e2;subst e1 e2;exact hc _ (List.prefix_append _ _)
theorem Rel.newList{Z σ:List Addr}{st:St}{s:Shared}(R:Rel base Z σ st s.heap){vs:List Value}{ds:List V}{k:Nat}(H:aj Z σ s.heap vs ds)(hl:ds.length≤ah):
  Rel base Z (σ++[s.heap.objs.size]) (st++[.list ds]) (s.heap.push (listOf vs.toArray k)):=
 R.cJ rfl fun σ' hp=>⟨vs,k,Heap.get?_push_size _ rfl,H.imp fun v d h=>(VR.push R _ h).mono hp fun _ _ _ e _ _ _=>e,hl⟩
theorem cT{st:St}{s:Shared}(R:Rel base Z σ st s.heap):VR Z (σ++[s.heap.objs.size]) h (.ref s.heap.objs.size) (.lst st.length):=
 .lst (by refine(R.len)▸?_;simp)
theorem VR.cC{Z σ:List Addr}{h:Heap}{v:Value}{ds:List V}(H:VR Z σ h v (.tup ds)){GG:Prop}(kk:∀a l,v=.ref a→IsTup h a (List.toArray l)→aj Z σ h l ds→ds.length≤ah→GG):GG:=by
 cases H with
 |tup hz ht hl hs hx=>exact kk _ _ rfl ht ⟨hl,hx⟩ hs
theorem Rel.cw{Z σ:List Addr}{st:St}{h:Heap}(R:Rel base Z σ st h){v:Value}{i:Nat}{ds:List V}(H:VR Z σ h v (.lst i))(hs:st[i]? =some (.list ds)){GG:Prop}(kk:∀a l n,v=.ref a→σ[i]? =some a→h.get? a=some (listOf (List.toArray l) n)→aj Z σ h l ds→ds.length≤ah→GG):GG:=by
 cases H with
 |lst e=>obtain⟨l,n,g,hl,hz⟩:=R.cell _ _ _ hs e;exact kk _ l n rfl e g hl hz
theorem Rel.list{Z σ:List Addr}{st:St}{h:Heap}(R:Rel base Z σ st h){v:Value}{i:Nat}{ds:List V}(H:VR Z σ h v (.lst i))(hs:st[i]? =some (.list ds)):
  ∃a l n,v=.ref a∧σ[i]? =some a∧h.get? a=some (listOf (List.toArray l) n)∧aj Z σ h l ds∧ds.length≤ah:=Rel.cw R H hs fun x1 x2 x3 x4 x5 x6 x7 x8=>⟨x1,x2,x3,x4,x5,x6,x7,x8⟩
theorem aL{h:Heap}(g:h.get? a=some (listOf (List.toArray l) n)):h.IsList a (List.toArray l):=⟨_,g,rfl,n,rfl⟩
theorem bJ:ah≤sizeLine:=by decide+kernel
theorem mapM_some{α β:Type}{f:α→Option β}:∀{l:List α} {ys:List β},l.mapM f=some ys→l.length=ys.length∧∀(i:Nat) x y,l[i]? =some x→ys[i]? =some y→f x=some y
 |[],ys,h=>by simp at h;subst h;exact⟨rfl,fun i x y e=>by injection e⟩
 |a::r,ys,h=>by
  rw[List.mapM_cons]at h;simp only[Option.bind_eq_bind,Option.bind_eq_some_iff]at h;refine Ml (h) fun b hb bs YV e=>?_;try clear h
  (obtain rfl:=cU e)
  haveI h1:=(mapM_some YV).1;haveI h2:=(mapM_some YV).2;refine⟨by simp[h1],fun i x y e1 e2=>?_⟩;cases i with
  |zero=>simp at e1 e2;subst e1 e2;exact hb
  |succ i=>simp at e1 e2;exact h2 i x y e1 e2
theorem gq{h:Heap}:∀{l:List Value} {ps:List PyData},l.length=ps.length→(∀(i:Nat) v p,l[i]? =some v→ps[i]? =some p→∃as,Reads h v p as)→∃as,ReadsAll h l ps as
 |[],[],_,_=>⟨_,.nil⟩
 |[],_::_,hl,_=>by injection hl
 |_::_,[],hl,_=>by injection hl
 |v::l,p::ps,hl,hx=>by
  obtain⟨as,h1⟩:=hx 0 v p rfl rfl;obtain⟨bs,h2⟩:=gq (by simpa using hl) fun i v p e1 e2=>hx (i+1) v p (e1) (e2);exact⟨_,.cons h1 h2⟩
theorem jd{Z σ:List Addr}{st:St}{h:Heap}(R:Rel base Z σ st h):∀(k:Nat) {v:Value} {d:V} {p:PyData},VR Z σ h v d→toPy k st d=some p→∃as,Reads h v p as
 |0,_,_,_,_,e=>by injection e
 |k+1,v,d,p,H,e=>by
  cases d with
  |tup ds=>
   refine mO e fun ps h1 eq2=>?_;clear e;obtain rfl:=eq2;refine H.cC fun a l Vj M0 hA _=>?_;subst Vj;obtain⟨o,ho,hc,n,hd⟩:=M0;obtain⟨h2,h3⟩:=mapM_some h1
   obtain⟨as,h4⟩:=gq (h:=h) (l:=l) (ps:=ps) (hA.1.trans h2) fun i v p e1 e2=>by
    have hi:i<ds.length:=by rw[h2];exact(cN e2)
    exact jd R k (hA.2 i v ds[i] e1 (by simp[hi])) (h3 i ds[i] p (by simp[hi]) e2)
   exact⟨_,.tuple ho hc hd (h4)⟩
  |lst i=>
   refine gP fun GP M1=>?_;refine HG (show jO st[i]? (fun vs=>(vs.mapM (toPy k st)).map PyData.list)=some p from e) ?_;intro ds hs e
   ·refine gP fun GP HK=>?_
    refine mO e fun ps h1 eq2=>?_;clear e;obtain rfl:=eq2;refine R.cw H hs fun a l n M3 _ g hA _=>?_;subst M3;refine gP fun GP kP=>?_;obtain⟨h2,h3⟩:=mapM_some h1
    obtain⟨as,h4⟩:=gq (h:=h) (l:=l) (ps:=ps) (hA.1.trans h2) fun i v p e1 e2=>by
     have hi:i<ds.length:=by rw[h2];exact(cN e2)
     exact jd R k (hA.2 i v ds[i] e1 (by simp[hi])) (h3 i ds[i] p (by simp[hi]) e2)
    refine kP ?_;refine HK ?_;refine M1 ?_;exact⟨_,.list g rfl rfl (h4)⟩
  |none=>refine vu (a:=PyData.none) e ?_;obtain rfl:=T6 H;exact⟨_,.none⟩
  |int i=>refine vu (a:=PyData.int i) e ?_;(refine bx H fun _ rH=>?_;subst rH);exact⟨_,.int _ _⟩
  |str x=>refine dk (show(if PyData.strOk x then some (PyData.str x)else none)=some p from e) fun _ e=>vu e ?_;(refine zM H fun _ zR=>?_;subst zR);exact⟨_,.str _ _⟩
  |_=>injection e
theorem je:∀{ps:List PyData},(∀(i:Nat) p,ps[i]? =some p→p.canLay0=true)→PyData.canLayAll0 ps=true
 |[],_=>by exact rfl
 |p::ps,h=>by
  simp only[PyData.canLayAll0,h 0 p rfl];exact je fun i q e=>h (i+1) q (e)
theorem j6{k:Nat}:∀{ps:List PyData},(∀(i:Nat) p,ps[i]? =some p→p.depth≤k)→PyData.depthAll ps≤k
 |[],_=>by simp[PyData.depthAll]
 |p::ps,h=>by
  exact Nat.max_le.mpr ⟨h 0 p rfl,j6 fun i q e=>h (i+1) q (e)⟩
theorem iL{st:St}:∀(k:Nat) {d:V} {p:PyData},toPy k st d=some p→p.canLay0=true∧p.depth≤k
 |0,_,_,e=>by injection e
 |k+1,d,p,e=>by
  have seq:∀{ds:List V} {ps:List PyData},ds.mapM (toPy k st)=some ps→PyData.canLayAll0 ps=true∧PyData.depthAll ps≤k:=fun {ds ps} h=>by
   haveI h2:=(mapM_some h).1;haveI h3:=(mapM_some h).2
   haveI hx:∀(i:Nat) p,ps[i]? =some p→p.canLay0=true∧p.depth≤k:=fun i p e=>by
    haveI hi:i<ds.length:=by simp only[h2];exact(cN e)
    exact iL k (h3 i ds[i] p (by simp[hi]) e)
   exact⟨je fun i p e=>(hx i p e).1,j6 fun i p e=>(hx i p e).2⟩
  cases d with
  |tup ds=>
   refine mO e fun ps h1 eq2=>?_;clear e;obtain rfl:=eq2;haveI a:=(seq h1).1;haveI b:=(seq h1).2;exact⟨by exact a,by simpa [PyData.depth]using b⟩
  |lst i=>
   refine gP fun GP M1=>?_;refine HG (show jO st[i]? (fun vs=>(vs.mapM (toPy k st)).map PyData.list)=some p from e) ?_;intro ds hs e
   ·refine mO e fun ps h1 eq2=>?_;clear e;obtain rfl:=eq2
    haveI a:=(seq h1).1;haveI b:=(seq h1).2;refine M1 ?_;exact⟨by exact a,by simpa [PyData.depth]using b⟩
  |none=>refine vu (a:=PyData.none) e ?_;simp[PyData.canLay0,PyData.depth]
  |int i=>refine vu (a:=PyData.int i) e ?_;simp[PyData.canLay0,PyData.depth]
  |str x=>refine dk (show(if PyData.strOk x then some (PyData.str x)else none)=some p from e) fun h e=>vu e ?_;simp[PyData.canLay0,PyData.depth,h]
  |_=>injection e
theorem ez{st:St}(h:toPy 8 st d=some p):SeqAt.shaped p=true:=by
 haveI a:=(iL 8 h).1;haveI b:=(iL 8 h).2;unfold SeqAt.shaped;refine a.symm▸?_;refine(decide_eq_true (by exact aJ 0x22188100001810001 rt b:p.depth≤64)).symm▸?_;rfl
theorem zS{st:St}(ok:A.units+64<cLine)(R:Rel base Z σ st s.heap)(hv:VR Z σ s.heap v x)(hu:VR Z σ s.heap u y)
  (h:vv st x y=some b) {E:Value→Shared→Prop}:
  (Q (.bool b) s→wpAny (model prog w) A (compareOp .Eq v u) Q E s)∧(Q (.bool !b) s→wpAny (model prog w) A (compareOp .NotEq v u) Q E s):=by
 refine gP fun GP kQ=>?_;rcases D9 h with⟨i,j,rfl,rfl,rfl⟩|⟨i,j,rfl,rfl,rfl⟩|⟨p,q,hp,hq,rfl⟩
 ·(refine bx hv fun _ pO=>?_;subst pO);(obtain⟨_,rfl⟩:=YT hu)
  refine kQ ?_;exact⟨fun q=>PyProof.Rows.eq_int q,fun q=>PyProof.Rows.ne_int (q)⟩
 ·(refine zM hv fun _ Jh=>?_;subst Jh);(obtain⟨_,rfl⟩:=VRs hu)
  refine kQ ?_;exact⟨fun q=>SeqAt.RcAt.str_str _ _ _ _ prog w _ _ q,fun q=>PyProof.Rows.ne_str (q)⟩
 ·obtain⟨_,r1⟩:=jd R 8 hv hp
  obtain⟨_,r2⟩:=jd R 8 hu hq;refine kQ ?_;exact⟨fun q=>SeqAt.compareEq_shaped r1 r2 (ez hp) (ez hq) ok q,fun q=>SeqAt.compareNe_shaped r1 r2 (ez hp) (ez hq) ok q⟩
theorem lU(H:VR Z σ h v x):(v==Value.none)=(match x with|.none=>true|_=>false):=by
 cases H<;>rfl
theorem fc{A:Around}{Z σ:List Addr}{s:Shared}{st:St}(ok:A.units+64<cLine)(R:Rel base Z σ st s.heap){v u:Value}{x y:V}(hv:VR Z σ s.heap v x)(hu:VR Z σ s.heap u y){op:CmpOp}{c:V}
  (h:cm st op x y=some c) {Q:Value→Shared→Prop} {E:Value→Shared→Prop} (hq:∀b,c=.bool b→Q (.bool b) s):wpAny (model prog w) A (compareOp op v u) Q E s:=by
 cases op with
 |Eq=>
  refine mO h fun b hb eq2=>?_;clear h;subst eq2;exact(zS ok R hv hu hb).1 (hq _ rfl)
 |NotEq=>
  refine mO h fun b hb eq2=>?_;clear h;subst eq2;exact(zS ok R hv hu hb).2 (hq _ rfl)
 |Lt=>
  revert hv hu;refine iE h fun a h=>?_;refine iE h fun b h hv hu=>?_;refine bx hv fun _ e1=>bx hu fun _ e2=>?_;subst e1;subst e2;exact PyProof.Rows.lt_int (hq _ (cU h))
 |LtE=>
  revert hv hu;refine iE h fun a h=>?_;refine iE h fun b h hv hu=>?_;refine bx hv fun _ e1=>bx hu fun _ e2=>?_;subst e1;subst e2;exact PyProof.Rows.le_int (hq _ (cU h))
 |Gt=>
  revert hv hu;refine iE h fun a h=>?_;refine iE h fun b h hv hu=>?_;refine bx hv fun _ e1=>bx hu fun _ e2=>?_;subst e1;subst e2;exact PyProof.Rows.gt_int (hq _ (cU h))
 |GtE=>
  revert hv hu;refine iE h fun a h=>?_;refine iE h fun b h hv hu=>?_;refine bx hv fun _ e1=>bx hu fun _ e2=>?_;subst e1;subst e2;exact PyProof.Rows.ge_int (hq _ (cU h))
 |Is=>
  cases y with
  |none=>
   have e:=T6 hu;subst e;refine is_none ?_;rw[lU hv];exact hq _ ((cU h).trans (by cases x<;>rfl))
  |_=>exact bX h
 |IsNot=>
  cases y with
  |none=>
   have e:=T6 hu;subst e;refine isNot_none ?_;rw[lU hv];exact hq _ ((cU h).trans (by cases x<;>rfl))
  |_=>exact bX h
 |In=>exact bX h
 |NotIn=>
  cases x with
  |str a=>cases y with
   |tup vs=>
    refine dk h fun zT h=>?_;have e:=cU h;subst e;cases hv with
    |str _ t=>
    refine hu.cC fun b l eq2 ht hA _=>?_;obtain rfl:=eq2;haveI hT:s.heap.IsTuple b (List.toArray l):=let ⟨o,ho,hc,m,hd⟩:=ht;⟨o,ho,hc,m,hd⟩
    have key:∀(i:Nat) v d,l[i]? =some v→vs[i]? =some d→∃z t',v=.str z t'∧d=.str z:=fun i v d e1 e2=>by
     have h1:=hA.2 i v d e1 e2;have h2:=List.all_eq_true.mp zT d (List.mem_of_getElem? e2);cases h1<;>first|exact⟨_,_,rfl,rfl⟩|injection h2
    refine SeqAt.notIn_tupleAt (fun v=>match v with|.str z _=>z==a|_=>false) hT (fun v hv=>?_) ?_
    ·obtain⟨i,hi⟩:=List.mem_iff_getElem?.mp (by simpa using hv)
     have dB:i<vs.length:=hA.1▸(cN hi);refine xl (key i v vs[i] hi (by simp[dB])) fun z t' eq2 _=>?_;obtain rfl:=eq2;exact SeqAt.EqAt.str_str _ _ _ _
    ·haveI e:(List.toArray l).any (fun v=>match v with|.str z _=>z==a|_=>false)=vs.any (fun v=>match v with|.str z=>z==a|_=>false):=by
      rw[List.any_toArray,Bool.eq_iff_iff,List.any_eq_true,List.any_eq_true];constructor
      ·rintro ⟨v,hv,h⟩
       obtain⟨i,hi⟩:=List.mem_iff_getElem?.mp hv;have dB:i<vs.length:=hA.1▸(cN hi);refine xl (key i v vs[i] hi (by simp[dB])) fun z t' eq2 e2=>?_;obtain rfl:=eq2;exact⟨vs[i],List.getElem_mem dB,by exact(e2.symm▸h)⟩
      ·rintro ⟨d,hd,h⟩
       obtain⟨i,hi⟩:=List.mem_iff_getElem?.mp hd;have dB:i<l.length:=hA.1.symm▸(cN hi);refine xl (key i l[i] d (by simp[dB]) hi) fun z t' e1 eq3=>?_;obtain rfl:=eq3;exact⟨l[i],List.getElem_mem dB,by exact(e1.symm▸h)⟩
     exact(e.symm▸(hq _ rfl))
   |_=>exact bX h
  |_=>exact bX h
theorem zU(h:lL a b=true):IntMulOk a b:=by
 unfold lL at h;rcases Bool.or_eq_true_iff.mp h with h|h
 ·exact .of_left (intBits_le (of_decide_eq_true h))
 ·exact .of_right (intBits_le (of_decide_eq_true h))
theorem xE{A:Around}{s:Shared}{op:Operator}{a b c:Int}{t u:Tok}(h:binI op a b=some c){Q:Value→Shared→Prop}{E:Value→Shared→Prop}
  (hq:Q (.int c s.toks) {s with toks:=s.toks+1}):wpAny (model prog w) A (binaryOp op (.int a t) (.int b u)) Q E s:=by
 cases op with
 |Add=>obtain rfl:=cU h;exact PyProof.Rows.add_int hq
 |Sub=>obtain rfl:=cU h;exact PyProof.Rows.sub_int hq
 |Mult=>exact dk (o:=some (a * b)) h fun hm h=>by(obtain rfl:=cU h);exact PyProof.Rows.mul_int hq (zU hm)
 |FloorDiv=>
  exact tX (o:=some (a.fdiv b)) h fun hb h=>by
   (obtain rfl:=cU h)
   exact PyProof.Rows.floordiv_int (fun e=>hb (.inl e)) hq (.inl (PyProof.noPylong_small (by haveI:=fun e=>hb (.inr e);lia)))
 |Mod=>exact tX (o:=some (a.fmod b)) h fun hb h=>by(obtain rfl:=cU h);exact PyProof.Rows.mod_int hb hq
 |Pow=>exact dk (o:=some (a^b.toNat)) h fun hb h=>by(obtain rfl:=cU h);exact PyProof.Rows.pow_int_small hb.1 (by lia) hb.2.2 hq
 |_=>exact bX h
theorem kx{α:Type}(x:α)(k:Nat):∀acc:Array α,(List.foldl (fun x1 x2=>x1++x2) acc (List.replicate k #[x])).toList=acc.toList++List.replicate k x:=by
 induction k with
 |zero=>intro acc;simp
 |succ k ih=>intro acc;simp only[List.replicate_succ,List.foldl_cons,ih];simp[List.replicate_succ]
theorem zV{st af:St}(R:Rel base Z σ st s.heap)(hv:VR Z σ s.heap v x)(hu:VR Z σ s.heap u y){d:V}
  (h:jP op x y st=some ([d],af)) {Q:Value→Shared→Prop} {E:Value→Shared→Prop}
  (hq:∀σ' v' s',Rel base Z σ' af s'.heap→VR Z σ' s'.heap v' d→Ext [] σ s σ' s'→Q v' s'):wpAny (model prog w) A (binaryOp op v u) Q E s:=by
 revert hv hu hq;refine Jg h ?_ ?_ ?_
 ·intro op i j c hc hv hu hq
  (obtain⟨_,rfl⟩:=YT hv);(refine bx hu fun _ Vk=>?_;subst Vk)
  exact xE hc (hq σ _ _ (R.dc rfl) (.int _ _) .toks)
 ·intro i j xs ys h1 h2 hlen hv hu hq
  refine R.cw hv h1 fun a l k Vl _ g hA _=>?_;subst Vl;refine R.cw hu h2 fun b l' k' Vm _ g' rJ _=>?_;subst Vm;refine P.add_list g g' ?_ (by haveI:=bJ;haveI:=hA.1;haveI:=rJ.1;simp;lia);haveI e:(List.toArray l++List.toArray l')=List.toArray (l++l'):=by simp
  exact(e.symm▸(hq _ _ {s with heap:=s.heap.push (listOf (List.toArray (l++l')) 0)} (R.newList (hA.append rJ) (by simpa using hlen)) (cT R) (.cJ _)))
 ·intro li n' Vn h1 hn hv hu hq
  refine R.cw hv h1 fun a l k Vo _ g hA _=>?_;subst Vo;cases hu with
  |int _ t=>
  refine hA.aW fun rI l' eq2 hx hr=>?_;obtain rfl:=eq2;obtain rfl:=hr.da;have hs:ah=100000:=rfl;haveI hN:∀m,n'.toNat=m→(m:Int)≤100000:=fun m e=>by lia
  refine wpAny_binaryOp_repeat_ref (T:="list") (U:="int") (by decide) ⟨_,g,rfl⟩ (fun s'=>typeIs_int s' n' t) noFill_list_mul F.fills_int_mul F.slot_int_rmul repeat_list F.slot_int_index.lookup
   (call_meets F.slot_int_rmul (typeIs_int s n' t) F.entry_int_rmul (F.args_int_rmul_2 _ _) (int___rmul___int_list n' t a _ k)
    ⟨g,rfl,⟨_,g,rfl⟩,call_meets F.slot_list_mul ⟨_,g,rfl⟩ F.entry_list_mul (F.args_list_mul_2 _ _)
     (AutoListH.list___mul___list_int_3 a _ k n' t ?_ ?_ ?_)
     ⟨g,?_⟩⟩)
  ·haveI:Builtin.List.listFitsIndex n'=true:=by simp[Builtin.List.listFitsIndex];lia
   simp[this]
  ·have:=hN _ rfl
   simp;lia
  ·have:=hN _ rfl
   simp[Builtin.List.listTooLong,sizeLine];lia
  ·have e:List.foldl (fun x1 x2=>x1++x2) (#[]:Array Value) (List.replicate (if(List.toArray [rI]).isEmpty=true then 0 else n'.toNat) (List.toArray [rI]))=List.toArray (List.replicate n'.toNat rI):=by
    apply Array.toList_inj.mp;haveI:=kx rI n'.toNat #[];exact this
   refine e.symm▸?_;refine hq _ _ {s with heap:=s.heap.push (listOf (List.toArray (List.replicate n'.toNat rI)) 0)} (R.newList (ds:=List.replicate n'.toNat Vn) ⟨by simp,fun i v d e1 e2=>?_⟩ (by simp;lia)) (cT R) (.cJ _);rw[List.getElem?_replicate]at e1 e2
   split at e1
   ·rename_i hi
    rw[if_pos hi]at e2
    obtain rfl:=cU e1;obtain rfl:=cU e2;exact hx
   ·(exact bX e1)
end
section
open PyProof.Rows PySem PySem.Calls PySem.W
def Good{α:Type}(n:Nat)(lt:Nat→Nat→Bool):KasT α→(α→Prop)→Prop
 |.ret a,Q=>Q a
 |.ask i j k,Q=>i<n∧j<n∧Good n lt (k (lt i j)) Q
theorem Good.bind{α β:Type}{n:Nat}{lt:Nat→Nat→Bool}{f:α→KasT β}{Q:β→Prop}:∀{t:KasT α},Good n lt t (fun a=>Good n lt (f a) Q)→Good n lt (t.bind f) Q
 |.ret _,h=>h
 |.ask _ _ k,h=>⟨h.1,h.2.1,Good.bind (t:=k _) h.2.2⟩
theorem Good.mono{α:Type}{n:Nat}{lt:Nat→Nat→Bool}{Q Q':α→Prop}:∀{t:KasT α},Good n lt t Q→(∀a,Q a→Q' a)→Good n lt t Q'
 |.ret _,h,m=>m _ h
 |.ask _ _ k,h,m=>⟨h.1,h.2.1,Good.mono (t:=k _) h.2.2 m⟩
theorem Good.wp{α:Type}{n:Nat}{lt:Nat→Nat→Bool}{cmp:Nat→Nat→(Bool→Shared→Prop)→Shared→Prop}{s:Shared}{Q:α→Shared→Prop}
  (hc:∀i j C,i<n→j<n→C (lt i j) s→cmp i j C s):∀{t:KasT α},Good n lt t (fun a=>Q a s)→t.kasWp cmp Q s
 |.ret _,h=>h
 |.ask _ _ k,h=>hc _ _ _ h.1 h.2.1 (Good.wp hc (t:=k _) h.2.2)
end
section
open PyProof.Rows PySem PySem.Calls PySem.W
variable{n:Nat}{le:Nat→Nat→Bool}
def i7(n:Nat)(p:Array Nat):Prop:=p.Perm (List.range n).toArray
def Up(le:Nat→Nat→Bool)(p:Array Nat)(a b:Nat):Prop:=∀i j,a≤i→i<j→j<b→le (p.getD i 0) (p.getD j 0)=true
def Dn(le:Nat→Nat→Bool)(p:Array Nat)(a b:Nat):Prop:=∀i j,a≤i→i<j→j<b→le (p.getD j 0) (p.getD i 0)=true
theorem i7.size{p:Array Nat}(h:i7 n p):p.size=n:=by
 have:=h.size_eq;simpa using this
theorem i7.lt{p:Array Nat}(h:i7 n p){k:Nat}(hk:k<n):p.getD k 0<n:=by
 haveI hs:=h.size;have fU:k<p.size:=aO 0x2212100010201021200011 rt hk hs;haveI e:p.getD k 0=p[k]:=by simp[Array.getD,fU]
 refine e.symm▸?_;haveI hm:p[k]∈p:=Array.getElem_mem fU;haveI:=h.mem_iff.mp hm;simpa using this
theorem i7.rev(h:i7 n p)(i j):i7 n (kas_rev p i j):=(mirror_perm p i j _).trans h
theorem i7.bub(h:i7 n p)(i j):i7 n (bubble p i j):=(bubble_perm p i j).trans h
theorem fe(hj:j≤p.size) k:(kas_rev p i j).getD k 0=if i≤k∧k<j then p.getD (i+j - 1 - k) 0 else p.getD k 0:=by
 haveI e:=getElem?_mirror_all (i:=i) hj k;haveI h:∀(q:Array Nat) k,q.getD k 0=q[k]?.getD 0:=fun q k=>by simp
 simp only[h,h,h];unfold kas_rev;rw[e]
 split<;>rfl
theorem rK(hs:src<p.size)(hd:d≤src) k:(bubble p src d).getD k 0=if k=src - d then p.getD src 0 else if src - d<k∧k≤src then p.getD (k - 1) 0 else p.getD k 0:=by
 haveI e:=getElem?_bubble hs d hd k;haveI h:∀(q:Array Nat) k,q.getD k 0=q[k]?.getD 0:=fun q k=>by simp
 simp only[h,h,h,h,e]
 split
 ·rfl
 ·split<;>rfl
end
section
open PyProof.Rows PySem PySem.Calls PySem.W
variable{n:Nat}{le:Nat→Nat→Bool}
variable(jf:∀a b,le a b=true∨le b a=true)(tr:∀a b c,le a b=true→le b c=true→le a c=true)
include jf tr
theorem Up.succ(h:Up le p a b)(hb:1≤b)(hl:le (p.getD (b - 1) 0) (p.getD b 0)=true):Up le p a (b+1):=fun i j hi ie hj=>by
 refine(Classical.em (j<b)).elim (fun Ed=>?_) fun Ed=>?_
 ·exact h i j hi ie Ed
 ·obtain rfl:j=b:=aC 0x21202211000201000181111020011 rt hj Ed
  rcases Classical.em (i=j - 1)with e|e
  ·subst e;exact hl
  ·exact tr _ _ _ (h i (j - 1) hi (aO 0x211220222021112102111211000102011102220110601102112016711000281200011 rt ie e (bE _ _)) (aC 0x21211022100010101100221011060100211101671101101 rt hb (bE _ _))) hl
theorem Dn.succ(h:Dn le p a b)(hb:1≤b)(hl:le (p.getD b 0) (p.getD (b - 1) 0)=true):Dn le p a (b+1):=fun i j hi ie hj=>by
 refine(Classical.em (j<b)).elim (fun Ed=>?_) fun Ed=>?_
 ·exact h i j hi ie Ed
 ·obtain rfl:j=b:=aC 0x21202211000201000181111020011 rt hj Ed
  rcases Classical.em (i=j - 1)with e|e
  ·subst e;exact hl
  ·exact tr _ _ _ hl (h i (j - 1) hi (aO 0x211220222021112102111211000102011102220110601102112016711000281200011 rt ie e (bE _ _)) (aC 0x21211022100010101100221011060100211101671101101 rt hb (bE _ _)))
theorem zW(h:(!le a b)=true):le b a=true:=by
 rcases jf a b with e|e
 ·simp[e]at h
 ·exact e
theorem lW{p:Array Nat}(hp:i7 n p):∀(f m:Nat),1≤m→m+f=n→Up le p 0 m→
  Good n (fun i j=> !le j i) (kas_asc p f m) (fun k=>m≤k∧k≤n∧Up le p 0 k∧(k<n→le (p.getD k 0) (p.getD (k - 1) 0)=true))
 |0,m,h1,h2,h3=>⟨Nat.le_refl _,by exact aC 0x212100000100100221 rt h2,h3,fun h=>by simp_all⟩
 |f+1,m,h1,h2,h3=>by
  refine⟨hp.lt (aO 0x212100010101120200221 rt h2),hp.lt (bS 0x2121120212112100010201100222011060100211201671101130220221 rt h2 (bE _ _)),?_⟩;dsimp only
  split
  ·rename_i hc
   exact⟨Nat.le_refl _,by exact aO 0x212100000101120200221 rt h2,h3,fun _=>zW jf tr (hc)⟩
  ·rename_i hc
   refine Good.mono (lW hp f (m+1) (aJ 0x2110021100 rt) (aO 0x2120221201011002220201110200221 rt h2) (h3.succ jf tr h1 (by simpa using hc))) fun k hk=>⟨by lia,hk.2.1,hk.2.2⟩
theorem vA(hj:j≤p.size)(Ed:j≤b)(he:∀x y,i≤x→x<j→i≤y→y<j→le (p.getD x 0) (p.getD y 0)=true)(h:Dn le p 0 b):Dn le (kas_rev p i j) 0 b:=fun x y _ xF hy=>by
 simp only[fe hj,fe hj]
 split<;>split
 ·exact he _ _ (by rename_i q1 _;exact yZ 0x221121121021121112102211112210211211221100000300021140223000211060140211300021671402010224020060110220401671302012000061 rt q1 (bE _ _) (bE _ _)) (by rename_i q0;exact y7 0x2121121122021112110211112121102111211100010104021150221040211060150211104021671503000225030060100230501671102012040061302011 rt xF q0 (bE _ _) (bE _ _)) (by rename_i q1 _;exact y7 0x2211211212021121112120221111221202112112212100000400021150224000211060150211400021671502010225020060110220501671403013000061302011 rt xF q1 (bE _ _) (bE _ _)) (by rename_i q0;exact yZ 0x212112112021112102111122210211221100010102021140221020211060140211102021671403000224030060100230401671103013020061 rt q0 (bE _ _) (bE _ _))
 ·exact h _ _ (aJ 0x2000100 rt) (by rename_i q1 q0;exact y7 0x2212022120221202212022112112211021112212021111222110211122121000104030211502240302110601502114030216715020102250200601102205016714000100300681402012030061200011 rt xF q1 q0 (bE _ _) (bE _ _)) (by rename_i q1 _;exact y7 0x2121121122021112110211112221202112211100010203021150222030211060150211203021671504000225040060100240501671204014030061102001 rt Ed q1 (bE _ _) (bE _ _))
 ·exact h _ _ (aJ 0x2000100 rt) (by rename_i q1 q0;exact y7 0x21211211221021112111021111221112021122111022202111212202220211321221000104030211502240302110601502114030216715020002250200601002205016714020120300614010110300681102011 rt xF q1 q0 (bE _ _) (bE _ _)) (aC 0x22100010100011 rt hy)
 ·exact h _ _ (aJ 0x2000100 rt) xF hy
theorem gZ:∀(f:Nat) (p:Array Nat) (m q:Nat),i7 n p→q+1≤m→m+f=n→Dn le p 0 m→(∀x y,m - (q+1)≤x→x<m→m - (q+1)≤y→y<m→le (p.getD x 0) (p.getD y 0)=true)→
  Good n (fun i j=> !le j i) (kas_desc f p m q) (fun r=>i7 n r.1∧r.2.2+1≤r.2.1∧r.2.1≤n∧Dn le r.1 0 r.2.1∧(∀x y,r.2.1 - (r.2.2+1)≤x→x<r.2.1→r.2.1 - (r.2.2+1)≤y→y<r.2.1→le (r.1.getD x 0) (r.1.getD y 0)=true))
 |0,p,m,q,hp,h1,h2,h3,h4=>⟨hp,h1,by dsimp only;exact aC 0x212100000100100221 rt h2,h3,h4⟩
 |f+1,p,m,q,hp,h1,h2,h3,h4=>by
  refine⟨hp.lt (aO 0x212100010101120200221 rt h2),hp.lt (bS 0x2121120212112100010201100222011060100211201671101130220221 rt h2 (bE _ _)),?_⟩;dsimp only;haveI refl:∀a,le a a=true:=fun a=>(jf a a).elim id id
  split
  ·rename_i hc
   have hl:le (p.getD m 0) (p.getD (m - 1) 0)=true:=zW jf tr (hc);haveI y8:=h3.succ jf tr (aC 0x22001100001110201 rt h1) hl
   split
   ·haveI hs:=hp.size
    refine gZ f _ (m+1) 0 (hp.rev _ _) (aJ 0x2110021101200 rt) (aO 0x2120221201011002220201110200221 rt h2) (vA jf tr (bS 0x22112100000301021301120200221 rt h2 hs) (aJ 0x2110020000 rt) h4 y8) fun x y a b c d=>?_;obtain rfl:x=y:=bS 0x22111221022112112021111021111100020113021101220221130211012060120211012113021671113021011102001113020011002001 rt a b c d (bE _ _);exact refl _
   ·refine gZ f _ (m+1) 0 hp (aJ 0x2110021101200 rt) (aO 0x2120221201011002220201110200221 rt h2) y8 fun x y a b c d=>?_
    obtain rfl:x=y:=bS 0x22111221022112112021111021111100020113021101220221130211012060120211012113021671113021011102001113020011002001 rt a b c d (bE _ _);exact refl _
  ·rename_i hc
   have xG:le (p.getD (m - 1) 0) (p.getD m 0)=true:=by simpa using hc
   refine⟨hp.lt (bS 0x2121120212112100010201100222011060100211201671101130220221 rt h2 (bE _ _)),hp.lt (aO 0x212100010101120200221 rt h2),?_⟩;dsimp only
   split
   ·exact⟨hp,h1,by dsimp only;exact aO 0x212100000101120200221 rt h2,h3,h4⟩
   ·rename_i hd
    have T7:le (p.getD m 0) (p.getD (m - 1) 0)=true:=by simpa using hd
    refine gZ f p (m+1) (q+1) hp (aC 0x22111021111002200101100201 rt h1) (aO 0x2120221201011002220201110200221 rt h2) (h3.succ jf tr (aC 0x22001100001110201 rt h1) T7) fun x y a b c d=>?_
    haveI YW:∀x,m+1 - (q+1+1)≤x→x<m+1→le (p.getD x 0) (p.getD (m - 1) 0)=true∧le (p.getD (m - 1) 0) (p.getD x 0)=true:=fun x a b=>by
     rcases Classical.em (x=m)with e|e
     ·cases e;exact⟨T7,xG⟩
     ·exact⟨h4 _ _ (yZ 0x21212112021121021211121021211111100000301140200223011402060100211402301671113021111402220221130211114022060120211114022113021671102001 rt a (bE _ _) (bE _ _)) (aC 0x2202211000101000281111020011 rt b e) (bS 0x2121211021211110212111202121111100000201130200222011302060100211302201671201110222011060110211201671 rt (bE _ _) (bE _ _)) (aO 0x21211022100010101100221011060100211101671101120201 rt h1 (bE _ _)),h4 _ _ (bS 0x2121211021211110212111202121111100000201130200222011302060100211302201671201110222011060110211201671 rt (bE _ _) (bE _ _)) (aO 0x21211022100010101100221011060100211101671101120201 rt h1 (bE _ _)) (yZ 0x21212112021121021211121021211111100000301140200223011402060100211402301671113021111402220221130211114022060120211114022113021671102001 rt a (bE _ _) (bE _ _)) (aC 0x2202211000101000281111020011 rt b e)⟩
    exact tr _ _ _ (YW x a b).1 (YW y c d).2
theorem lX(hp:i7 n p)(h1:1≤m)(h2:m≤n)(h3:Dn le p 0 m):Good n (fun i j=> !le j i) (kas_tail3 m n p) (fun r=>1≤r.1∧r.1≤n∧i7 n r.2∧Up le r.2 0 r.1):=by
 haveI hs:=hp.size;refine Good.bind (Good.mono (lW jf tr (hp.rev 0 m) (n - m) m h1 (aO 0x21211022111022021121201000220200010222000060110200201671200001 rt h2 (bE _ _)) fun i j _ ie hj=>?_) fun k hk=>⟨by dsimp only;omega,hk.2.1,hp.rev 0 m,hk.2.2.1⟩);rw[fe (by exact aO 0x2212100000201021200001 rt h2 hs),fe (by exact aO 0x2212100000201021200001 rt h2 hs),if_pos (by exact aO 0x2220211100010001060102011200011 rt ie hj),if_pos (by exact aC 0x22021100010001060100011 rt hj)];exact h3 _ _ (aJ 0x2000100 rt) (y7 0x21111212111202111111220211112111210211211121021121202111112220211111112220211111222100010400121150224001211060150211400121671503000225030060100230501671502010225020060110220501671403011302011 rt ie hj (bE _ _) (bE _ _) (bE _ _)) (bS 0x21211211021112021111212021112100010100121120221001211060120211100121671203000222030060100230201671101101 rt h1 (bE _ _) (bE _ _))
theorem iy(hp:i7 n p)(h1:1≤m)(h2:m<n)(h3:Dn le p 0 (m+1)):Good n (fun i j=> !le j i) (kas_descPart m n p) (fun r=>1≤r.1∧r.1≤n∧i7 n r.2∧Up le r.2 0 r.1):=by
 haveI refl:∀a,le a a=true:=fun a=>(jf a a).elim id id;refine Good.bind (Good.mono (gZ jf tr (n - (m+1)) p (m+1) 0 hp (aJ 0x2110021101200 rt) (aO 0x21211022111022021121201011002220201100210222011002060110211002201671200011 rt h2 (bE _ _)) h3 fun x y a b c d=>?_) fun r hr=>?_)
 ·obtain rfl:x=y:=bS 0x22111221022112112021111021111100020113021101220221130211012060120211012113021671113021011102001113020011002001 rt a b c d (bE _ _)
  exact refl _
 ·haveI q1:=hr.1;haveI q2:=hr.2.1;haveI q3:=hr.2.2.1;haveI q4:=hr.2.2.2.1;haveI q5:=hr.2.2.2.2
  haveI hs:=q1.size
  split
  ·exact lX jf tr (q1.rev _ _) (aC 0x22001100001110201 rt q2) q3 (vA jf tr (aO 0x2212100000201021200001 rt q3 hs) (aJ 0x2000000 rt) q5 q4)
  ·exact lX jf tr q1 (aC 0x22001100001110201 rt q2) q3 q4
theorem t8(hn:2≤n)(hp:i7 n p):Good n (fun i j=> !le j i) (kas_count n p) (fun r=>1≤r.1∧r.1≤n∧i7 n r.2∧Up le r.2 0 r.1):=by
 refine Good.bind (Good.mono (lW jf tr hp (n - 1) 1 (D6 0x2111100 rt) (aC 0x21211022111022022100011220101100221011060100211101671102101 rt hn (bE _ _)) fun i j _ ie hj=>absurd (Nat.lt_of_lt_of_le ie (Nat.le_of_lt_succ hj)) (Nat.not_lt_zero _)) fun m hm=>?_);obtain⟨h1,h2,h3,h4⟩:=hm;have hs:=hp.size
 split
 ·exact⟨h1,h2,hp,h3⟩
 ·rename_i jK
  have dB:m<n:=by
   exact Nat.lt_of_le_of_ne h2 fun q=>jK (beq_iff_eq.mpr q)
  have h4:=h4 dB
  split
  ·refine⟨hp.lt (aJ 0x22000110002101 rt hn),hp.lt (Nat.lt_of_le_of_lt (Nat.sub_le _ _) dB),?_⟩
   dsimp only
   split
   ·exact⟨h1,h2,hp,h3⟩
   ·rename_i hc
    have hc:le (p.getD (m - 1) 0) (p.getD 0 0)=true:=by simpa using hc
    have refl:∀a,le a a=true:=fun a=>(jf a a).elim id id
    have lo:∀x,x<m→le (p.getD 0 0) (p.getD x 0)=true:=fun x hx=>by
     by_cases e:x=0
     ·subst e;exact refl _
     ·exact h3 0 x (D6 0x2010100 rt) (aJ 0x22020001100100281 rt e) hx
    have hi:∀x,x<m→le (p.getD x 0) (p.getD (m - 1) 0)=true:=fun x hx=>by
     by_cases e:x=m - 1
     ·subst e;exact refl _
     ·exact h3 x (m - 1) (aJ 0x2000100 rt) (aO 0x211220222021112102111211000102011102220110601102112016711000281200011 rt hx e (bE _ _)) (aC 0x21211022100010101100221011060100211101671101101 rt h1 (bE _ _))
    haveI all:∀x y,x<m→y<m→le (p.getD x 0) (p.getD y 0)=true:=fun x y hx hy=>tr _ _ _ (hi x hx) (tr _ _ _ hc (lo y hy));refine iy jf tr (hp.rev 0 m) h1 dB fun i j _ ie hj=>?_;rw[fe (hs.symm▸h2),fe (hs.symm▸h2)]
    split
    ·rw[if_pos (by rename_i q0;exact aO 0x221202111100010001060102012001061200011 rt ie q0)]
     exact all _ _ (by rename_i q0;exact bS 0x212112111021112102111122210211221100010100121130221001211060130211100121671302000223020060100220301671102012001061 rt q0 (bE _ _) (bE _ _)) (bS 0x21211211021112021111212021112100010100121120221001211060120211100121671203000222030060100230201671101101 rt h1 (bE _ _) (bE _ _))
    ·obtain rfl:j=m:=by rename_i q0;exact aC 0x21202210210211000201000100010681111020011 rt hj q0
     rw[if_pos (by exact aC 0x22021100010001060100011 rt ie)];exact tr _ _ _ h4 (all _ _ (aC 0x21211022100010101100221011060100211101671101101 rt h1 (bE _ _)) (bS 0x21211211021112021111222021122100010100121130221001211060130211100121671302000223020060100220301671102011 rt ie (bE _ _) (bE _ _)))
  ·refine iy jf tr hp h1 dB fun i j _ ie hj=>?_
   obtain rfl:m=1:=by rename_i q1 _;exact aJ 0x22102121100200011181001101 rt h1 q1
   obtain rfl:i=0:=aC 0x2220211010020111121011100011 rt ie hj;obtain rfl:j=1:=aJ 0x2120221110020000111111120011 rt hj ie;exact h4
theorem iM{p:Array Nat}{k:Nat}(hp:i7 n p)(hk:k<n)(hu:Up le p 0 k):∀(f l r:Nat),l≤r→r≤k→r≤l+f→(∀i,i<l→le (p.getD i 0) (p.getD k 0)=true)→(∀i,r≤i→i<k→le (p.getD k 0) (p.getD i 0)=true)→
  Good n (fun i j=> !le j i) (kas_place p k f l r) (fun l=>l≤k∧(∀i,i<l→le (p.getD i 0) (p.getD k 0)=true)∧(∀i,l≤i→i<k→le (p.getD k 0) (p.getD i 0)=true))
 |0,l,r,h1,h2,h3,h4,h5=>⟨by exact aO 0x222100000102001200001 rt h1 h2,h4,fun i a b=>h5 i (aO 0x222100000102001012020001 rt h3 a) b⟩
 |f+1,l,r,h1,h2,h3,h4,h5=>by
  dsimp only[kas_place]
  split
  ·exact⟨by exact aO 0x222100000102001200001 rt h1 h2,h4,fun i a b=>h5 i (by rename_i q0;exact aO 0x222100000102001200001 rt q0 a) b⟩
  ·refine⟨hp.lt hk,hp.lt (by rename_i q0;exact yZ 0x31223310001021002323040213040200230614030081203001102011 rt hk h2 q0 (dN 2 (by decide) _)),?_⟩
   dsimp only
   split
   ·rename_i hc
    have hc:le (p.getD k 0) (p.getD ((l+r) / 2) 0)=true:=zW jf tr (hc);refine iM hp hk hu f l ((l+r) / 2) (by rename_i q1 _;exact aO 0x321210000021102322000212000210230610020081 rt q1 (dN 2 (by decide) _)) (by rename_i q1 _;exact bS 0x3122310000021002322030212030200230613020081102001 rt h2 q1 (dN 2 (by decide) _)) (bS 0x31222010200002100232301021301020023061112021023001 rt h3 (dN 2 (by decide) _)) h4 fun i a b=>?_
    by_cases e:i=(l+r) / 2
    ·subst e;exact hc
    ·exact tr _ _ _ hc (hu _ _ (aJ 0x2000100 rt) (aC 0x2210221000100010281100001 rt a e) b)
   ·rename_i hc
    have hc:le (p.getD ((l+r) / 2) 0) (p.getD k 0)=true:=by simpa using hc
    refine iM hp hk hu f ((l+r) / 2+1) r (by rename_i q1 _;exact aO 0x312210110020021002321020211020200230612010081 rt q1 (dN 2 (by decide) _)) (aC 0x22100000100001 rt h2) (bS 0x32122011102200002110232003021003021023061112023020001 rt h3 (dN 2 (by decide) _)) (fun i a=>?_) h5
    by_cases e:i=(l+r) / 2
    ·subst e;exact hc
    ·exact tr _ _ _ (hu _ _ (aJ 0x2000100 rt) (aC 0x2202211000101000281111020011 rt a e) (by rename_i q1 _;exact bS 0x3122310001021002322030212030200230613020081102001 rt h2 q1 (dN 2 (by decide) _))) hc
theorem rL:∀(f:Nat) (p:Array Nat) (k:Nat),i7 n p→k+f=n→Up le p 0 k→Good n (fun i j=> !le j i) (kas_bin f p k) (fun p=>i7 n p∧Up le p 0 n)
 |0,p,k,h1,h2,h3=>⟨h1,(by obtain rfl:k=n:=(aC 0x2120221100020100100221 rt h2);exact h3)⟩
 |f+1,p,k,h1,h2,h3=>by
  haveI hs:=h1.size;refine Good.bind (Good.mono (iM jf tr h1 (aO 0x212100010101120200221 rt h2) h3 k 0 k (aJ 0x2000100 rt) (aJ 0x2000000 rt) (aJ 0x2000120000 rt) (fun i h=>absurd h (Nat.not_lt_zero _)) (fun i a b=>absurd (Nat.lt_of_le_of_lt a b) (Nat.lt_irrefl _))) fun l hl=>?_);obtain⟨hl,lo,hi⟩:=hl;refine rL f _ (k+1) (h1.bub _ _) (aO 0x2120221201011002220201110200221 rt h2) fun i j _ ie hj=>?_;rw[rK (by exact bS 0x22112100010301021301120200221 rt h2 hs) (by exact aO 0x212102121100000102000221020060100220101671 rt (bE _ _)),rK (by exact bS 0x22112100010301021301120200221 rt h2 hs) (by exact aO 0x212102121100000102000221020060100220101671 rt (bE _ _))];refine(show k - (k - l)=l by exact bS 0x221112110212121110211212110211120211121021211121021121211021112100020201030222010060130210201671203000222030060100230201671201001 rt hl (bE _ _) (bE _ _)).symm▸?_
  split
  ·rw[if_neg (by rename_i q0;exact aO 0x22121000280102021002011 rt ie q0),if_pos (by rename_i q0;exact bS 0x21121022112201001000160003021112021011103011 rt ie hj q0)]
   exact hi _ (by rename_i q0;exact bS 0x221121202112212100000301110223011060110211301671002021302011 rt ie q0 (bE _ _)) (bS 0x2121210212100010301100223011060100211301671111023011302011 rt ie hj (bE _ _))
  ·split
   ·rw[if_neg (by rename_i q0;exact bS 0x21221000280302002010161002011 rt ie q0),if_pos (by rename_i q0;exact bS 0x21121021212201001000160203003000161112021011103011 rt ie hj q0)]
    exact h3 _ _ (aJ 0x2000100 rt) (by rename_i q0;exact y7 0x2121211112021111210211211202122100010201100222011060100211201671301110223011060110211301671502002040161302011 rt ie q0 (bE _ _) (bE _ _)) (by rename_i q0;exact yZ 0x212111202121221100010201100222011060100211201671104004030161111022011 rt hj q0 (bE _ _))
   ·split
    ·exact lo _ (by rename_i q0;exact aO 0x2122100010102021200011 rt ie q0)
    ·split
     ·refine gP fun GP MT=>?_
      by_cases e:i=j - 1
      ·rename_i c1 c2 c3 c4;exact absurd ⟨Nat.lt_of_le_of_ne (e▸Nat.le_sub_one_of_lt c4.1) (Ne.symm c1),Nat.le_trans (Nat.le_of_lt ie) c4.2⟩ c2
      ·refine MT ?_;exact h3 _ _ (aJ 0x2000100 rt) (aO 0x211220222021112102111211000102011102220110601102112016711000281200011 rt ie e (bE _ _)) (bS 0x2121210212100010301100223011060100211301671111023011302011 rt ie hj (bE _ _))
     ·exact h3 _ _ (aJ 0x2000100 rt) (aC 0x22100010100011 rt ie) (by rename_i q1 q0;exact aO 0x2121022110221202121210001010000002016812000281111020011102001 rt hl hj q1 q0)
theorem xH(hn:2≤n):Good n (fun i j=> !le j i) (kas_sort n) (fun p=>i7 n p∧Up le p 0 n):=by
 refine Good.bind (Good.mono (t8 jf tr hn (Array.Perm.refl _)) fun r hr=>?_);haveI h1:=hr.1;haveI h2:=hr.2.1;haveI h3:=hr.2.2.1;haveI h4:=hr.2.2.2
 split
 ·have e:max r.1 1=r.1:=by simp_all
  exact(e.symm▸(rL jf tr _ _ _ h3 (by rename_i q0;exact aO 0x21211022111022022201000220200010222000060110200201671200011 rt q0 (bE _ _)) h4))
 ·have e:r.1=n:=by rename_i q0;exact aC 0x21202211000201000181100001 rt h2 q0
  simp only[e]at h4;exact⟨h3,h4⟩
end
section
open PyProof.Rows PySem PySem.Calls PySem.W
set_option maxRecDepth 100000
noncomputable def pQ(x y:Int×Int):Bool:=decide (x.1<y.1∨(x.1=y.1∧x.2≤y.2))
theorem vC(x y):pQ x y=true∨pQ y x=true:=by
 unfold pQ;simp only[decide_eq_true_eq];exact rp 0x21210211202211022102121022102202202121203030010560010473020310005610004770 rt
theorem zX(x y z)(h1:pQ x y=true)(h2:pQ y z=true):pQ x z=true:=by
 refine decide_eq_true ?_;rcases of_decide_eq_true h1 with a|⟨a,b⟩
 ·rcases of_decide_eq_true h2 with c|⟨c,_⟩
  ·exact .inl (Int.lt_trans a c)
  ·exact .inl (c▸a)
 ·rcases of_decide_eq_true h2 with c|⟨c,d⟩
  ·exact .inl (a▸c)
  ·exact .inr ⟨a.trans c,Int.le_trans b d⟩
theorem zY(x y)(h1:pQ x y=true)(h2:pQ y x=true):x=y:=by
 unfold pQ at *;simp only[decide_eq_true_eq]at *;exact Prod.ext (rp 0x21111120211112102112022111021112022022022100050203030010560010471302031000561000471 rt h1 h2) (rp 0x2111211022111110211202112022022022022100050001032030562030471100033020563020471 rt h1 h2)
noncomputable def pk:V→Int×Int
 |.tup [.int a,.int b]=>(a,b)
 |_=>(0,0)
theorem fg(h:c9 d=true):d=.tup [.int (pk d).1,.int (pk d).2]:=by
 rcases d with _|_|_|_|vs|_|_|_<;>try exact Bool.noConfusion h
 rcases vs with _|⟨x,vs⟩
 ·exact Bool.noConfusion h
 cases x<;>(try exact Bool.noConfusion h)<;>(rcases vs with _|⟨y,vs⟩<;>try exact Bool.noConfusion h)
 cases y<;>(try exact Bool.noConfusion h)<;>(rcases vs with _|⟨z,vs⟩<;>first|exact Bool.noConfusion h|rfl)
theorem xI(h1:c9 d=true)(h2:c9 e=true):cn d e=pQ (pk d) (pk e):=by
 refine(fg h1).symm▸?_;refine(fg h2).symm▸?_;rfl
theorem lY{α:Type}(vs:List α) x:(List.range vs.length).map (fun i=>vs.getD i x)=vs:=by
 apply List.ext_getElem
 ·simp
 ·intro i h1 h2
  simp at h1;simp[h1]
theorem n5{ds:List V}(hp:ds.all c9=true)(h1:i7 ds.length p)(h2:Up (fun i j=>pQ (pk (ds.getD i .none)) (pk (ds.getD j .none))) p 0 ds.length):
  p.toList.map (fun i=>ds.getD i .none)=ds.mergeSort cn:=by
 have HN:(p.toList.map fun i=>ds.getD i V.none).Perm ds:=by
  haveI a:p.toList.Perm (List.range ds.length):=by
   haveI:=Array.perm_iff_toList_perm.mp h1;simpa using this
  haveI:=a.map (fun i=>ds.getD i V.none)
  rwa [lY]at this
 haveI hm:=List.mergeSort_perm ds cn;have t9:∀d∈ds,c9 d=true:=List.all_eq_true.mp hp;haveI p1:∀d∈p.toList.map (fun i=>ds.getD i V.none),c9 d=true:=fun d h=>t9 d (HN.mem_iff.mp h);haveI p2:∀d∈ds.mergeSort cn,c9 d=true:=fun d h=>t9 d (hm.mem_iff.mp h);refine List.Perm.eq_of_pairwise (le:=fun a b=>pQ (pk a) (pk b)=true) (fun a b ha hb e1 e2=>?_) ?_ ?_ (HN.trans hm.symm)
 ·refine(fg (p1 a ha)).symm▸?_;rw[fg (p2 b hb),zY _ _ e1 e2]
 ·rw[List.pairwise_iff_getElem]
  intro i j hi hj ie;haveI hs:=h1.size;simp only[List.length_map,Array.length_toList]at hi hj;haveI:=h2 i j (aJ 0x2000100 rt) ie (aO 0x2212100010200011102021 rt hs hj);simp only[List.getElem_map,Array.getElem_toList];haveI e1:p.getD i 0=p[i]:=by simp[Array.getD,hi]
  haveI e2:p.getD j 0=p[j]:=by simp[Array.getD,hj]
  haveI this:=e2▸(e1▸this);exact this
 ·haveI e:ds.mergeSort cn=ds.mergeSort (fun a b=>pQ (pk a) (pk b)):=by
   haveI:=List.map_mergeSort (r:=cn) (s:=fun a b=>pQ (pk a) (pk b)) (f:=fun d:V=>d) (l:=ds) fun a ha b hb=>xI (t9 a ha) (t9 b hb);simpa using this
  simp only[e];exact List.pairwise_mergeSort (le:=fun a b=>pQ (pk a) (pk b)) (fun a b c=>zX _ _ _) (fun a b=>by simpa using vC (pk a) (pk b)) ds
end
section
open PyProof.Rows PySem PySem.Calls PySem.W
set_option maxRecDepth 100000
variable{prog:Program}{w:World}{A:Around}{E:Value→Shared→Prop}{s:Shared}
theorem n6{a:Addr}{vs:List Value}{n:Nat}{P:PySem.Fin→Shared→Prop}{le:Nat→Nat→Bool}(jf:∀a b,le a b=true∨le b a=true)(tr:∀a b c,le a b=true→le b c=true→le a c=true)
  (ho:s.heap.get? a=some (seqObj "list" vs.toArray n)) (HQ:vs.length<64)
  (hk:2≤vs.length→∀h',(∀b o,b≠a→s.heap.get? b=some o→h'.get? b=some o)→
   wpAny (model prog w) A (keyKind' vs.toArray) (fun κ s'=>s'={s with heap:=h'}∧∀i j C,i<vs.length→j<vs.length→C (!le j i) {s with heap:=h'}→kas_ask prog w A κ vs i j C {s with heap:=h'}) (fun _ _=>False) {s with heap:=h'})
  (h:∀p c h',i7 vs.length p→Up le p 0 vs.length→h'.get? a=some (seqObj "list" (List.toArray (p.toList.map fun i=>vs.getD i Value.none)) c)→(∀b o,b≠a→s.heap.get? b=some o→h'.get? b=some o)→
   P (.done (.ret .none)) {s with heap:=h'}):
  wpAny (model prog w) A (Builtin.«list.sort» ⟨[.ref a],[]⟩) P E s:=by
 obtain⟨e1,T8⟩:∃e1,(s.heap.update a (Obj.mapSeq fun _=>(#[]:Array Value))).get? a=some (seqObj "list" #[] e1):=⟨_,get?_update_seq ho fun _=>#[]⟩
 have M4:(((s.heap.update a (Obj.mapSeq fun _=>#[])).push (seqObj "tuple" vs.toArray 0)).push (seqObj "list" #[] 0)).get? a=some (seqObj "list" #[] e1):=
  Heap.get?_push_of_some _ (Heap.get?_push_of_some _ T8)
 have keep:∀b o,b≠a→s.heap.get? b=some o→(((s.heap.update a (Obj.mapSeq fun _=>#[])).push (seqObj "tuple" vs.toArray 0)).push (seqObj "list" #[] 0)).get? b=some o:=fun b o hb e=>
  Heap.get?_push_of_some _ (Heap.get?_push_of_some _ (by rw[Heap.get?_update_ne _ _ _ _ hb];exact e))
 rw[list_sort_plain];refine wpAny_bind (listItems_at ho rfl ?_);refine wpAny_bind (listUpdate_at ho rfl ?_ (by refine(List.size_toArray).symm▸?_;rw[sizeLine_eq];exact aJ 0x221888888881000018810011 rt HQ) (Nat.zero_le _));refine wpAny_bind (seqEpoch_at T8 rfl ?_);refine wpAny_bind (wpAny_newTuple ?_ (by show vs.length≤_;rw[sizeLine_eq];exact aJ 0x221888888881000018810011 rt HQ));refine wpAny_bind (wpAny_newList ?_ (Nat.zero_le _));refine wpAny_holding ?_;show wpAny (model prog w) A _ P E {s with heap:=((s.heap.update a (Obj.mapSeq fun _=>(#[]:Array Value))).push (seqObj "tuple" vs.toArray 0)).push (seqObj "list" #[] 0)};generalize hH:((s.heap.update a (Obj.mapSeq fun _=>(#[]:Array Value))).push (seqObj "tuple" vs.toArray 0)).push (seqObj "list" #[] 0)=H at *;haveI i5:vs.toArray.size=vs.length:=by rfl
 have fin:∀(af:SortSt) (p:Array Nat),i7 vs.length p→Up le p 0 vs.length→arrOf af=p.map (kas_item (vs.toArray.zip vs.toArray))→
   P (.done (.ret .none)) {s with heap:=H.update a (Obj.mapSeq fun _=>(arrOf af).map (·.2))}:=fun af p h1 h2 h3=>by
  rw[kat_snds rfl h3];refine h p _ _ h1 h2 (get?_update_seq M4 fun _=>List.toArray (p.toList.map fun i=>vs.getD i Value.none)) fun b o hb e=>?_;rw[Heap.get?_update_ne _ _ _ _ hb];exact keep b o hb e
 have size:∀(af:SortSt) (p:Array Nat),i7 vs.length p→arrOf af=p.map (kas_item (vs.toArray.zip vs.toArray))→((arrOf af).map (·.2)).size≤sizeLine+1:=fun af p h1 h3=>by
  simp only[Array.size_map,h3,Array.size_map,h1.size];exact aJ 0x221118888888812000018810011 rt HQ
 rcases Classical.em (vs.toArray.size<2)with h2|h2
 ·rw[if_pos h2,if_pos h2]
  refine wpAny_bind (wpAny_pure ?_);refine wpAny_bind (wpAny_pure ?_);dsimp only
  haveI e0:arrOf (SortSt.mk' general' (vs.toArray.zip vs.toArray) #[] 7 none)=(List.toArray (List.range vs.length)).map (kas_item (vs.toArray.zip vs.toArray)):=by
   haveI e:=kas_range (vs.toArray.zip vs.toArray);haveI e:=(show(vs.toArray.zip vs.toArray).size=vs.length by simp)▸e;simp only[e]
  refine wpAny_bind (seqEpoch_at M4 rfl ?_);refine wpAny_bind (listUpdate_at M4 rfl ?_ (Nat.zero_le _) (size _ _ (Array.Perm.refl _) e0));simp only[bne_self_eq_false,Bool.false_eq_true];refine wpAny_pure (fin _ _ (Array.Perm.refl _) (fun i j _ ie hj=>?_) e0);rw[i5]at h2
  lia
 ·rw[if_neg h2,if_neg h2]
  refine wpAny_bind (wpAny_mono (hk (aJ 0x220021002100181 rt h2) H keep) (fun κ s0 hκ=>?_) fun _ _ x=>x.elim);obtain⟨rfl,Vp⟩:=hκ
  refine wpAny_bind (wpAny_mono (kat_run (Q:=fun af s'=>s'={s with heap:=H}∧∃p:Array Nat,i7 vs.length p∧Up le p 0 vs.length∧arrOf af=p.map (kas_item (vs.toArray.zip vs.toArray))∧failedOf af=none)
   (G:=fun p s'=>s'={s with heap:=H}∧i7 vs.length p∧Up le p 0 vs.length)
   rfl (aJ 0x220021002100181 rt h2) HQ (fun p' af s' a1 a2 a3 a4=>⟨a4.1,p',a4.2.1,a4.2.2,a2,a3⟩) ?_) ?_ fun _ _ e=>e)
  ·exact Good.wp (lt:=fun i j=> !le j i) Vp (Good.mono (xH jf tr (aJ 0x220021002100181 rt h2)) fun p hp=>⟨rfl,hp⟩)
  ·rintro ⟨⟨⟩,af⟩ s' ⟨rfl,p,hp,hu,y9,hf⟩
   refine wpAny_bind (seqEpoch_at M4 rfl ?_);refine wpAny_bind (listUpdate_at M4 rfl ?_ (Nat.zero_le _) (size _ _ hp y9));refine hf.symm▸?_;simp only[bne_self_eq_false,Bool.false_eq_true];exact wpAny_pure (fin af p hp hu y9)
theorem ua{l:Addr}{vs:List Value}{Q:Value→Shared→Prop}{le:Nat→Nat→Bool}(jf:∀a b,le a b=true∨le b a=true)(tr:∀a b c,le a b=true→le b c=true→le a c=true)
  (hl:s.heap.IsList l vs.toArray) (HQ:vs.length<64)
  (hk:2≤vs.length→∀(B:Around) h',(∀b o,s.heap.get? b=some o→h'.get? b=some o)→
   wpAny (model prog w) B (keyKind' vs.toArray) (fun κ s'=>s'={s with heap:=h'}∧∀i j C,i<vs.length→j<vs.length→C (!le j i) {s with heap:=h'}→kas_ask prog w B κ vs i j C {s with heap:=h'}) (fun _ _=>False) {s with heap:=h'})
  (h:∀p c h',i7 vs.length p→Up le p 0 vs.length→h'.get? (s.heap.objs.size+1)=some (seqObj "list" (List.toArray (p.toList.map fun i=>vs.getD i Value.none)) c)→(∀b o,s.heap.get? b=some o→h'.get? b=some o)→
   Q (.ref (s.heap.objs.size+1)) {s with heap:=h'}):
  wpAny (model prog w) A (PySem.call (.builtin "sorted") [.ref l]) Q E s:=by
 refine Calls.call_function_entry kind_sorted plain_sorted entry_sorted (args_sorted1 _) ?_;refine wpAny_bind (m:=checkCount "sorted" 1 1 _) (wpAny_pure ?_);refine wpAny_bind (collect_list hl ?_ (by rw[sizeLine_eq];exact aJ 0x221888888881000018810011 rt HQ));refine wpAny_bind (wpAny_newList ?_ (by rw[sizeLine_eq];exact aJ 0x221888888881000018810011 rt HQ))
 have i5:((s.heap.push (seqObj "list" #[] 0)).update s.heap.objs.size (Obj.mapSeq (· ++vs.toArray))).objs.size=s.heap.objs.size+1:=by
  rw[Heap.size_update,size_push']
 haveI YX:(((s.heap.push (seqObj "list" #[] 0)).update s.heap.objs.size (Obj.mapSeq (· ++vs.toArray))).push (seqObj "list" vs.toArray 0)).get? (s.heap.objs.size+1)=some (seqObj "list" vs.toArray 0):=by
  exact(i5▸(Heap.get?_push_size _ rfl))
 have keep:∀b o,s.heap.get? b=some o→(((s.heap.push (seqObj "list" #[] 0)).update s.heap.objs.size (Obj.mapSeq (· ++vs.toArray))).push (seqObj "list" vs.toArray 0)).get? b=some o:=fun b o q=>by
  haveI dB:b<s.heap.objs.size:=Heap.lt_size q;rw[Heap.get?_push_ne _ _ _ ((i5.symm▸(Nat.ne_of_lt (Nat.lt_succ_of_lt dB)))),Heap.get?_update_ne _ _ _ _ (Nat.ne_of_lt dB),Heap.get?_push_ne _ _ _ (Nat.ne_of_lt dB)];exact q
 refine i5.symm▸?_;refine wpAny_bind (wpAny_holding (wpAny_call_entry slot_list_sort ⟨_,YX,rfl⟩ entry_list_sort ?body (args_list_sort _)))
 case body=>
  have nb:∀b o,s.heap.get? b=some o→b≠s.heap.objs.size+1:=fun b o q=>Nat.ne_of_lt (Nat.lt_succ_of_lt (Heap.lt_size q))
  refine n6 (s:={s with heap:=((s.heap.push (seqObj "list" #[] 0)).update s.heap.objs.size (Obj.mapSeq (· ++vs.toArray))).push (seqObj "list" vs.toArray 0)}) jf tr YX HQ
   (fun h2 h' k=>hk h2 _ h' fun b o q=>k b o (nb b o q) (keep b o q)) fun p c h' h1 h2 h3 k=>?_
  exact⟨_,rfl,wpAny_pure ⟨_,rfl,h p c h' h1 h2 h3 fun b o q=>k b o (nb b o q) (keep b o q)⟩⟩
end
section
open PyProof.Rows PySem PySem.Calls PySem.W
set_option maxRecDepth 100000
variable{prog:Program}{w:World}{A:Around}{E:Value→Shared→Prop}{s:Shared}{base:Heap}
theorem jR(H:VR Z σ h v d)(hp:c9 d=true){GG:Prop}(kk:∀a o n t u,v=.ref a→h.get? a=some o→o.cls=.type "tuple"→o.data=.seq #[.int (pk d).1 t,.int (pk d).2 u] n→GG):GG:=by
 rw[fg hp]at H;refine H.cC fun a l M3 rH hA _=>?_;subst M3;obtain⟨o,ho,hc,n,hd⟩:=rH;refine hA.aW fun v1 l1 eq2 x1 r1=>?_;obtain rfl:=eq2;refine r1.aW fun v2 l2 eq2 x2 r2=>?_;obtain rfl:=eq2;obtain rfl:=r2.da
 (refine bx x1 fun _ zR=>?_;subst zR);(refine bx x2 fun _ xB=>?_;subst xB)
 exact kk a o n _ _ rfl ho hc hd
theorem vD{Z σ:List Addr}{h:Heap}:∀{l:List Value} {ds:List V},aj Z σ h l ds→(∀d∈ds,c9 d=true)→∃fs,KatTups h l fs∧fs.length=l.length∧∀v∈fs,∃i t,v=.int i t
 |l,[],H,_=>by exact((H.da).symm▸(⟨[],KatTups.nil,rfl,fun v h=>nomatch h⟩))
 |l,d::ds,H,hp=>by
  refine H.aW fun v l' eq2 hx hr=>?_;obtain rfl:=eq2;refine zr (vD hr fun d h=>hp d (.tail _ h)) fun fs h1 h2 h3=>?_;refine jR hx (hp d (.head _)) fun a o n t u pR ho hc hd=>?_;subst pR;refine⟨_::fs,KatTups.cons ho hc hd rfl h1,by simp[h2],fun v hv=>?_⟩;rcases List.mem_cons.mp hv with rfl|hv
  ·exact⟨_,_,rfl⟩
  ·exact h3 v hv
theorem zZ{B:Around}{x y:Addr}{ox oy:Obj}{n k:Nat}{a b c d:Int}{t u t' u':Tok}{C:Bool→Shared→Prop}(hx:s.heap.get? x=some ox)(dx:ox.data=.seq #[.int a t,.int b u] n)(hy:s.heap.get? y=some oy)(dy:oy.data=.seq #[.int c t',.int d u'] k)
  (h:C (!pQ (c,d) (a,b)) s):wpAny (model prog w) B (keyLt' (tuples' true) (.ref x) (.ref y)) C E s:=by
 have e:(!pQ (c,d) (a,b))=decide (a<c∨(a=c∧b<d)):=by
  unfold pQ;rw[←decide_not]
  exact decide_eq_decide.mpr ⟨fun q=>(Int.lt_trichotomy a c).elim .inl fun r=>r.elim (fun e=>.inr ⟨e,Int.not_le.mp fun z=>q (.inr ⟨e.symm,z⟩)⟩) fun e=>absurd (.inl e) q,
   fun q r=>q.elim (fun q=>r.elim (fun r=>Int.lt_asymm q r) fun r=>Int.ne_of_lt q r.1.symm) fun q=>r.elim (fun r=>Int.ne_of_lt r q.1.symm) fun r=>absurd q.2 (Int.not_lt.mpr r.2)⟩
 rw[e]at h;refine kat_lt hx dx hy dy ?_;refine kat_cons (wpAny_eqBool_int (kat_go (fun e1=>kat_yes (kat_cons (wpAny_eqBool_int (kat_go (fun e2=>kat_yes (kat_nil ?_)) fun e2=>kat_no ?_)))) fun e1=>kat_no ?_))
 ·have e1:a=c:=by simpa using e1
  have e2:b=d:=by simpa using e2
  have:decide (a<c∨(a=c∧b<d))=false:=decide_eq_false (fun q=>q.elim (fun q=>Int.ne_of_lt q e1) fun q=>Int.ne_of_lt q.2 e2);rw[this]at h;exact h
 ·have e1:a=c:=by simpa using e1
  have e2:b≠d:=by simpa using e2
  refine kat_one _ _ (PyProof.Rows.lt_int ?_);have:decide (a<c∨(a=c∧b<d))=decide (b<d):=decide_eq_decide.mpr ⟨fun q=>q.elim (fun q=>absurd e1 (Int.ne_of_lt q)) (·.2),fun q=>.inr ⟨e1,q⟩⟩;rw[this]at h;exact h
 ·haveI e1:a≠c:=by simpa using e1
  refine oneLt_int ?_;haveI:decide (a<c∨(a=c∧b<d))=decide (a<c):=decide_eq_decide.mpr ⟨fun q=>q.elim id fun q=>absurd q.1 e1,.inl⟩;rw[this]at h;exact h
end
section
open PyProof.Rows PySem PySem.Calls PySem.W
variable{prog:Program}{w:World}{K:Frag}{base:Heap}{P:Pg}{call:bj}{n:Nat}{sc:List (Str×NameKind)}
theorem Ext.of_keep{W σ:List Addr}{s:Shared}{h':Heap}{tk:Nat}(k:∀b o,s.heap.get? b=some o→h'.get? b=some o):Ext W σ s σ {s with heap:=h',toks:=tk} where
 pre:=List.prefix_refl _
 new:=fun i a h e=>by haveI e:=(List.getElem?_eq_none h)▸e;(exact bX e)
 keep:=fun a o e _ _=>k a o e
 iJ:=fun a o _ _ e=>k a o e
 live:=fun a _ e=>by
  refine iG (s.heap.get? a) (fun q=>?_) fun o q=>?_
  ·exact absurd q e
  ·show h'.get? a≠none;exact((k a o q).symm▸(fun e=>nomatch e))
 gens:=rfl
 os:=rfl
theorem Rel.of_keep{Z σ:List Addr}{st:St}{s:Shared}{h':Heap}(R:Rel base Z σ st s.heap)(k:∀b o,s.heap.get? b=some o→h'.get? b=some o):Rel base Z σ st h':=
 R.ext (s':={s with heap:=h'}) (W:=[]) (.of_keep (tk:=s.toks) k) jM jM (fun a _ o e=>k a o e) fun a h=>nomatch h
theorem VR.of_keep{Z σ:List Addr}{h h':Heap}(k:∀b o,h.get? b=some o→h'.get? b=some o){v:Value}{d:V}(H:VR Z σ h v d):VR Z σ h' v d:=
 H.mono (List.prefix_refl _) fun a o _ e _ _ _=>k a o e
theorem Rel.free{Z σ:List Addr}{st:St}{h:Heap}(R:Rel base Z σ st h){a:Addr}(ha:h.get? a=none):a∉σ∧a∉Z∧base.get? a=none:=by
 refine⟨fun hm=>R.lO hm ha,fun hm=>R.alive _ hm ha,?_⟩;cases q:base.get? a with
 |none=>rfl
 |some o=>haveI:=R.keep _ _ q;haveI this:=ha▸this;(exact bX this)
theorem Ext.kJ(k:∀b o,s.heap.get? b=some o→h'.get? b=some o){a:Addr}(ha:s.heap.get? a=none):Ext W σ s (σ++[a]) {s with heap:=h',toks:=tk} where
 pre:=List.prefix_append _ _
 new:=fun i a' h e=>by
  replace e:=(List.getElem?_append_right h)▸e
  haveI:a'=a:=by
   cases hi:i - σ.length with
   |zero=>haveI e:=hi▸e;simpa using e.symm
   |succ j=>rw[hi]at e;injection e
  exact(this.symm▸(.inl ha))
 keep:=fun a o' e _ _=>k a o' e
 iJ:=fun a o' _ _ e=>k a o' e
 live:=(Ext.of_keep (W:=W) (σ:=σ) (s:=s) (tk:=tk) k).live
 gens:=rfl
 os:=rfl
theorem Rel.kJ{st:St}{s:Shared}(R:Rel base Z σ st s.heap)(k:∀b o,s.heap.get? b=some o→h'.get? b=some o){a:Addr}(ha:s.heap.get? a=none)
  (hc:CR Z (σ++[a]) h' a c):Rel base Z (σ++[a]) (st++[c]) h' where
 keep:=(R.of_keep k).keep
 len:=by simp[R.len]
 nd:=by
  rw[List.nodup_append];refine⟨R.nd,List.nodup_cons.mpr ⟨(fun h=>nomatch h),List.nodup_nil⟩,fun x hx b hb e=>?_⟩;simp at hb;subst hb;exact(R.free ha).1 (e▸hx)
 fresh:=fun x hx=>by
  rcases List.mem_append.mp hx with h|h
  ·exact R.fresh x h
  ·simp at h;subst h;exact(R.free ha).2.2
 apart:=fun x hx=>by
  rcases List.mem_append.mp hx with h|h
  ·exact R.apart x h
  ·simp at h;subst h;exact(R.free ha).2.1
 alive:=(R.of_keep k).alive
 bW:=R.bW
 cell:=fun i c' x e1 e2=>by
  by_cases hi:i<st.length
  ·rw[List.getElem?_append_left hi]at e1
   simp only[List.getElem?_append_left (R.len▸hi)]at e2;haveI C:=(R.of_keep k).cell i c' x e1 e2;haveI vr:∀v d,VR Z σ h' v d→VR Z (σ++[a]) h' v d:=fun v d H=>H.mono (List.prefix_append _ _) fun _ _ _ e _ _ _=>e;cases c' with
   |list ds=>obtain⟨l,n,g,H,hl⟩:=C;exact⟨l,n,g,H.imp vr,hl⟩
   |inst fs=>obtain⟨l,n,g,H,hn⟩:=C;exact⟨l,n,g,H.imp vr,hn⟩
  ·have fE:st.length≤i:=Nat.le_of_not_lt hi
   replace e1:=(List.getElem?_append_right fE)▸e1;rw[List.getElem?_append_right (R.len▸fE)]at e2
   have h0:i - st.length=0:=by
    cases hj:i - st.length with
    |zero=>rfl
    |succ j=>rw[hj]at e1;injection e1
   replace e1:=h0▸e1;replace e2:=h0▸((R.len)▸e2);simp at e1 e2;subst e1 e2;exact hc
theorem Rel.vE{st:St}{s:Shared}(R:Rel base Z σ st s.heap)(k:∀b o,s.heap.get? b=some o→h'.get? b=some o)(ha:s.heap.get? a=none)
  (g:h'.get? a=some (listOf (List.toArray l) m)) (H:aj Z σ h' l ds) (hl:ds.length≤ah):Rel base Z (σ++[a]) (st++[.list ds]) h':=
 R.kJ k ha ⟨l,m,g,H.imp fun v d h=>h.mono (List.prefix_append _ _) fun _ _ _ e _ _ _=>e,hl⟩
theorem Rel.addRef{st:St}(R:Rel base Z σ st h):VR Z (σ++[a]) h' (.ref a) (.lst st.length):=
 .lst (by refine(R.len)▸?_;simp)
theorem ub(h:idx k m=some j)(hm:m≤ah):j<m∧((0≤k∧k.toNat=j∧k<m)∨(k<0∧-(m:Int)≤k∧(k+m).toNat=j))∧-(2^63)≤k∧k<2^63:=by
 unfold idx at h;haveI:ah=100000:=rfl
 split at h
 ·split at h
  ·obtain rfl:=cU h;refine⟨by rename_i q1 q0;exact fZ 0x212121021210001000007500013601002010046711070041000131 rt q1 q0 (iq _),.inl ⟨by rename_i q1 _;exact bA 0x22000130000131 rt q1,rfl,by rename_i q0;exact fy 0x2200700400070041 rt q0⟩,by lia,by lia⟩
  ·(exact bX h)
 ·split at h
  ·obtain rfl:=cU h;refine⟨by rename_i q1 q0;exact fZ 0x2121120221100010107002007510700201360100201107002467110700201310001381 rt q1 q0 (iq _),.inr ⟨by rename_i q1 _;exact bA 0x220100400001381 rt q1,by rename_i q0;exact fy 0x22000076300070020131 rt q0,rfl⟩,by lia,by lia⟩
  ·(exact bX h)
theorem rM(h:idx k m=some j):seqIndex? k m=some j:=by
 unfold seqIndex?;refine xm h (fun h0 h=>dk h fun h1 h=>?_) fun h0 h=>dk h fun h1 h=>?_
 ·obtain rfl:=cU h;dsimp only;rw[if_neg (Int.not_lt.mpr h0)];exact if_pos (Bool.and_eq_true_iff.mpr ⟨decide_eq_true h0,decide_eq_true h1⟩)
 ·obtain rfl:=cU h;dsimp only;rw[if_pos (Int.not_le.mp h0)];exact if_pos (Bool.and_eq_true_iff.mpr ⟨decide_eq_true h1,decide_eq_true (Int.lt_of_lt_of_le (Int.add_lt_add_right (Int.not_le.mp h0) m) (Int.le_of_eq (Int.zero_add _)))⟩)
theorem z0{st:St}(R:Rel base Z σ st s.heap)(hv:VR Z σ s.heap v x)(hu:VR Z σ s.heap u y)(h:nW x y st=some d)
  {E:Value→Shared→Prop} (hq:∀v',VR Z σ s.heap v' d→Q v' s) (hs:∀a k t,subscripted slice false (.ref a) (.int k t)=operate [.ref a,.int k t] (getItem (.ref a) (.int k t))):
  wpAny (model prog w) A (subscriptTail value slice v u) Q E s:=by
 refine gP fun GP kQ=>?_;revert hv hu;refine iE h ?_;intro k h;refine MH h ?_ ?_
 ·intro vs h hv hu
  refine bO h fun j hj e=>?_;refine hv.cC fun a l eq2 ht hA hl=>?_;subst eq2;refine bx hu fun _ rH=>?_;subst rH;refine gP fun GP kP=>?_;refine hA.jb e fun v' e' H=>?_;refine zp (ub hj hl) fun h1 h2 h3 h4=>?_;refine kP ?_;refine kQ ?_;exact tail_any ht.typeIs slot_tuple_getitem.lookup (getItem_tuple ht h3 h4 (by simp only[List.size_toArray,hA.1];exact rM hj) (by simpa using e') (hq v' H)) (hs _ _ _)
 ·intro l vs h1 h hv hu
  refine bO h fun j hj e=>?_;refine R.cw hv h1 fun a l' m zR _ g hA hl=>?_;subst zR;refine bx hu fun _ xB=>?_;subst xB;refine hA.jb e fun v' e' H=>?_;refine zp (ub hj hl) fun h1 h2 h3 h4=>?_;refine kQ ?_;refine tail_any (aL g).typeIs slot_list_getitem.lookup ?_ (hs _ _ _);rcases h2 with⟨a1,a2,a3⟩|⟨a1,a2,a3⟩
  ·exact PySem.wpAny_getItem_list (aL g) a1 h4 (by refine a2.symm▸?_;simpa using e') (hq v' H)
  ·refine wpAny_getItem_list_neg (aL g) a1 (by simpa [hA.1]using a2) h3 ?_ (hq v' H)
   simp only[List.size_toArray,hA.1,a3];simpa using e'
theorem uc l:slicePick (List.toArray l) (some 1) none none=List.toArray (l.drop 1):=by
 have:=slicePick_from' (List.toArray l) 1;exact this
theorem ud l:slicePick (List.toArray l) none (some 1) none=List.toArray (l.take 1):=by
 have:=slicePick_upto' (List.toArray l) 1;simpa using this
theorem aj.drop(H:aj Z σ h l ds) k:aj Z σ h (l.drop k) (ds.drop k):=
 ⟨by simp[H.1],fun i v d e1 e2=>H.2 (k+i) v d (by simpa using e1) (by simpa using e2)⟩
theorem aj.take{Z σ:List Addr}{h:Heap}{l:List Value}{ds:List V}(H:aj Z σ h l ds)(k:Nat):aj Z σ h (l.take k) (ds.take k):=
 ⟨by simp[H.1],fun i v d e1 e2=>by
  rw[List.getElem?_take]at e1 e2;refine xm e1 (fun _ e1=>?_) fun _ e1=>?_
  ·rename_i hi;rw[if_pos hi]at e2;exact H.2 i v d e1 e2
  ·cases e1⟩
theorem aj.reverse(H:aj Z σ h l ds):aj Z σ h l.reverse ds.reverse:=
 ⟨by simp[H.1],fun i v d e1 e2=>by
  haveI hi:i<l.length:=by haveI:=(cN e1);simpa using this
  haveI e1:=(List.getElem?_reverse hi)▸e1;haveI e2:=(H.1).symm▸((List.getElem?_reverse (H.1▸hi))▸e2)
  exact H.2 _ v d e1 e2⟩
theorem rN{Z σ:List Addr}{st:St}(R:Rel base Z σ st s.heap)(hv:VR Z σ s.heap v (.lst l))(hs:st[l]? =some (.list vs))
  (hp:vs.all c9=true) (hl:vs.length<64) (hu:A.units+400<cLine)
  {E:Value→Shared→Prop} (hq:∀σ' v' s',Rel base Z σ' (st++[.list (vs.mergeSort cn)]) s'.heap→VR Z σ' s'.heap v' (.lst st.length)→Ext [] σ s σ' s'→Q v' s'):
  wpAny (model prog w) A (PySem.call (.builtin "sorted") [v]) Q E s:=by
 refine R.cw hv hs fun ax l k z7 Vi g hA hz=>?_;subst z7;have t9:=List.all_eq_true.mp hp;have hlen:=hA.1
 have gV:∀i,i<l.length→∃v d,l.getD i Value.none=v∧vs.getD i V.none=d∧VR Z σ s.heap v d∧c9 d=true:=fun i hi=>by
  haveI h1:l[i]? =some l[i]:=by simp[hi]
  haveI fE:i<vs.length:=hlen▸hi;haveI h2:vs[i]? =some vs[i]:=by simp[fE]
  exact⟨_,_,by simp[hi],by simp[fE],hA.2 i _ _ h1 h2,t9 _ (List.getElem_mem fE)⟩
 refine ua (le:=fun i j=>pQ (pk (vs.getD i .none)) (pk (vs.getD j .none))) (fun _ _=>vC _ _) (fun _ _ _=>zX _ _ _) (aL g) (aC 0x21221881001010002118811011 rt hl hlen) (fun h2 B h' keep=>?_) fun p c h' h1 h2 h3 keep=>?_
 ·haveI rJ:aj Z σ h' l vs:=hA.imp fun v d h=>h.of_keep keep
  refine zr (vD rJ t9) fun fs f1 f2 f3=>?_;refine kat_kind (T:=Value.type "int") f1 (aC 0x2212000110100021102101 rt h2 f2) (fun v hv=>?_) rfl ⟨rfl,fun i j C hi hj hC=>?_⟩
  ·refine Hq (f3 v hv) fun i t eq2=>?_;obtain rfl:=eq2
   exact Looks.of_pure rfl
  ·refine gP fun GP kP=>?_
   refine tW (gV i hi) fun v1 d1 e1 Lf H1 p1=>?_;refine tW (gV j hj) fun v2 d2 e2 Lg H2 p2=>?_;refine kP ?_;unfold kas_ask;refine e1.symm▸?_;refine e2.symm▸?_;rw[Lf,Lg]at hC;refine jR (H1.of_keep keep) p1 fun a1 o1 n1 t1 u1 uf T8 _ T7=>?_;subst uf;refine jR (H2.of_keep keep) p2 fun a2 o2 n2 t2 u2 pR Lh _ hd2=>?_;subst pR;exact zZ (s:={s with heap:=h'}) T8 T7 Lh hd2 hC
 ·haveI he:p.toList.map (fun i=>vs.getD i .none)=vs.mergeSort cn:=n5 hp ((hlen▸h1)) ((hlen▸h2))
  have hm:(vs.mergeSort cn).length=vs.length:=List.length_mergeSort _;refine hq (σ++[s.heap.objs.size+1]) _ _ (R.vE keep (Heap.get?_none_of_le (Nat.le_succ _)) h3 ?_ (aO 0x2122100000200021102001 rt hz hm)) R.addRef (.kJ keep (Heap.get?_none_of_le (Nat.le_succ _)));simp only[←he];refine⟨by simp,fun i v d e1 e2=>?_⟩;rw[List.getElem?_map,Option.map_eq_some_iff]at e1 e2;refine b9 e1 fun j j1 eq2=>?_;try clear e1;obtain rfl:=eq2
  refine b9 e2 fun j' j2 eq2=>?_;try clear e2;obtain rfl:=eq2
  replace j2:=j1▸j2;cases j2;haveI hi:i<p.toList.length:=(cN j1);haveI i5:=h1.size;simp only[Array.length_toList]at hi
  haveI hj:j<l.length:=by
   haveI:=h1.lt (k:=i) (aO 0x2122100010102021200011 rt hi i5)
   haveI e:p.getD i 0=j:=by
    haveI j1':p[i]? =some j:=by simpa using j1
    simp[j1']
   exact aO 0x2212100010002021102011 rt this e
  refine tW (gV j hj) fun v d e1 e2 H _=>?_;simp only[e1,e2];exact H.of_keep keep
theorem ints_of{Z σ:List Addr}{h:Heap}:∀{l:List Value} {vs:List V} {ns:List Int},aj Z σ h l vs→intsOf vs=some ns→l.length=ns.length∧∀(i:Nat) v k,l[i]? =some v→ns[i]? =some k→∃t,v=.int k t
 |l,[],ns,H,e=>by refine vu (a:=[]) e ?_;exact((H.da).symm▸(⟨rfl,fun i v k e=>by injection e⟩))
 |l,d::ds,ns,H,e=>by
  refine H.aW fun v l' eq2 hx hr=>?_;obtain rfl:=eq2;cases d with
  |int i=>
   refine mO e fun ms h1 eq2=>?_;clear e;obtain rfl:=eq2
   (refine bx hx fun _ Ee=>?_;subst Ee)
   haveI h2:=(ints_of hr h1).1;haveI h3:=(ints_of hr h1).2;refine⟨by simp[h2],fun j v k e1 e2=>?_⟩;cases j with
   |zero=>simp at e1 e2;subst e1 e2;exact⟨_,rfl⟩
   |succ j=>simp at e1 e2;exact h3 j v k e1 e2
  |_=>injection e
theorem jS:∀(a:Int) (r:List Int),fA a r∈a::r∧∀b∈a::r,b≤fA a r
 |a,[]=>⟨.head _,fY (Int.le_refl a)⟩
 |a,b::r=>by
  haveI e:fA a (b::r)=fA (if a<b then b else a) r:=rfl;refine e.symm▸?_;rcases Classical.em (a<b)with nK|nK
  ·rw[if_pos nK]
   have ih:=jS b r;refine⟨List.mem_cons_of_mem _ ih.1,fun c hc=>?_⟩;have h1:=ih.2 b (List.mem_cons_self ..);rcases List.mem_cons.mp hc with rfl|hc
   ·exact cg 0x222100030200041102031 rt h1 nK
   ·exact ih.2 c hc
  ·rw[if_neg nK]
   have ih:=jS a r;have h1:=ih.2 a (List.mem_cons_self ..);refine⟨?_,fun c hc=>?_⟩
   ·rcases List.mem_cons.mp ih.1 with h|h
    ·simp only[h];exact List.mem_cons_self ..
    ·exact List.mem_cons_of_mem _ (List.mem_cons_of_mem _ h)
   ·rcases List.mem_cons.mp hc with rfl|hc
    ·exact h1
    ·rcases List.mem_cons.mp hc with rfl|hc
     ·exact cg 0x2221000300020481102031 rt h1 nK
     ·exact ih.2 c (List.mem_cons_of_mem _ hc)
theorem jT:∀(a:Int) (r:List Int),fD a r∈a::r∧∀b∈a::r,fD a r≤b
 |a,[]=>⟨.head _,fY (Int.le_refl a)⟩
 |a,b::r=>by
  haveI e:fD a (b::r)=fD (if b<a then b else a) r:=rfl;refine e.symm▸?_;rcases Classical.em (b<a)with nK|nK
  ·rw[if_pos nK]
   have ih:=jT b r;refine⟨List.mem_cons_of_mem _ ih.1,fun c hc=>?_⟩;have h1:=ih.2 b (List.mem_cons_self ..);rcases List.mem_cons.mp hc with rfl|hc
   ·exact cg 0x222100030102041200031 rt h1 nK
   ·exact ih.2 c hc
  ·rw[if_neg nK]
   have ih:=jT a r;have h1:=ih.2 a (List.mem_cons_self ..);refine⟨?_,fun c hc=>?_⟩
   ·rcases List.mem_cons.mp ih.1 with h|h
    ·simp only[h];exact List.mem_cons_self ..
    ·exact List.mem_cons_of_mem _ (List.mem_cons_of_mem _ h)
   ·rcases List.mem_cons.mp hc with rfl|hc
    ·exact h1
    ·rcases List.mem_cons.mp hc with rfl|hc
     ·exact cg 0x2221000302010481200031 rt h1 nK
     ·exact ih.2 c (List.mem_cons_of_mem _ hc)
theorem argBest_lt(bt:Nat→Nat→Bool):∀k,argBest bt k≤k
 |0=>Nat.le_refl _
 |k+1=>by
  dsimp only[argBest]
  split
  ·exact Nat.le_refl _
  ·exact Nat.le_succ_of_le (argBest_lt bt k)
theorem j7(f:Nat→Int):∀k j,j≤k→f j≤f (argBest (fun i j=>decide (f i>f j)) k)
 |0,j,h=>by
  obtain rfl:j=0:=aJ 0x22021010020010001 rt h;exact Int.le_refl _
 |k+1,j,h=>by
  haveI ih:=j7 f k;dsimp only[argBest]
  split
  ·rename_i hb
   by_cases hj:j=k+1
   ·subst hj;exact Int.le_refl _
   ·haveI:=ih j (aC 0x2202211000001110200281111020001 rt h hj);exact Int.le_trans this (Int.le_of_lt (of_decide_eq_true hb))
  ·rename_i hb
   by_cases hj:j=k+1
   ·subst hj;exact Int.not_lt.mp fun q=>hb (decide_eq_true q)
   ·exact ih j (aC 0x2202211000001110200281111020001 rt h hj)
theorem j8(f:Nat→Int):∀k j,j≤k→f (argBest (fun i j=>decide (f i<f j)) k)≤f j
 |0,j,h=>by
  obtain rfl:j=0:=aJ 0x22021010020010001 rt h;exact Int.le_refl _
 |k+1,j,h=>by
  haveI ih:=j8 f k;dsimp only[argBest]
  split
  ·rename_i hb
   by_cases hj:j=k+1
   ·subst hj;exact Int.le_refl _
   ·haveI:=ih j (aC 0x2202211000001110200281111020001 rt h hj);exact Int.le_trans (Int.le_of_lt (of_decide_eq_true hb)) this
  ·rename_i hb
   haveI hb:¬_:=fun q=>hb (decide_eq_true q)
   by_cases hj:j=k+1
   ·subst hj;exact Int.not_lt.mp fun q=>hb q
   ·exact ih j (aC 0x2202211000001110200281111020001 rt h hj)
theorem j9{st:St}(hA:A.handled=none)(R:Rel base Z σ st s.heap)(hv:VR Z σ s.heap v (.lst l))(hs:st[l]? =some (.list vs))
  (hi:intsOf vs=some (a::r)) {E:Value→Shared→Prop}:
  ((∀t h' tk,(∀b o,s.heap.get? b=some o→h'.get? b=some o)→Q (.int (fA a r) t) {s with heap:=h',toks:=tk})→wpAny (model prog w) A (PySem.call (.builtin "max") [v]) Q E s)∧
  ((∀t h' tk,(∀b o,s.heap.get? b=some o→h'.get? b=some o)→Q (.int (fD a r) t) {s with heap:=h',toks:=tk})→wpAny (model prog w) A (PySem.call (.builtin "min") [v]) Q E s):=by
 refine R.cw hv hs fun ax items k Vq _ g H _=>?_;subst Vq;obtain⟨h1,h2⟩:=ints_of H hi;haveI hl:=aL g
 let f:Nat→Int:=fun i=>(a::r).getD i 0
 have fget:∀j (hj:j<(a::r).length),f j=(a::r)[j]:=fun j hj=>by
  show(a::r).getD j 0=_;simp only[List.getD_eq_getElem?_getD,List.getElem?_eq_getElem hj];rfl
 have hf:∀(i:Nat) v,(List.toArray items)[i]? =some v→∃t,v=.int (f i) t:=fun i v e=>by
  have e':items[i]? =some v:=by simpa using e
  have hi:i<(a::r).length:=h1▸(cN e');obtain⟨t,e⟩:=h2 i v ((a::r)[i]) e' (by simp[hi]);exact⟨t,by simp only[e,fget i hi]⟩
 have jK:0<(List.toArray items).size:=by simp[h1]
 haveI i5:(List.toArray items).size=(a::r).length:=by trivial
 haveI fin:∀j,j<(a::r).length→f j∈a::r:=fun j hj=>by simp only[fget j hj];exact List.getElem_mem hj
 haveI fin2:∀b∈a::r,∃j,j<(a::r).length∧f j=b:=fun b hb=>by
  obtain⟨j,hj,e⟩:=List.mem_iff_getElem.mp hb;exact⟨j,hj,by simp only[fget j hj,e]⟩
 have M5:s.heap.objs.size≠ax:=fun e=>by rw[←e]at g;rw[bo]at g;(exact bX g)
 have fV:(s.heap.push {cls:=.type "list_iterator",data:=.fields #[.ref ax,.int 0 0]}).IsListIter s.heap.objs.size ax 0∧(s.heap.push {cls:=.type "list_iterator",data:=.fields #[.ref ax,.int 0 0]}).IsList ax (List.toArray items):=
  ⟨⟨_,Heap.get?_push_size _ rfl,rfl,rfl⟩,_,Heap.get?_push_of_some _ g,rfl,k,rfl⟩
 constructor
 ·intro hq
  refine call_max_walk (wpAny_pyIter_list hl ⟨s.heap.objs.size,[s.heap.objs.size,ax],[s.heap.objs.size],_,_,_,fun i j=>decide (f i>f j),rfl,Walks.list (A:=A.in1) hA _ ax (Ne.symm M5) (List.toArray items),
   fV,fun b hb=>?_,jK,?_,fun v h' tk e hk=>?_⟩)
  ·rw[Heap.size_push]
   simp at hb;rcases hb with rfl|rfl
   ·exact Nat.lt_succ_self _
   ·exact Nat.lt_succ_of_lt (Heap.lt_size g)
  ·intro i j vi vj s' Q' E' hi hj MD
   obtain⟨ti,rfl⟩:=hf _ _ hi;obtain⟨tj,rfl⟩:=hf _ _ hj;exact(show wpAny (model prog w) _ (compareOp .Gt _ _) _ _ _ from PyProof.Rows.gt_int MD)
  ·obtain⟨t,rfl⟩:=hf _ _ e
   have:f (argBest (fun i j=>decide (f i>f j)) ((List.toArray items).size - 1))=fA a r:=by
    have b1:=argBest_lt (fun i j=>decide (f i>f j)) ((List.toArray items).size - 1);obtain⟨m1,m2⟩:=jS a r;apply Int.le_antisymm
    ·exact m2 _ (fin _ (bS 0x21212121021112100010201130222011060130211201671300001102021200111 rt jK i5 b1 (bE _ _)))
    ·refine b9 (fin2 _ m1) fun j hj e=>?_
     exact(e▸(j7 f _ j (bS 0x221122102112221100000201110222011060110211201671300011302021 rt i5 hj (bE _ _))))
   rw[this]
   exact hq t h' tk fun b o e=>hk b o (fun hm=>by
    simp at hm;subst hm;rw[bo]at e;(exact bX e)) (Heap.get?_push_of_some _ e)
 ·intro hq
  refine call_min_walk (wpAny_pyIter_list hl ⟨s.heap.objs.size,[s.heap.objs.size,ax],[s.heap.objs.size],_,_,_,fun i j=>decide (f i<f j),rfl,Walks.list (A:=A.in1) hA _ ax (Ne.symm M5) (List.toArray items),
   fV,fun b hb=>?_,jK,?_,fun v h' tk e hk=>?_⟩)
  ·rw[Heap.size_push]
   simp at hb;rcases hb with rfl|rfl
   ·exact Nat.lt_succ_self _
   ·exact Nat.lt_succ_of_lt (Heap.lt_size g)
  ·intro i j vi vj s' Q' E' hi hj MD
   obtain⟨ti,rfl⟩:=hf _ _ hi;obtain⟨tj,rfl⟩:=hf _ _ hj;exact(show wpAny (model prog w) _ (compareOp .Lt _ _) _ _ _ from PyProof.Rows.lt_int (by simpa using MD))
  ·obtain⟨t,rfl⟩:=hf _ _ e
   have:f (argBest (fun i j=>decide (f i<f j)) ((List.toArray items).size - 1))=fD a r:=by
    have b1:=argBest_lt (fun i j=>decide (f i<f j)) ((List.toArray items).size - 1);obtain⟨m1,m2⟩:=jT a r;apply Int.le_antisymm
    ·refine b9 (fin2 _ m1) fun j hj e=>?_
     exact(e▸(j8 f _ j (bS 0x221122102112221100000201110222011060110211201671300011302021 rt i5 hj (bE _ _))))
    ·exact m2 _ (fin _ (bS 0x21212121021112100010201130222011060130211201671300001102021200111 rt jK i5 b1 (bE _ _)))
   rw[this]
   exact hq t h' tk fun b o e=>hk b o (fun hm=>by
    simp at hm;subst hm;rw[bo]at e;(exact bX e)) (Heap.get?_push_of_some _ e)
@[elab_as_elim] theorem aj.one {Z σ:List Addr}{h:Heap}{l:List Value}{d:V}{M:List Value→Prop}(X:aj Z σ h l [d])(k:∀v,VR Z σ h v d→M [v]):M l:=
 X.aW fun v l' e x r=>by rw[e,r.da];exact k v x
@[elab_as_elim] theorem aj.two {Z σ:List Addr}{h:Heap}{l:List Value}{d e:V}{M:List Value→Prop}(X:aj Z σ h l [d,e])(k:∀v w,VR Z σ h v d→VR Z σ h w e→M [v,w]):M l:=
 X.aW fun v l' q x r=>by rw[q];exact r.one (M:=fun l'=>M (v::l')) fun w y=>k v w x y
@[elab_as_elim] theorem aj.three {Z σ:List Addr}{h:Heap}{l:List Value}{d e f:V}{M:List Value→Prop}(X:aj Z σ h l [d,e,f])(k:∀v w u,VR Z σ h v d→VR Z σ h w e→VR Z σ h u f→M [v,w,u]):M l:=
 X.aW fun v l' q x r=>by rw[q];exact r.two (M:=fun l'=>M (v::l')) fun w u y z=>k v w u x y z
theorem Ef{A:Around}{n:Nat}(ok:Ok A n){Z σ:List Addr}{s:Shared}{st af:St}(R:Rel base Z σ st s.heap){args:List Value}{vs:List V}(hv:aj Z σ s.heap args vs){b:Bi}{d:V}{bv:Value}(hb:jc (.bi b)=some bv)
  (h:nX b vs st=some ([d],af)) {Q:Value→Shared→Prop} {E:Value→Shared→Prop}
  (hq:∀σ' v' s',Rel base Z σ' af s'.heap→VR Z σ' s'.heap v' d→Ext [] σ s σ' s'→Q v' s'):wpAny (model prog w) A (PySem.call bv args []) Q E s:=by
 haveI i5:ah=100000:=rfl;haveI nO:=bJ;revert hv hq;cases b with
 |len=>
  cases hb;refine DK h ?_;intro x h hv;refine hv.one ?_;intro v;refine MH h ?_ ?_
  ·intro ws h hx;refine nN h ?_;intro hq
   refine hx.cC fun a l eq2 ht hA hl=>?_;subst eq2;refine PyProof.Rows.len_tuple ht (by refine(List.size_toArray).symm▸?_;refine(hA.1).symm▸?_;lia) ?_;exact((List.size_toArray).symm▸((hA.1).symm▸(hq σ _ _ (R.dc rfl) (.int _ _) .toks)))
  ·intro l ws h1 h hx;refine nN h ?_;intro hq
   refine R.cw hx h1 fun a l k Vr _ g hA hl=>?_;subst Vr;refine call_len_list (aL g) (by simp only[List.size_toArray,hA.1];lia) ?_;simp only[List.size_toArray,hA.1];exact hq σ _ _ (R.dc rfl) (.int _ _) .toks
 |int=>
  cases hb;refine DK h ?_;intro x h hv;refine hv.one ?_;intro v hx;cases x with
  |int i=>
   refine nN h ?_;intro hq;refine bx hx fun _ Vs=>?_;subst Vs;exact call_int_int (hq σ _ _ R (.int _ _) (.refl _ _ _))
  |bool c=>
   refine nN h ?_;intro hq;haveI M6:=MU hx;subst M6;exact call_int_bool (hq σ _ _ (R.dc rfl) (.int _ _) .toks)
  |_=>exact bX h
 |ja=>
  cases hb;refine MG h ?_ ?_
  ·intro x h hv
   refine hv.one ?_;intro v;refine lE h ?_;intro l ws h1 h hx;refine YK h fun a r h2 h=>nN h fun hq=>?_;exact(j9 ok.1 R hx h1 h2).1 fun t h' tk k=>hq σ _ _ (R.of_keep k) (.int _ _) (.of_keep k)
  ·intro x y h hv
   refine hv.two ?_;intro v w;refine iE h ?_;intro a h;refine iE h ?_;intro c h hx xJ;refine nN h ?_;intro hq;refine bx hx fun _ e1=>bx xJ fun _ e2=>?_;subst e1;subst e2;refine max_two_ints ok.1 fun h' tk k=>?_;haveI:=R.of_keep k
   split
   ·rename_i fh;rw[if_pos (by exact dr 0x22100040100041 rt fh)]at hq;exact hq σ _ _ this (.int _ _) (.of_keep k)
   ·rename_i fh;rw[if_neg (by exact dr 0x2210004801000481 rt fh)]at hq;exact hq σ _ _ this (.int _ _) (.of_keep k)
 |gj=>
  cases hb;refine MG h ?_ ?_
  ·intro x h hv
   refine hv.one ?_;intro v;refine lE h ?_;intro l ws h1 h hx;refine YK h fun a r h2 h=>nN h fun hq=>?_;exact(j9 ok.1 R hx h1 h2).2 fun t h' tk k=>hq σ _ _ (R.of_keep k) (.int _ _) (.of_keep k)
  ·intro x y h hv
   refine hv.two ?_;intro v w;refine iE h ?_;intro a h;refine iE h ?_;intro c h hx xJ;refine nN h ?_;intro hq;refine bx hx fun _ e1=>bx xJ fun _ e2=>?_;subst e1;subst e2;refine min_two_ints ok.1 fun h' tk k=>?_;haveI:=R.of_keep k
   split
   ·rename_i fh;rw[if_pos (by exact dr 0x22100040100041 rt fh)]at hq;exact hq σ _ _ this (.int _ _) (.of_keep k)
   ·rename_i fh;rw[if_neg (by exact dr 0x2210004801000481 rt fh)]at hq;exact hq σ _ _ this (.int _ _) (.of_keep k)
 |tuple=>
  cases hb;refine DK h ?_;intro x h hv;refine hv.one ?_;intro v;refine MH h ?_ ?_
  ·intro ws h hx;refine nN h ?_;intro hq
   haveI M7:=hx;refine hx.cC fun a l eq2 ht hA hl=>?_;subst eq2;haveI hT:s.heap.IsTuple a (List.toArray l):=let ⟨o,ho,hc,m,hd⟩:=ht;⟨o,ho,hc,m,hd⟩
   exact call_tuple_same hT (hq σ _ _ R M7 (.refl _ _ _))
  ·intro l ws h1 h hx;refine nN h ?_;intro hq
   refine R.cw hx h1 fun a l m Vt _ g hA hl=>?_;subst Vt;refine call_tuple_list (aL g) (fun h' k=>?_) (by rw[List.size_toArray,hA.1];lia);haveI R':Rel base Z σ st ({s with heap:=h'}:Shared).heap:=R.of_keep k;refine hq σ _ _ (R'.push _) (pN (s:={s with heap:=h'}) R' (hA.imp fun v d h=>VR.of_keep k h) hl) (.of_keep fun b o e=>Heap.get?_push_of_some _ (k b o e))
 |list=>
  cases hb;refine DK h ?_;intro x h hv;refine hv.one ?_;intro v;refine lE h ?_;intro l ws h1 h hx;refine nN h ?_;intro hq;refine R.cw hx h1 fun a l m Vu _ g hA hl=>?_;subst Vu;refine call_list_seq a (T:="list") (.inl rfl) g rfl rfl (fun h' c' k g'=>?_) (by rw[List.size_toArray,hA.1];lia);exact hq _ _ _ (R.vE k (bo _) g' (hA.imp fun v d h=>VR.of_keep k h) hl) R.addRef (.kJ k (bo _))
 |sorted=>
  cases hb;refine DK h ?_;intro x h hv;refine hv.one ?_;intro v;refine lE h ?_;intro l ws h1 h hx;refine dk h fun hp h=>nN h fun hq=>?_;exact rN R hx h1 hp.1 hp.2 ok.units hq
end
section
open PySem
noncomputable def pS{α:Type}(fNm:Str→Pos→α)(fAt:Expr→Str→Pos→α)(fTp:List Expr→Nat→Pos→α)(fCl:Expr→List Expr→List Keyword→Pos→α)(fCo:Const→Nat→Pos→α)(fSl:Option Expr→Option Expr→Option Expr→Pos→α)(fUn:PySem.UnaryOp→Expr→Pos→α)(fLc:Expr→List Comprehension→Scope→Pos→α)(fSb:Expr→Expr→Pos→α)(d:α)(e:Expr):α:=match e with
 |.Name x p=>fNm x p
 |.Attribute o a p=>fAt o a p
 |.Tuple o a p=>fTp o a p
 |.Call f a k p=>fCl f a k p
 |.Constant o a p=>fCo o a p
 |.Slice f a k p=>fSl f a k p
 |.UnaryOp o a p=>fUn o a p
 |.ListComp f a k p=>fLc f a k p
 |.Subscript o a p=>fSb o a p
 |_=>d
theorem f9{a:α}{p:Prop}(h:(none:Option α)=some a):p:=nomatch h
noncomputable def ky:Expr→Option (Str×Pos):=pS (fun x p=>some (x,p)) (fun _ _ _=>none) (fun _ _ _=>none) (fun _ _ _ _=>none) (fun _ _ _=>none) (fun _ _ _ _=>none) (fun _ _ _=>none) (fun _ _ _ _=>none) (fun _ _ _=>none) none
noncomputable def xK:Expr→Option (Expr×Str×Pos):=pS (fun _ _=>none) (fun o a p=>some (o,a,p)) (fun _ _ _=>none) (fun _ _ _ _=>none) (fun _ _ _=>none) (fun _ _ _ _=>none) (fun _ _ _=>none) (fun _ _ _ _=>none) (fun _ _ _=>none) none
noncomputable def z8:Expr→Option (List Expr×Nat×Pos):=pS (fun _ _=>none) (fun _ _ _=>none) (fun o a p=>some (o,a,p)) (fun _ _ _ _=>none) (fun _ _ _=>none) (fun _ _ _ _=>none) (fun _ _ _=>none) (fun _ _ _ _=>none) (fun _ _ _=>none) none
noncomputable def ug:Expr→Option (Expr×List Expr×List Keyword×Pos):=pS (fun _ _=>none) (fun _ _ _=>none) (fun _ _ _=>none) (fun f a k p=>some (f,a,k,p)) (fun _ _ _=>none) (fun _ _ _ _=>none) (fun _ _ _=>none) (fun _ _ _ _=>none) (fun _ _ _=>none) none
noncomputable def M8:Expr→Option (Const×Nat×Pos):=pS (fun _ _=>none) (fun _ _ _=>none) (fun _ _ _=>none) (fun _ _ _ _=>none) (fun o a p=>some (o,a,p)) (fun _ _ _ _=>none) (fun _ _ _=>none) (fun _ _ _ _=>none) (fun _ _ _=>none) none
noncomputable def M9:Expr→Option (Option Expr×Option Expr×Option Expr×Pos):=pS (fun _ _=>none) (fun _ _ _=>none) (fun _ _ _=>none) (fun _ _ _ _=>none) (fun _ _ _=>none) (fun f a k p=>some (f,a,k,p)) (fun _ _ _=>none) (fun _ _ _ _=>none) (fun _ _ _=>none) none
noncomputable def Ji:Expr→Option (PySem.UnaryOp×Expr×Pos):=pS (fun _ _=>none) (fun _ _ _=>none) (fun _ _ _=>none) (fun _ _ _ _=>none) (fun _ _ _=>none) (fun _ _ _ _=>none) (fun o a p=>some (o,a,p)) (fun _ _ _ _=>none) (fun _ _ _=>none) none
noncomputable def Jj:Expr→Option (Expr×List Comprehension×Scope×Pos):=pS (fun _ _=>none) (fun _ _ _=>none) (fun _ _ _=>none) (fun _ _ _ _=>none) (fun _ _ _=>none) (fun _ _ _ _=>none) (fun _ _ _=>none) (fun f a k p=>some (f,a,k,p)) (fun _ _ _=>none) none
noncomputable def Jk:Expr→Option (Expr×Expr×Pos):=pS (fun _ _=>none) (fun _ _ _=>none) (fun _ _ _=>none) (fun _ _ _ _=>none) (fun _ _ _=>none) (fun _ _ _ _=>none) (fun _ _ _=>none) (fun _ _ _ _=>none) (fun o a p=>some (o,a,p)) none
theorem jg(h:ky e=some y):e=.Name y.1 y.2:=by cases e<;>first|exact f9 h|(obtain rfl:=Option.some.inj h;rfl)
theorem vG(h:xK e=some y):e=.Attribute y.1 y.2.1 y.2.2:=by cases e<;>first|exact f9 h|(obtain rfl:=Option.some.inj h;rfl)
theorem pT(h:z8 e=some y):e=.Tuple y.1 y.2.1 y.2.2:=by cases e<;>first|exact f9 h|(obtain rfl:=Option.some.inj h;rfl)
theorem pU(h:ug e=some y):e=.Call y.1 y.2.1 y.2.2.1 y.2.2.2:=by cases e<;>first|exact f9 h|(obtain rfl:=Option.some.inj h;rfl)
theorem Eg(h:M8 e=some y):e=.Constant y.1 y.2.1 y.2.2:=by cases e<;>first|exact f9 h|(obtain rfl:=Option.some.inj h;rfl)
theorem Eh(h:M9 e=some y):e=.Slice y.1 y.2.1 y.2.2.1 y.2.2.2:=by cases e<;>first|exact f9 h|(obtain rfl:=Option.some.inj h;rfl)
theorem Ei(h:Ji e=some y):e=.UnaryOp y.1 y.2.1 y.2.2:=by cases e<;>first|exact f9 h|(obtain rfl:=Option.some.inj h;rfl)
theorem Ej(h:Jj e=some y):e=.ListComp y.1 y.2.1 y.2.2.1 y.2.2.2:=by cases e<;>first|exact f9 h|(obtain rfl:=Option.some.inj h;rfl)
theorem Ek(h:Jk e=some y):e=.Subscript y.1 y.2.1 y.2.2:=by cases e<;>first|exact f9 h|(obtain rfl:=Option.some.inj h;rfl)
end
section
open PyProof.Rows PySem PySem.Calls PySem.W
noncomputable def notStar(e:Expr):Bool:= !(e.ctorIdx==22)
theorem dv{e:Expr}(h:notStar e=true)(rest:List Expr)(env:Env):starEach (e::rest) env=(false,eval e env)::starEach rest env:=by
 cases e<;>first|rfl|cases h
theorem dw{pos:Pos}{env:Env}:∀{es:List Expr},es.all notStar=true→(backTo pos (starEach es env)).any (·.1)=false
 |[],_=>rfl
 |e::r,h=>by
  simp only[List.all_cons,Bool.and_eq_true]at h;rw[dv h.1];refine(dw h.2).symm▸?_;rfl
theorem rO{pos:Pos}{env:Env}:∀{es:List Expr},es.all notStar=true→(backTo pos (starEach es env)).all (fun x=> !x.1)=true
 |[],_=>rfl
 |e::r,h=>by
  simp only[List.all_cons,Bool.and_eq_true]at h;rw[dv h.1];refine(rO h.2).symm▸?_;rfl
theorem hG{E:Value→Shared→Prop}(h:Q () s):wpAny M A (release vs keep) Q E s:=fun Γ p _=>by
 simp only[Sem.wp_release];exact h
theorem ot{E:Value→Shared→Prop}(h:wpAny M A m Q E s):wpAny M A (operate vs m) Q E s:=fun Γ p YH=>by
 simp only[Sem.wp_operate];exact h Γ p YH
noncomputable def ou(o:Expr):Bool:=(ug o).any fun c=>(ky c.1).isSome&&(c.2.1.isEmpty&&c.2.2.1.isEmpty)
theorem ka(h:ou o=false) attr env whole:attributeBase o attr env whole=whole:=by
 cases o<;>try rfl
 rename_i f args ks p;cases f<;>try rfl
 cases args<;>try rfl
 cases ks<;>first|rfl|exact Bool.noConfusion h
end
section
open PyProof.Rows PySem PySem.Calls PySem.W
variable{prog:Program}{w:World}{K:Frag}{base:Heap}{P:Pg}{call:bj}{n:Nat}{sc:List (Str×NameKind)}
theorem z9:ej prog w base P call n sc [] .nil:=fun {env A Z σ s loc st vs af pos Q E} ok eo R F h hQ=>by
 simp[V04]at h;obtain⟨rfl,rfl⟩:=h;exact PySem.wpAny_items_nil (hQ σ _ s R .nil (.refl _ _ _))
theorem xM(hs:notStar e=true)(H:av prog w base P call n sc e e')(T:ej prog w base P call n sc es kb):ej prog w base P call n sc (e::es) (.cons e' kb):=
 fun {env A Z σ s loc st vs af pos Q E} ok eo R F h hQ=>by
 refine bP h fun v st1 h1 h=>mP h fun z' ak h2 e=>?_;dsimp only at e;cases e;refine PySem.wpAny_items_cons (H ok eo R F h1 fun σ1 v1 s1 R1 V1 X1=>?_) (dv hs es env);refine T ok eo R1 (F.ext R X1) h2 fun σ2 Vv s2 R2 V2 X2=>?_;exact hQ σ2 _ s2 R2 (.cons (VR.ext R1 X2 jM V1) V2) (X1.trans X2)
theorem El{es:List Expr}{kb:E}{k:Nat}{pos:Pos}(H:ej prog w base P call n sc es kb):av prog w base P call n sc (.Tuple es k pos) (.tup kb):=
 fun {env A Z σ s loc st v af Q E} ok eo R F h hQ=>by
 replace h:=aE h;refine bP h fun vs st1 h1 h2=>?_;dsimp only at h2
 split at h2
 ·rename_i hl
  (haveI xB:=(DL h2).1;haveI Ee:=(DL h2).2;subst xB;subst Ee)
  refine Tuple_ (H ok eo R F h1 fun σ1 z' s1 R1 V1 X1=>?_);refine wpAny_newTuple ?_ (((V1.1).symm▸(Nat.le_trans hl bJ)));exact hQ σ1 _ {s1 with heap:=s1.heap.push {cls:=.type "tuple",data:=.seq z'.toArray}} (R1.push _) (pN R1 V1 hl) (X1.trans (.push _))
 ·(exact bX h2)
theorem Em{es:List Expr}{kb:E}{pos:Pos}(H:ej prog w base P call n sc es kb):av prog w base P call n sc (.List es pos) (.lst kb):=
 fun {env A Z σ s loc st v af Q E} ok eo R F h hQ=>by
 replace h:=aE h;refine bP h fun vs st1 h1 h2=>?_;dsimp only at h2
 split at h2
 ·rename_i hl
  (haveI pR:=(DL h2).1;haveI pO:=(DL h2).2;subst pR;subst pO)
  refine List_ (H ok eo R F h1 fun σ1 z' s1 R1 V1 X1=>?_);refine wpAny_newList ?_ (((V1.1).symm▸(Nat.le_trans hl bJ)));exact hQ _ _ {s1 with heap:=s1.heap.push (listOf (List.toArray z') 0)} (R1.newList V1 hl) (cT R1) (X1.trans (.cJ _))
 ·(exact bX h2)
theorem En{l r:Expr}{l' r':E}{op:Operator}{pos:Pos}(HL:av prog w base P call n sc l l')(HR:av prog w base P call n sc r r'):av prog w base P call n sc (.BinOp l op r pos) (.bin op l' r'):=
 fun {env A Z σ s loc st v af Q E} ok eo R F h hQ=>by
 replace h:=aE h;refine bP h fun x st1 h1 h=>bP h fun y ak h2 h3=>?_;refine wpAny_BinOp (HL ok eo R F h1 fun σ1 v1 s1 R1 V1 X1=>HR ok eo R1 (F.ext R X1) h2 fun σ2 v2 s2 R2 V2 X2=>?_);exact zV R2 (VR.ext R1 X2 jM V1) V2 h3 fun σ3 v3 s3 R3 V3 X3=>hQ σ3 v3 s3 R3 V3 ((X1.trans X2).trans X3)
theorem Eo(H:av prog w base P call n sc a a'):av prog w base P call n sc (.UnaryOp .USub a pos) (.neg a'):=
 fun {env A Z σ s loc st v af Q E} ok eo R F h hQ=>by
 replace h:=aE h;refine bP h fun x st1 h1 h2=>?_;dsimp only at h2;revert hQ h1;refine U3 h2 ?_;intro i hQ h1
 ·refine wpAny_UnaryOp (H ok eo R F h1 fun σ1 v1 s1 R1 V1 X1=>?_)
  (refine bx V1 fun _ Vw=>?_;subst Vw)
  exact PyProof.Rows.neg_int (hQ σ1 _ _ (R1.dc rfl) (.int _ _) (X1.trans .toks))
theorem Ep(H:av prog w base P call n sc a a'):av prog w base P call n sc (.UnaryOp .Not a pos) (.not a'):=
 fun {env A Z σ s loc st v af Q E} ok eo R F h hQ=>by
 replace h:=aE h;refine mP h fun c st1 h1 e=>?_;clear h;cases e;refine wpAny_UnaryOp (H ok eo R F (bN h1) fun σ1 v1 s1 R1 V1 X1=>?_)
 (obtain rfl:=MU V1)
 exact not_of (wpAny_truthy_bool (hQ σ1 _ _ R1 (.bool _) X1))
theorem Aa(H:cu prog w base P call n sc a a'):cu prog w base P call n sc (.UnaryOp .Not a pos) (.not a'):=
 fun {env A Z σ s loc st b af Q E} ok eo R F h hQ=>by
 replace h:=aE (bN h);refine mP h fun c st1 h1 e=>?_;clear h;cases e;exact isTrue_not (H ok eo R F h1 fun σ1 s1 R1 X1=>hQ σ1 s1 R1 X1)
theorem rP{st:St}{op:CmpOp}{x y c:V}(h:cm st op x y=some c):∃b,c=.bool b:=by
 have mp:∀{o:Option Bool} {f:Bool→Bool},o.map (fun b=>V.bool (f b))=some c→∃b,c=.bool b:=fun e=>by
  obtain⟨b,_,rfl⟩:=Option.map_eq_some_iff.mp e;exact⟨_,rfl⟩
 have so:∀{b:Bool},some (V.bool b)=some c→∃b,c=.bool b:=fun e=>⟨_,(Option.some.inj e).symm⟩;cases op
 case Eq=>exact mp (f:=id) h
 case NotEq=>exact mp h
 case In=>exact bX h
 case NotIn=>
  cases x<;>try exact bX h
  cases y<;>try exact bX h
  rename_i a vs
  by_cases q:(vs.all fun|.str _=>true|_=>false)=true
  ·exact so ((if_pos q).symm.trans h)
  ·exact bX ((if_neg q).symm.trans h)
 case Is=>cases y<;>first|exact bX h|(cases x<;>exact so h)
 case IsNot=>cases y<;>first|exact bX h|(cases x<;>exact so h)
 all_goals cases x<;>try exact bX h
 all_goals cases y<;>first|exact bX h|exact so h
theorem Er(hm:behindInMarks op r=false)(HL:av prog w base P call n sc l l')(HR:av prog w base P call n sc r r'):
  av prog w base P call n sc (.Compare l [op] [r] pos) (.cmp op l' r'):=
 fun {env A Z σ s loc st v af Q E} ok eo R F h hQ=>by
 replace h:=aE h;refine bP h fun x st1 h1 h=>bP h fun y ak h2 h=>mO h fun c h3 e=>?_;clear h;cases e;refine wpAny_Compare1 (HL ok eo R F h1 fun σ1 v1 s1 R1 V1 X1=>HR ok eo R1 (F.ext R X1) h2 fun σ2 v2 s2 R2 V2 X2=>?_) hm;refine fc (by haveI:=ok.units;exact aC 0x2210188100210106a8100211 rt this) R2 (VR.ext R1 X2 jM V1) V2 h3 fun b e=>?_;subst e;exact hQ σ2 _ s2 R2 (.bool _) (X1.trans X2)
theorem Ab(hm:behindInMarks op r=false)(HL:av prog w base P call n sc l l')(HR:av prog w base P call n sc r r'):
  cu prog w base P call n sc (.Compare l [op] [r] pos) (.cmp op l' r'):=
 fun {env A Z σ s loc st b af Q E} ok eo R F h hQ=>by
 replace h:=aE (bN h);refine bP h fun x st1 h1 h=>bP h fun y ak h2 h=>mO h fun c h3 e=>?_;clear h;cases e;refine wpAny_isTrue_Compare1 (HL ok eo R F h1 fun σ1 v1 s1 R1 V1 X1=>HR ok eo R1 (F.ext R X1) h2 fun σ2 v2 s2 R2 V2 X2=>?_) hm;refine fc (by haveI:=ok.units;exact aC 0x2210188100210106a8100211 rt this) R2 (VR.ext R1 X2 jM V1) V2 h3 fun b' e=>?_;cases e;exact wpAny_truthy_bool (hQ σ2 s2 R2 (X1.trans X2))
theorem xN{l m r:Expr}{l' m' r':E}{o1 o2:CmpOp}{pos:Pos}(hm:lastMarks [o1,o2] [m,r]=false)(HL:av prog w base P call n sc l l')(HM:av prog w base P call n sc m m')(HR:av prog w base P call n sc r r'):
  av prog w base P call n sc (.Compare l [o1,o2] [m,r] pos) (.chain o1 o2 l' m' r'):=
 fun {env A Z σ s loc st v af Q E} ok eo R F h hQ=>by
 replace h:=aE h;refine bP h fun x st1 h1 h=>bP h fun y ak h2 h3=>?_;dsimp only at h3;refine Compare_chain (HL ok eo R F h1 fun σ1 v1 s1 R1 V1 X1=>?_) hm;refine wpAny_bind (wpAny_holding (HM ok eo R1 (F.ext R X1) h2 fun σ2 v2 s2 R2 V2 X2=>wpAny_bind (wpAny_standAt (wpAny_bind (wpAny_holding ?_)))));refine gP fun GP kP=>?_
 obtain⟨c,hc⟩:∃c,cm ak o1 x y=some c:=by
  cases q:cm ak o1 x y with
  |none=>haveI h3:=q▸h3;injection h3
  |some c=>exact⟨c,rfl⟩
 obtain⟨b,rfl⟩:=rP hc;refine kP ?_;refine fc (by haveI:=ok.units;exact aC 0x2210188100210106a8100211 rt this) R2 (VR.ext R1 X2 jM V1) V2 hc fun b' e=>?_;cases e;rw[hc]at h3;refine wpAny_bind (hG (wpAny_bind (wpAny_holding (wpAny_truthy_bool ?_))));cases b with
 |false=>
  dsimp only[Bool.false_eq_true,if_false]at h3⊢
  (haveI Vx:=(DL h3).1;haveI Vy:=(DL h3).2;subst Vx;subst Vy)
  exact wpAny_pure (hQ σ2 _ s2 R2 (.bool _) (X1.trans X2))
 |true=>
  refine gP fun GP pI=>?_;refine bP h3 fun z cO h4 h3=>mO h3 fun c h5 e=>?_;dsimp only at e;cases e;refine pI ?_;refine wpAny_bind (wpAny_holding (HR ok eo R2 (F.ext R (X1.trans X2)) h4 fun σ3 v3 s3 R3 V3 X3=>wpAny_bind (wpAny_standAt (ot ?_))));refine fc (by haveI:=ok.units;exact aC 0x2210188100210106a8100211 rt this) R3 (VR.ext R2 X3 jM V2) V3 h5 fun b' e=>?_;subst e;exact hQ σ3 _ s3 R3 (.bool _) ((X1.trans X2).trans X3)
theorem uh{l m r:Expr}{l' m' r':E}{o1 o2:CmpOp}{pos:Pos}(hm:lastMarks [o1,o2] [m,r]=false)(HL:av prog w base P call n sc l l')(HM:av prog w base P call n sc m m')(HR:av prog w base P call n sc r r'):
  cu prog w base P call n sc (.Compare l [o1,o2] [m,r] pos) (.chain o1 o2 l' m' r'):=
 fun {env A Z σ s loc st v af Q E} ok eo R F h hQ=>by
 replace h:=aE (bN h);refine bP h fun x st1 h1 h=>bP h fun y ak h2 h3=>?_;dsimp only at h3;refine isTrue_chain (HL ok eo R F h1 fun σ1 v1 s1 R1 V1 X1=>?_) hm;refine wpAny_bind (wpAny_holding (HM ok eo R1 (F.ext R X1) h2 fun σ2 v2 s2 R2 V2 X2=>wpAny_bind (wpAny_standAt (wpAny_bind (wpAny_holding ?_)))));refine gP fun GP kP=>?_
 obtain⟨c,hc⟩:∃c,cm ak o1 x y=some c:=by
  cases q:cm ak o1 x y with
  |none=>haveI h3:=q▸h3;injection h3
  |some c=>exact⟨c,rfl⟩
 obtain⟨b,rfl⟩:=rP hc;refine kP ?_;refine fc (by haveI:=ok.units;exact aC 0x2210188100210106a8100211 rt this) R2 (VR.ext R1 X2 jM V1) V2 hc fun b' e=>?_;cases e;rw[hc]at h3;refine wpAny_bind (hG (wpAny_bind (wpAny_holding (wpAny_truthy_bool ?_))));cases b with
 |false=>
  dsimp only[Bool.false_eq_true,if_false]at h3⊢;cases h3;exact wpAny_pure (hQ σ2 s2 R2 (X1.trans X2))
 |true=>
  refine gP fun GP pI=>?_;refine bP h3 fun z cO h4 h3=>mO h3 fun c h5 e=>?_;dsimp only at e;cases e;refine pI ?_;refine wpAny_bind (wpAny_holding (HR ok eo R2 (F.ext R (X1.trans X2)) h4 fun σ3 v3 s3 R3 V3 X3=>wpAny_bind (wpAny_standAt (wpAny_bind (ot ?_)))));refine fc (by haveI:=ok.units;exact aC 0x2210188100210106a8100211 rt this) R3 (VR.ext R2 X3 jM V2) V3 h5 fun b' e=>?_;cases e;exact wpAny_holding (wpAny_truthy_bool (hQ σ3 s3 R3 ((X1.trans X2).trans X3)))
theorem Es{c a b:Expr}{c' a' b':E}{pos:Pos}(HC:cu prog w base P call n sc c c')(HA:av prog w base P call n sc a a')(HB:av prog w base P call n sc b b'):
  av prog w base P call n sc (.IfExp c a b pos) (.ite c' a' b'):=fun {env A Z σ s loc st v af Q E} ok eo R F h hQ=>by
 replace h:=aE h;refine bP h fun t st1 h1 h2=>?_;dsimp only at h2;refine IfExp_ (HC ok eo R F h1 fun σ1 s1 R1 X1=>?_);cases t with
 |true=>simp only[if_true]at h2⊢;exact HA ok eo R1 (F.ext R X1) (by rw[h2];rfl) fun σ2 v2 s2 R2 V2 X2=>hQ σ2 v2 s2 R2 V2 (X1.trans X2)
 |false=>simp only[Bool.false_eq_true,if_false]at h2⊢;exact HB ok eo R1 (F.ext R X1) (by rw[h2];rfl) fun σ2 v2 s2 R2 V2 X2=>hQ σ2 v2 s2 R2 V2 (X1.trans X2)
theorem Ac{c a b:Expr}{c' a' b':E}{pos:Pos}(HC:cu prog w base P call n sc c c')(HA:cu prog w base P call n sc a a')(HB:cu prog w base P call n sc b b'):
  cu prog w base P call n sc (.IfExp c a b pos) (.ite c' a' b'):=fun {env A Z σ s loc st v af Q E} ok eo R F h hQ=>by
 replace h:=aE (bN h);refine bP h fun t st1 h1 h2=>?_;dsimp only at h2;refine isTrue_IfExp (HC ok eo R F h1 fun σ1 s1 R1 X1=>?_);cases t with
 |true=>simp only[if_true]at h2⊢;exact HA ok eo R1 (F.ext R X1) (by rw[h2];rfl) fun σ2 s2 R2 X2=>hQ σ2 s2 R2 (X1.trans X2)
 |false=>simp only[Bool.false_eq_true,if_false]at h2⊢;exact HB ok eo R1 (F.ext R X1) (by rw[h2];rfl) fun σ2 s2 R2 X2=>hQ σ2 s2 R2 (X1.trans X2)
noncomputable def gu(e:Expr):Bool:= !(e.ctorIdx==26)
theorem Et(hi:gu i=true)(HA:av prog w base P call n sc a a')(HI:av prog w base P call n sc i i'):av prog w base P call n sc (.Subscript a i pos) (.sub a' i'):=
 fun {env A Z σ s loc st v af Q E} ok eo R F h hQ=>by
 replace h:=aE h;refine bP h fun x st1 h1 h=>bP h fun y ak h2 h=>mO h fun d h3 e=>?_;clear h;cases e;refine Subscript_ (HA ok eo R F h1 fun σ1 v1 s1 R1 V1 X1=>HI ok eo R1 (F.ext R X1) h2 fun σ2 v2 s2 R2 V2 X2=>?_);refine z0 R2 (VR.ext R1 X2 jM V1) V2 h3 (fun v' V'=>hQ σ2 v' s2 R2 V' (X1.trans X2)) fun a k t=>?_;cases i<;>first|rfl|cases hi
end
section
open PyProof.Rows PySem PySem.Calls PySem.W
theorem ui(hj:j<bw.length)(hk:k<bw.length)(h:atName j=atName k):j=k:=by
 unfold atName at h;simp only[List.getD_eq_getElem?_getD,List.getD_eq_getElem?_getD,List.getElem?_eq_getElem hj,List.getElem?_eq_getElem hk]at h;haveI hp:=List.pairwise_iff_getElem.mp nY;rcases Nat.lt_trichotomy j k with q|q|q
 ·exact absurd h (hp j k hj hk q)
 ·exact q
 ·exact absurd h.symm (hp k j hk hj q)
structure dd(K:Frag)(C:Addr)(c:CI):Prop where
 keep:keepIn K (.ref C)=true
 make:makesIn K C=true
 init:findIn K (.ref C) "__init__"=some (some (.ref c.init))∧isFn K (.ref c.init)=true
 dict:hasDictIn K C=true
 over:plainOver K C=true
 sets:findIn K (.ref C) "__setattr__"=some (some (.builtin "object.__setattr__"))
 attrs:∀k,c.attrs.contains k=true→k<bw.length∧plainGet K C (atName k)=true∧takerIn K C (atName k)=some none∧∃attr,findIn K (.ref C) (atName k)=some attr∧noGet K attr=true
 meths:∀k f,c.meths.lookup k=some f→k<bw.length∧plainGet K C (atName k)=true∧findIn K (.ref C) (atName k)=some (some (.ref f))∧isFn K (.ref f)=true∧keepIn K (.ref f)=true
end
section
open PyProof.Rows PySem PySem.Calls PySem.W
variable{prog:Program}{w:World}{K:Frag}{base:Heap}{P:Pg}{call:bj}{n:Nat}{sc:List (Str×NameKind)}
theorem key_is{f:Nat×V}{k:Nat}(hk:k<bw.length)(H:pM Z σ h e f):e.key.isStr (atName k)=decide (f.1=k):=by
 obtain⟨h1,⟨t,h2⟩,_⟩:=H;refine h2.symm▸?_;show(atName f.1==atName k)=_
 by_cases e:f.1=k
 ·subst e;simp
 ·have:atName f.1≠atName k:=fun q=>e (ui h1 hk q)
  simp[this,e]
theorem eZ.tail{Z σ:List Addr}{h:Heap}{e:DictEntry}{f:Nat×V}{es:List DictEntry}{fs:List (Nat×V)}(H:eZ Z σ h (e::es) (f::fs)):pM Z σ h e f∧eZ Z σ h es fs:=
 ⟨H.2 0 e f rfl rfl,by haveI:=H.1;simpa using this,fun i e f e1 e2=>H.2 (i+1) e f (e1) (e2)⟩
theorem eZ.cons{Z σ:List Addr}{h:Heap}{e:DictEntry}{f:Nat×V}{es:List DictEntry}{fs:List (Nat×V)}(x:pM Z σ h e f)(H:eZ Z σ h es fs):eZ Z σ h (e::es) (f::fs):=
 ⟨by simp[H.1],fun i a b e1 e2=>by
  cases i with
  |zero=>simp at e1 e2;subst e1 e2;exact x
  |succ i=>simp at e1 e2;exact H.2 i a b e1 e2⟩
theorem iN{Z σ:List Addr}{h:Heap}{k:Nat}(hk:k<bw.length):∀{es:List DictEntry} {fs:List (Nat×V)},eZ Z σ h es fs→
  match fs.lookup k with
  |some d=>∃e,es.find? (·.key.isStr (atName k))=some e∧VR Z σ h e.val d
  |none=>es.find? (·.key.isStr (atName k))=none
 |[],[],_=>rfl
 |[],_::_,H=>by haveI:=H.1;injection this
 |_::_,[],H=>by haveI:=H.1;injection this
 |e::es,(j,d)::fs,H=>by
  have h1:=(H.tail).1;haveI h2:=(H.tail).2;haveI xO:=key_is hk h1;dsimp only[List.lookup_cons,List.find?_cons]
  by_cases hj:j=k
  ·subst hj
   simp only[decide_true]at xO;refine xO.symm▸?_;simp only[beq_self_eq_true];exact⟨e,rfl,h1.2.2⟩
  ·haveI hb:(k==j)=false:=by simpa using fun e:k=j=>hj e.symm
   simp only[hj]at xO;exact(xO.symm▸(hb.symm▸(iN hk h2)))
theorem xP(H:eZ Z σ h es fs):es.any (·.refKey)=false:=by
 rw[List.any_eq_false];intro e he;refine gP fun GP kP=>?_;obtain⟨i,hi⟩:=List.mem_iff_getElem?.mp he;have dB:i<fs.length:=H.1▸(cN hi);obtain⟨_,⟨t,hk⟩,_⟩:=H.2 i e fs[i] hi (by simp[dB]);refine kP ?_;simp[DictEntry.refKey,hk]
theorem kc(hk:k<bw.length)(H:eZ Z σ h es fs)(hl:fs.lookup k=some d){GG:Prop}(kk:∀v,getL (atName k) es=some (some v)→VR Z σ h v d→GG):GG:=by
 haveI:=iN hk H;haveI this:=hl▸this;refine b9 this fun e h1 h2=>?_;try clear this
 exact kk e.val (by unfold getL;refine h1.symm▸?_;try rfl) h2
theorem ow(hk:k<bw.length)(H:eZ Z σ h es fs)(hl:fs.lookup k=none):getL (atName k) es=some none:=by
 haveI:=iN hk H;haveI this:=hl▸this;unfold getL;refine(show es.find? (·.key.isStr (atName k))=none from this).symm▸?_;refine(xP H).symm▸?_;rfl
theorem rQ(hk:k<bw.length)(H:eZ Z σ h es fs):(getL (atName k) es).isSome=true:=by
 refine iG (fs.lookup k) (fun hl=>?_) fun d hl=>?_
 ·rw[ow hk H hl];rfl
 ·refine kc hk H hl fun v e _=>?_;rw[e];rfl
theorem VR.handed(H:VR Z σ h v d):handedIn v=true:=by cases H<;>rfl
theorem Rel.pV{Z σ:List Addr}{st:St}{h:Heap}(R:Rel base Z σ st h){v:Value}{C i:Nat}{fs:List (Nat×V)}(H:VR Z σ h v (.obj C i))(hs:st[i]? =some (.inst fs)){GG:Prop}(kk:∀x dx es m,v=.ref x→σ[i]? =some dx→W.InstAt h x (instObj C dx) C (some (dictOf es m))→h.get? dx=some (dictOf es m)→eZ Z σ h es fs→fs.length≤100→GG):GG:=by
 cases H with
 |obj hz e ho=>obtain⟨es,m,g,hF,hl⟩:=R.cell _ _ _ hs e;exact kk _ _ es m rfl e ⟨ho,rfl,rfl,g⟩ g hF hl
theorem Rel.inst{Z σ:List Addr}{st:St}{h:Heap}(R:Rel base Z σ st h){v:Value}{C i:Nat}{fs:List (Nat×V)}(H:VR Z σ h v (.obj C i))(hs:st[i]? =some (.inst fs)):
  ∃x dx es m,v=.ref x∧σ[i]? =some dx∧W.InstAt h x (instObj C dx) C (some (dictOf es m))∧h.get? dx=some (dictOf es m)∧eZ Z σ h es fs∧fs.length≤100:=Rel.pV R H hs fun x1 x2 x3 x4 x5 x6 x7 x8 x9 M'=>⟨x1,x2,x3,x4,x5,x6,x7,x8,x9,M'⟩
theorem xQ{st:St}(g:Gd K base)(R:Rel base Z σ st s.heap)(ck:dd K C c)(hv:VR Z σ s.heap v (.obj C i))(hs:st[i]? =some (.inst fs))
  (hk:c.attrs.contains k=true) (hl:fs.lookup k=some d) {E:Value→Shared→Prop} (hq:∀v',VR Z σ s.heap v' d→Q v' {s with toks:=s.toks+1}):
  wpAny (model prog w) A (getAttr v (atName k) expr) Q E s:=by
 refine R.pV hv hs fun x dx es m M0 _ I g' hF _=>?_;subst M0;refine zq (ck.attrs k hk) fun h1 h2 h3 attr h4 h5=>?_;refine kc h1 hF hl fun v' h6 h7=>?_;exact get_value (g.X.keeps R.keep) I (plainGet_of h2).1 (findObj_own ck.dict h4 h5 h6) h7.handed (hq v' h7)
theorem Ad(g:Gd K base)(hc:∀C c,P.cls.lookup C=some c→dd K C c)(ho:ou o=false)(H:av prog w base P call n sc o o'):
  av prog w base P call n sc (.Attribute o (atName k) pos) (.attr o' k):=fun {env A Z σ s loc st v af Q E} ok eo R F h hQ=>by
 refine gP fun GP kQ=>?_;replace h:=aE h;refine bP h fun x st1 h1 h2=>?_;dsimp only at h2;revert h1;refine ML (x:=x) h2 ?_;intro C i c fs ru fV h2 h1;refine dk h2 fun hk h2=>?_
 ·refine mO h2 fun d hl e=>?_;clear h2
  cases e
  haveI e:eval (.Attribute o (atName k) pos) env=(do
    let Jl ←attributeBase o (atName k) env (eval o env)
    standAt pos.atName
    let r ←holding [Jl] (getAttr Jl (atName k) true)
    letTemporaryGo o Jl r
    pure r):=rfl
  refine kQ ?_;rw[e,ka ho];refine wpAny_bind (H ok eo R F h1 fun σ1 v1 s1 R1 V1 X1=>wpAny_bind (wpAny_standAt (wpAny_bind (wpAny_holding ?_))));exact xQ g R1 (hc C c ru) V1 fV hk hl fun v' V'=>wpAny_bind (wpAny_letTemporaryGo (wpAny_pure (hQ σ1 v' _ (R1.dc rfl) V' (X1.trans .toks))))
theorem iO{A:Around}{Z σ:List Addr}{s:Shared}{st af:St}(R:Rel base Z σ st s.heap){v:Value}{x d:V}(hv:VR Z σ s.heap v x){k:Sl}(h:d7 k x st=some ([d],af)){lo up vH:Value}{value slice:Expr}
  (hp:(k=.dZ∧(∃t,lo=.int 1 t)∧up=.none∧vH=.none)∨(k=.gm∧lo=.none∧(∃t,up=.int 1 t)∧vH=.none)∨(k=.rev∧lo=.none∧up=.none∧∃t,vH=.int (-1) t))
  (hs:∀a b,∃ops,subscripted slice false (.ref a) (.ref b)=operate ops (getItem (.ref a) (.ref b)))
  {Q:Value→Shared→Prop} {E:Value→Shared→Prop} (hq:∀σ' v' s',Rel base Z σ' af s'.heap→VR Z σ' s'.heap v' d→Ext [] σ s σ' s'→Q v' s'):
  wpAny (model prog w) A (subscriptTail value slice v (.ref s.heap.objs.size)) Q E {s with heap:=s.heap.push {cls:=.type "slice",data:=.fields #[lo,up,vH]}}:=by
 haveI nO:=bJ
 let s1:Shared:={s with heap:=s.heap.push {cls:=.type "slice",data:=.fields #[lo,up,vH]}}
 have R1:Rel base Z σ st s1.heap:=R.push _;haveI X1:Ext [] σ s σ s1:=.push _;haveI hS:s1.heap.IsSliceOf s.heap.objs.size lo up vH:=Heap.IsSliceOf.new ..;revert hv hq;refine MH h ?_ ?_
 ·intro vs h hv
  haveI V1:VR Z σ s1.heap v (.tup vs):=VR.push R _ hv;rcases hp with⟨rfl,⟨t,rfl⟩,rfl,rfl⟩|⟨rfl,_⟩|⟨rfl,_⟩
  ·refine tX h fun hl h=>?_
   refine nN h ?_;intro hq;refine V1.cC fun a l eq2 ht hA hz=>?_;subst eq2;obtain⟨ops,ho⟩:=hs a s.heap.objs.size;refine tail_any ht.typeIs slot_tuple_getitem.lookup ?_ ho;refine getItem_tuple_from (a:=1) ht hS (Nat.le_refl _) (by simp only[List.size_toArray,hA.1];exact aJ 0x22020011000100281 rt hl) ?_ (by simp only[List.size_toArray,hA.1];lia);exact hq σ _ {s1 with heap:=s1.heap.push {cls:=.type "tuple",data:=.seq (List.toArray (l.drop 1))}} (R1.push _) (pN R1 (hA.drop 1) (by simp;exact aC 0x22111020000100001 rt hz)) (X1.trans (.push _))
  ·exact bX h
  ·exact bX h
 ·intro l vs h1 h hv
  haveI V1:VR Z σ s1.heap v (.lst l):=VR.push R _ hv;refine nN h ?_;intro hq;refine R1.cw V1 h1 fun a l' m Ee _ g hA hz=>?_;subst Ee;obtain⟨ops,ho⟩:=hs a s.heap.objs.size;refine tail_any (aL g).typeIs slot_list_getitem.lookup ?_ ho;haveI Ae:(List.toArray l').size≤sizeLine:=by simp only[List.size_toArray,hA.1];lia
  rcases hp with⟨rfl,⟨t,rfl⟩,rfl,rfl⟩|⟨rfl,rfl,⟨t,rfl⟩,rfl⟩|⟨rfl,rfl,rfl,⟨t,rfl⟩⟩
  ·refine wpAny_getItem_list_slice (aL g) hS (.int _ _) .none .none (fun e=>nomatch e) ?_ Ae
   rw[uc];exact hq _ _ {s1 with heap:=s1.heap.push (listOf (List.toArray (l'.drop 1)) 0)} (R1.newList (ds:=vs.drop 1) (hA.drop 1) (by rw[List.length_drop];exact aO 0x21212021211100000201100222011060100211201671102001 rt hz (bE _ _))) (cT R1) (X1.trans (.cJ _))
  ·refine wpAny_getItem_list_slice (aL g) hS .none (.int _ _) .none (fun e=>nomatch e) ?_ Ae
   rw[ud];exact hq _ _ {s1 with heap:=s1.heap.push (listOf (List.toArray (l'.take 1)) 0)} (R1.newList (ds:=vs.take 1) (hA.take 1) (by rw[List.length_take];exact Nat.le_trans (Nat.min_le_left _ _) (by decide))) (cT R1) (X1.trans (.cJ _))
  ·refine wpAny_getItem_list_slice (aL g) hS .none .none (.int _ _) (by decide) ?_ Ae
   rw[zI];exact hq _ _ {s1 with heap:=s1.heap.push (listOf (List.toArray l'.reverse) 0)} (R1.newList (ds:=vs.reverse) hA.reverse (by rw[List.length_reverse];exact hz)) (cT R1) (X1.trans (.cJ _))
theorem xR(H:av prog w base P call n sc a a'):av prog w base P call n sc (.Subscript a (.Slice (some (.Constant (.int 1) kk p)) none none q) pos) (.slice .dZ a'):=
 fun {env A Z σ s loc st v af Q E} ok eo R F h hQ=>by
 replace h:=aE h;refine bP h fun x st1 h1 h2=>?_;refine Subscript_ (H ok eo R F h1 fun σ1 v1 s1 R1 V1 X1=>?_);refine PySem.wpAny_Slice ?_;simp only[evalPart_some];refine wpAny_Constant_int (wpAny_pure (wpAny_pure ?_));exact iO (s:={s1 with toks:=s1.toks+1}) (R1.dc rfl) V1 h2 (.inl ⟨rfl,⟨_,rfl⟩,rfl,rfl⟩) (fun a b=>⟨_,rfl⟩) fun σ2 v2 s2 R2 V2 X2=>hQ σ2 v2 s2 R2 V2 ((X1.trans .toks).trans X2)
theorem xS(H:av prog w base P call n sc a a'):av prog w base P call n sc (.Subscript a (.Slice none (some (.Constant (.int 1) kk p)) none q) pos) (.slice .gm a'):=
 fun {env A Z σ s loc st v af Q E} ok eo R F h hQ=>by
 replace h:=aE h;refine bP h fun x st1 h1 h2=>?_;refine Subscript_ (H ok eo R F h1 fun σ1 v1 s1 R1 V1 X1=>?_);refine PySem.wpAny_Slice ?_;simp only[evalPart_some];refine wpAny_pure (wpAny_Constant_int (wpAny_pure ?_));exact iO (s:={s1 with toks:=s1.toks+1}) (R1.dc rfl) V1 h2 (.inr (.inl ⟨rfl,rfl,⟨_,rfl⟩,rfl⟩)) (fun a b=>⟨_,rfl⟩) fun σ2 v2 s2 R2 V2 X2=>hQ σ2 v2 s2 R2 V2 ((X1.trans .toks).trans X2)
theorem Eu(H:av prog w base P call n sc a a'):av prog w base P call n sc (.Subscript a (.Slice none none (some (.UnaryOp .USub (.Constant (.int 1) kk p) p2)) q) pos) (.slice .rev a'):=
 fun {env A Z σ s loc st v af Q E} ok eo R F h hQ=>by
 replace h:=aE h;refine bP h fun x st1 h1 h2=>?_;refine Subscript_ (H ok eo R F h1 fun σ1 v1 s1 R1 V1 X1=>?_);refine PySem.wpAny_Slice ?_;refine wpAny_pure (wpAny_pure (wpAny_UnaryOp (wpAny_Constant_int (PyProof.Rows.neg_int ?_))));exact iO (s:={s1 with toks:=s1.toks+1+1}) (R1.dc rfl) V1 h2 (.inr (.inr ⟨rfl,rfl,rfl,⟨_,rfl⟩⟩)) (fun a b=>⟨_,rfl⟩) fun σ2 v2 s2 R2 V2 X2=>hQ σ2 v2 s2 R2 V2 ((X1.trans .toks).trans X2)
theorem bL{A:Around}{s:Shared}{f:Value}{pos:Pos}{env:Env}{es:List Expr}(hs:es.all notStar=true){Q:Args→Shared→Prop}{E:Value→Shared→Prop}
  (h:wpAny (model prog w) A (spliced (backTo pos (starEach es env))) (fun vs s'=>Q ⟨vs,[]⟩ s') E s):wpAny (model prog w) A (evalArgs f true (backTo pos (starEach es env)) []) Q E s:=by
 cases es with
 |nil=>
  haveI e:evalArgs f true (backTo pos (starEach [] env)) []=(do let vs ←spliced (backTo pos (starEach [] env));pure ⟨vs,[]⟩):=rfl;exact(e.symm▸(wpAny_bind (wpAny_mono h (fun vs s' q=>wpAny_pure q) fun _ _ x=>x)))
 |cons e r=>
  simp only[List.all_cons,Bool.and_eq_true]at hs;rw[dv hs.1]at h⊢;exact evalArgs_plain h
theorem rR{st af:St}(g:Gd K base)(SC:lR prog w base call n)(cx:∀a vs st r,call a vs st=some r→keepIn K (.ref a)=true)
  (ok:Ok A n) (eo:bl env sc) (R:Rel base Z σ st s.heap) (F:FS base Z σ s.heap env sc loc) (hs:es.all notStar=true) (H:ej prog w base P call n sc es kb)
  (hf:aj Z σ s.heap first fs) (h1:ev P call kb loc st=some (vs,st1)) (h2:call a (fs++vs) st1=some (v,af))
  {E:Value→Shared→Prop} (hq:∀σ' v' s',Rel base Z σ' af s'.heap→VR Z σ' s'.heap v' v→Ext [] σ s σ' s'→Q v' s'):
  wpAny (model prog w) A (callWith pos (.ref a) first (backTo pos (starEach es env)) []) Q E s:=by
 refine callWith_of (P:=fun h=>K.In h) (by refine(dw hs).symm▸?_;rfl) (fun h X=>keeps_K (cx _ _ _ _ h2) h X) (bL hs (H ok eo R F h1 fun σ1 z' s1 R1 V1 X1=>⟨g.X.keeps R1.keep,?_⟩));exact wpAny_call (SC h2 ok R1 ((hf.imp fun v d h=>VR.ext R X1 jM h).append V1) fun σ2 v2 s2 R2 V2 X2=>hq σ2 v2 s2 R2 V2 (X1.trans X2))
theorem rS(g:Gd K base)(SC:lR prog w base call n)(cx:∀a vs st r,call a vs st=some r→keepIn K (.ref a)=true)
  (vJ:∃x p,f=.Name x p) (hs:es.all notStar=true) (HF:av prog w base P call n sc f f') (H:ej prog w base P call n sc es kb):av prog w base P call n sc (.Call f es [] pos) (.call f' kb):=
 fun {env A Z σ s loc st v af Q E} ok eo R F h hQ=>by
 replace h:=aE h;refine bP h fun x st1 h1 h=>bP h fun vs ak h2 h3=>?_;dsimp only at h3;refine Hq vJ fun fx fp eq2=>?_;try clear vJ;obtain rfl:=eq2
 revert h1;refine fnE (x:=x) h3 ?_;intro a h3 h1
 ·refine gP fun GP HK=>?_
  refine mP h3 fun d cO h4 e=>?_;dsimp only at e;cases e;refine HK ?_;refine Call_ (HF ok eo R F h1 fun σ1 v1 s1 R1 V1 X1=>?_) rfl
  (obtain rfl:=VRf V1)
  exact rR g SC cx ok eo R1 (F.ext R X1) hs H (fs:=[]) .nil h2 h4 fun σ2 v2 s2 R2 V2 X2=>hQ σ2 v2 s2 R2 V2 (X1.trans X2)
theorem pW{v:Value}(hv:∀a,v≠.ref a){GG:Prop}(kk:∀k,(k=Keeper.frame∨k=Keeper.machine∨k=Keeper.boundFrame)→Looks (model prog w) h (keeperOf v) k→GG):GG:=by
 refine kk .machine (.inr (.inl rfl)) ?_;cases v<;>first|exact Looks.of_pure rfl|exact absurd rfl (hv _)
theorem cR(hv:∀a,v≠.ref a):∃k,(k=Keeper.frame∨k=Keeper.machine∨k=Keeper.boundFrame)∧Looks (model prog w) h (keeperOf v) k:=pW hv fun x1 x2 x3=>⟨x1,x2,x3⟩
theorem rT{gv:GV}{bv:Value}(h:jc gv=some bv):∀a,bv≠.ref a:=by
 intro a e;subst e;cases gv with
 |bi b=>cases b<;>cases h
 |_=>cases h
theorem dT(g:Gd K base)(fb:rq K base G)(hk:sc.lookup x=some .globalImplicit)(hg:G x=some (.bi b))(hd:(x==("__debug__":Str))=false)
  (hs:es.all notStar=true) (H:ej prog w base P call n sc es kb):av prog w base P call n sc (.Call (.Name x p) es [] pos) (.az b kb):=
 fun {env A Z σ s loc st v af Q E} ok eo R F h hQ=>by
 replace h:=aE h;refine bP h fun vs st1 h1 h2=>?_;clear h;obtain⟨bv,hb⟩:∃bv,jc (.bi b)=some bv:=by cases b<;>exact⟨_,rfl⟩
 refine Call_ (cA g fb hk hg hb hd eo R ?_) rfl;refine callWith_of (P:=fun _=>True) (by refine(dw hs).symm▸?_;rfl) (fun h X=>cR (rT hb)) (bL hs (H ok eo R F h1 fun σ1 z' s1 R1 V1 X1=>⟨trivial,?_⟩));exact Ef ok R1 V1 hb h2 fun σ2 v2 s2 R2 V2 X2=>hQ σ2 v2 s2 R2 V2 (X1.trans X2)
theorem Ext.update{W σ:List Addr}{s:Shared}{h':Heap}{a:Addr}{tk:Nat}(ha:a∈σ)(hz:σ[0]? ≠some a)(sb:Heap.SameBut a s.heap h')(hl:h'.get? a≠none):Ext W σ s σ {s with heap:=h',toks:=tk} where
 pre:=List.prefix_refl _
 new:=fun i a h e=>by haveI e:=(List.getElem?_eq_none h)▸e;(exact bX e)
 keep:=fun b o e h1 _=>by rw[sb.2 b (fun q=>h1 (q▸ha))];exact e
 iJ:=fun b o h _ e=>by show h'.get? b=some o;rw[sb.2 b (fun q=>hz (q▸h))];exact e
 live:=fun b _ e=>by
  rcases Classical.em (b=a)with hb|hb
  ·subst hb;exact hl
  ·show h'.get? b≠none;exact((sb.2 b hb).symm▸e)
 gens:=rfl
 os:=rfl
theorem VR.update{Z σ:List Addr}{st:St}{h h':Heap}{a:Addr}(R:Rel base Z σ st h)(ha:a∈σ)(sb:Heap.SameBut a h h'){v:Value}{d:V}(H:VR Z σ h v d):VR Z σ h' v d:=by
 refine H.mono (List.prefix_refl _) fun b o hz e nd nc nl=>?_
 by_cases hb:b=a
 ·subst hb
  refine R.dS ha fun o' g Nb=>?_;obtain⟨l,m,rfl⟩|⟨l,m,rfl⟩:=Nb
  ·rw[e]at g;obtain rfl:=cU g;exact absurd rfl nl
  ·rw[e]at g;obtain rfl:=cU g;exact absurd rfl (nd _ _)
 ·exact((sb.2 b hb).symm▸e)
theorem Rel.setCell{st:St}(R:Rel base Z σ st h)(hi:σ[i]? =some a)(sb:Heap.SameBut a h h')(hc:CR Z σ h' a c):Rel base Z σ (st.set i c) h':=by
 have ha:a∈σ:=List.mem_of_getElem? hi
 have hl:h'.get? a≠none:=by
  cases c with
  |list ds=>obtain⟨l,m,g,_⟩:=hc;rw[g];exact fun e=>nomatch e
  |inst ds=>obtain⟨l,m,g,_⟩:=hc;rw[g];exact fun e=>nomatch e
 exact{
  keep:=fun b o e=>by
   rw[sb.2 b (fun q=>by haveI:=R.fresh a ha;haveI e:=q▸e;rw[this]at e;(exact bX e))];exact R.keep b o e
  len:=by simp[R.len]
  nd:=R.nd
  fresh:=R.fresh
  apart:=R.apart
  alive:=fun b hb=>by rw[sb.2 b (fun q=>R.apart a ha (q▸hb))];exact R.alive b hb
  bW:=R.bW
  cell:=fun j c' b e1 e2=>by
   haveI vr:∀v d,VR Z σ h v d→VR Z σ h' v d:=fun v d H=>H.update R ha sb
   by_cases hj:j=i
   ·subst hj
    replace e2:=hi▸e2;(obtain rfl:=cU e2)
    haveI dB:j<st.length:=R.len▸(cN hi);rw[List.getElem?_set_self dB]at e1
    obtain rfl:=cU e1;exact hc
   ·replace e1:=(List.getElem?_set_ne (Ne.symm hj))▸e1
    have hb:b≠a:=fun q=>by
     subst q;exact hj ((List.getElem?_inj (cN e2) R.nd).mp (e2.trans hi.symm))
    haveI C:=R.cell j c' b e1 e2;cases c' with
    |list ds=>obtain⟨l,m,g,H,hl⟩:=C;exact⟨l,m,by rw[sb.2 b hb];exact g,H.imp vr,hl⟩
    |inst fs=>obtain⟨l,m,g,H,hn⟩:=C;exact⟨l,m,by rw[sb.2 b hb];exact g,H.imp vr,hn⟩}
theorem Rel.vM{st:St}(R:Rel base Z σ st h)(hi:σ[i]? =some a)(h0:i≠0):σ[0]? ≠some a:=fun q=>
 h0 ((List.getElem?_inj (cN hi) R.nd).mp (hi.trans q.symm))
theorem Rel.updateList{Z σ:List Addr}{st:St}{s:Shared}{h':Heap}{tk:Nat}{W:List Addr}{a:Addr}{i m:Nat}{l:List Value}{ds:List V}(R:Rel base Z σ st s.heap)(hi:σ[i]? =some a)(h0:i≠0)(sb:Heap.SameBut a s.heap h')
  (g:h'.get? a=some (listOf (List.toArray l) m)) (H:aj Z σ s.heap l ds) (hl:ds.length≤ah):Rel base Z σ (st.set i (.list ds)) h'∧Ext W σ s σ {s with heap:=h',toks:=tk}:=
 ⟨R.setCell hi sb ⟨l,m,g,H.imp fun v d x=>x.update R (List.mem_of_getElem? hi) sb,hl⟩,.update (List.mem_of_getElem? hi) (R.vM hi h0) sb ((g.symm▸(fun e=>nomatch e)))⟩
theorem xT(ho:ou o=false)(hp:(apos.endLine==pos.line)=true)(hs:args.all notStar=true)(hl:args.length<30)
  {E:Value→Shared→Prop}
  (h:wpAny M A (eval o env) (fun ov iK=>∀pl,wpAny M A (getMethod ov name pl) (fun fx rE=>wpAny M A (callWith pos fx.1 fx.2 (backTo pos (starEach args env)) []) Q E rE) E iK) E s):
  wpAny M A (eval (.Call (.Attribute o name apos) args [] pos) env) Q E s:=by
 simp only[arm_eval_Call,ka ho];refine wpAny_bind (wpAny_mono h (fun ov iK kv=>wpAny_bind (wpAny_standAt ?_)) fun _ _ x=>x)
 haveI hf:methodCallForm (args.length+0) (backTo pos (starEach args env)) []=true:=by
  unfold methodCallForm;exact((rO hs).symm▸(decide_eq_true (aJ 0x223e101010022103e10011 rt hl)))
 show wpAny M A (methodCall o name apos pos env ov (args.length+0) (backTo pos (starEach args env)) []) Q E iK;unfold methodCall;refine hf.symm▸?_;delta calleeOf methodCallPos;rw[hp];refine wpAny_bind (wpAny_holding (wpAny_mono (kv _) (fun fx rE ic=>?_) fun _ _ x=>x));exact wpAny_bind (wpAny_pure ic)
theorem pX{st:St}{id:String}
  (ok:Ok A n) (eo:bl env sc) (R:Rel base Z σ st s.heap) (F:FS base Z σ s.heap env sc loc) (hs:es.all notStar=true) (H:ej prog w base P call n sc es kb)
  (h1:ev P call kb loc st=some (vs,st1))
  {E:Value→Shared→Prop} (hq:∀σ' Ea s',Rel base Z σ' st1 s'.heap→aj Z σ' s'.heap Ea vs→Ext [] σ s σ' s'→wpAny (model prog w) A (PySem.call (.builtin id) (first++Ea) []) Q E s'):
  wpAny (model prog w) A (callWith pos (.builtin id) first (backTo pos (starEach es env)) []) Q E s:=by
 refine callWith_of (P:=fun _=>True) (by refine(dw hs).symm▸?_;rfl) (fun h X=>cR (fun _ e=>nomatch e)) (bL hs (H ok eo R F h1 fun σ1 z' s1 R1 V1 X1=>⟨trivial,?_⟩));exact hq _ _ _ R1 V1 X1
theorem eD(f:Array Value→Array Value)(xs:Array Value)(m:Nat):∃m',Obj.mapSeq f (W.listOf xs m)=W.listOf (f xs) m':=by
 unfold Obj.mapSeq W.listOf;simp
theorem Ew(l:List Value):(List.toArray l).eraseIdxIfInBounds ((List.toArray l).size - 1)=List.toArray l.dropLast:=by
 apply Array.ext';cases hl:l with
 |nil=>rfl
 |cons a r=>
  simp[List.eraseIdx_length_sub_one];simp only[show r.length=(a::r).length - 1 by simp,List.eraseIdx_length_sub_one]
theorem aj.dropLast{Z σ:List Addr}{h:Heap}{l:List Value}{ds:List V}(H:aj Z σ h l ds):aj Z σ h l.dropLast ds.dropLast:=by
 simp only[List.dropLast_eq_take,List.dropLast_eq_take,H.1];exact H.take _
theorem mvO{st:St}{d:V}(ru:P.cls.lookup C=some c)(hf:c.meths.lookup k=some f)(h:iw P call (.obj C i) k vs st=some ([d],af)):call f (.obj C i::vs) st=some (d,af):=by
 have h:(match P.cls.lookup C with|some c=>(match c.meths.lookup k with|some f=>(call f (.obj C i::vs) st).map fun(v,st)=>([v],st)|none=>none)|none=>none)=some ([d],af):=h;rw[ru]at h;dsimp only at h;rw[hf]at h;exact mP h fun a b e1 e2=>by cases e2;exact e1
theorem Af{o:Expr}{o':E}{k:Nat}{apos:Pos}{es:List Expr}{kb:E}{pos:Pos}(g:Gd K base)(SC:lR prog w base call n)(cx:∀a vs st r,call a vs st=some r→keepIn K (.ref a)=true)
  (hc:∀C c,P.cls.lookup C=some c→dd K C c)
  (ho:ou o=false) (hp:(apos.endLine==pos.line)=true) (hs:es.all notStar=true) (hl:es.length<30)
  (HO:av prog w base P call n sc o o') (H:ej prog w base P call n sc es kb):av prog w base P call n sc (.Call (.Attribute o (atName k) apos) es [] pos) (.aF o' k kb):=
 fun {env A Z σ s loc st v af Q E} ok eo R F h hQ=>by
 haveI nO:=bJ;refine bP ((YN ..).symm.trans (aE h)) fun x st1 h1 h=>?_;refine dk h fun hm h=>?_;refine bP h fun vs ak h2 h3=>?_;refine xT ho hp hs hl (HO ok eo R F h1 fun σ1 v1 s1 R1 V1 X1=>?_);intro pl;clear h h1;cases x with
 |obj C i=>
  refine U8 hm fun c fs ru fV hm=>?_;rw[Bool.and_eq_true]at hm;obtain⟨f,hf⟩:=Option.isSome_iff_exists.mp hm.1;have pY:fs.lookup k=none:=by simpa using hm.2
  haveI ck:=hc C c ru;haveI m1:=(ck.meths k f hf).1;haveI m2:=(ck.meths k f hf).2.1;haveI m3:=(ck.meths k f hf).2.2.1;haveI m4:=(ck.meths k f hf).2.2.2.1;refine R1.pV V1 fV fun x dx Ag m zR _ I g' hF _=>?_;subst zR;refine method_fn (g.X.keeps R1.keep) I (plainGet_of m2).1 (plainGet_of m2).2 m3 (by unfold isFn at m4;simpa using m4) ?_ ?_
  ·show(lookIn (atName k) (dictOf Ag m)).map (·.isSome)=some false
   haveI:lookIn (atName k) (dictOf Ag m)=getL (atName k) Ag:=rfl;refine this.symm▸?_;refine(ow m1 hF pY).symm▸?_;rfl
  ·exact rR g SC cx ok eo R1 (F.ext R X1) hs H (first:=[.ref x]) (fs:=[.obj C i]) (.cons V1 .nil) h2 (mvO ru hf h3) fun σ2 v2 s2 R2 V2 X2=>hQ σ2 v2 s2 R2 V2 (X1.trans X2)
 |lst li=>
  refine MO hm fun YY fV h0=>?_;refine R1.cw V1 fV fun a aad aae xB hi Ex YZ Y0=>?_;subst xB;have nd:s1.heap.NoDictAt (.ref a):=⟨_,Ex,rfl⟩;refine HG h3 fun lZ Jm h3=>?_;revert h2 hQ
  by_cases k0:k=dt
  ·subst k0
   rw[if_pos rfl]at h3;refine DK h3 ?_;intro xd h3;refine dk h3 fun dB h3=>?_;refine nN h3 ?_;intro hQ h2;refine getMethod_list_of PySem.F.slot_list_append PySem.F.type_list_append (aL Ex) nd ?_;refine pX ok eo R1 (F.ext R X1) hs H h2 fun σ2 Vv s2 R2 V2 X2=>?_;refine V2.one ?_;intro xv hx;have rv:=cq X2.pre hi;obtain⟨l2,m2,g2,uj,i8⟩:=R2.cell _ _ _ Jm rv;refine wpAny_list_append_plain (items:=List.toArray l2) (x:=xv) ⟨m2,g2⟩ (fun h' y' sb=>?_) (by simp only[List.size_toArray,uj.1];exact Nat.le_trans ‹_› bJ);obtain⟨m3,g3⟩:=y';haveI R3:=(R2.updateList (tk:=s2.toks) (W:=[]) (l:=l2++[xv]) (ds:=lZ++[xd]) (m:=m3) rv h0 sb (by simpa [W.listOf]using g3) (uj.append (.cons hx .nil)) (by simp;exact aC 0x22101100200100011 rt dB)).1;haveI X3:=(R2.updateList (tk:=s2.toks) (W:=[]) (l:=l2++[xv]) (ds:=lZ++[xd]) (m:=m3) rv h0 sb (by simpa [W.listOf]using g3) (uj.append (.cons hx .nil)) (by simp;exact aC 0x22101100200100011 rt dB)).2;exact hQ σ2 _ _ R3 .zK ((X1.trans X2).trans X3)
  rw[if_neg k0]at h3
  by_cases k1:k=dM
  ·subst k1
   rw[if_pos rfl]at h3;refine DK h3 ?_;intro xe h3;refine lE h3 ?_;intro mm ws Vz h3;refine tX h3 fun jK h3=>?_;refine dk h3 fun dB h3=>?_;refine nN h3 ?_;intro hQ h2;refine getMethod_list_of PySem.F.slot_list_extend PySem.F.type_list_extend (aL Ex) nd ?_;refine pX ok eo R1 (F.ext R X1) hs H h2 fun σ2 Vv s2 R2 V2 X2=>?_;refine V2.one ?_;intro xv hx;haveI rv:=cq X2.pre hi;obtain⟨l2,m2,g2,uj,i8⟩:=R2.cell _ _ _ Jm rv;refine R2.cw hx Vz fun b l3 m3 Jh hb g3 VA Y9=>?_;subst Jh;refine call_meets PySem.F.slot_list_extend ⟨_,g2,rfl⟩ PySem.F.entry_list_extend (PySem.F.args_list_extend_2 _ _) (AutoSeq1.list_extend_list_list_0 a (List.toArray l2) m2 b (List.toArray l3) m3 ?_ ?_ ?_) ⟨g2,g3,?_⟩
   ·haveI:Builtin.List.listTooLong ((List.toArray l2).size+(List.toArray l3).size)=false:=by
     simp only[List.size_toArray,List.size_toArray,uj.1,VA.1];unfold Builtin.List.listTooLong
     lia
    refine this.symm▸?_;lia
   ·simp only[List.size_toArray,uj.1];lia
   ·simp only[List.size_toArray,List.size_toArray,uj.1,VA.1];lia
   ·obtain⟨m4,e4⟩:=eD (fun x=>x++List.toArray l3) (List.toArray l2) m2
    obtain⟨R3,X3⟩:=R2.updateList (tk:=s2.toks) (W:=[]) (h':=s2.heap.update a (Obj.mapSeq fun x=>x++List.toArray l3)) (l:=l2++l3) (ds:=lZ++ws) (m:=m4) rv h0 (Heap.SameBut.update ..)
     (by rw[Heap.get?_update_self _ g2 (by rw[e4];rfl),e4];simp) (uj.append VA) (by simp;exact aO 0x22201000200201000211 rt dB)
    exact hQ σ2 _ _ R3 .zK ((X1.trans X2).trans X3)
  rw[if_neg k1]at h3
  by_cases k2:k=pK
  ·subst k2
   rw[if_pos rfl]at h3;cases vs with
   |cons y r=>exact bX h3
   |nil=>
   replace h3:(match lZ.getLast? with|some x=>some ([x],ak.set li (Cell.list lZ.dropLast))|none=>none)=some ([v],af):=h3;cases rU:lZ.getLast? with
   |none=>rw[rU]at h3;exact bX h3
   |some xd=>
   rw[rU]at h3;refine nN h3 ?_;intro hQ h2;refine getMethod_list_of PySem.F.slot_list_pop PySem.F.type_list_pop (aL Ex) nd ?_;refine pX ok eo R1 (F.ext R X1) hs H h2 fun σ2 Vv s2 R2 V2 X2=>?_;have e:=V2.da;subst e;have rv:=cq X2.pre hi;obtain⟨l2,m2,g2,uj,i8⟩:=R2.cell _ _ _ Jm rv;haveI rU:=(List.getLast?_eq_getElem?)▸rU;refine uj.jb rU fun y hy hyv=>?_;refine call_meets PySem.F.slot_list_pop ⟨_,g2,rfl⟩ PySem.F.entry_list_pop (PySem.F.args_list_pop_1 _) (MeetsSeq.list_pop_last a (List.toArray l2) m2 y (by refine(List.size_toArray).symm▸?_;refine(uj.1).symm▸?_;simpa using hy) (by simp only[List.size_toArray,uj.1];lia)) ⟨g2,?_⟩;obtain⟨m4,e4⟩:=eD (fun xs=>xs.eraseIdxIfInBounds ((List.toArray l2).size - 1)) (List.toArray l2) m2
   obtain⟨R3,X3⟩:=R2.updateList (tk:=s2.toks) (W:=[]) (h':=s2.heap.update a (Obj.mapSeq fun xs=>xs.eraseIdxIfInBounds ((List.toArray l2).size - 1))) (l:=l2.dropLast) (ds:=lZ.dropLast) (m:=m4) rv h0 (Heap.SameBut.update ..)
     (by rw[Heap.get?_update_self _ g2 (by rw[e4];rfl),e4,Ew]) uj.dropLast (by simp;exact aC 0x22111020000100001 rt i8)
   exact hQ σ2 _ _ R3 (hyv.update R2 (List.mem_of_getElem? rv) (Heap.SameBut.update ..)) ((X1.trans X2).trans X3)
  rw[if_neg k2]at h3;exact bX h3
 |_=>injection hm
end
section
open PyProof.Rows PySem PySem.Calls PySem.W
noncomputable def aq(env:Env)(sc:List (Str×NameKind)):List Addr:=env.locals::sc.filterMap fun p=>if p.2=.cell then env.cells.lookup p.1 else none
theorem iP(h:a∈aq env sc):a=env.locals∨∃x,(x,NameKind.cell)∈sc∧env.cells.lookup x=some a:=by
 refine gP fun GP kQ=>?_;unfold aq at h;rcases List.mem_cons.mp h with h|h
 ·refine kQ ?_;exact .inl h
 ·obtain⟨⟨x,kd⟩,h1,h2⟩:=List.mem_filterMap.mp h
  rcases Classical.em (kd=.cell)with hk|hk
  ·subst hk;simp at h2;refine kQ ?_;exact .inr ⟨x,h1,h2⟩
  ·simp[hk]at h2
noncomputable def Y'{β:Type}(o:Option NameKind)(a:Option β):Option β:=match o with
 |some .local=>a
 |some .cell=>a
 |_=>none
theorem VB{a:Option β}{b:β}(h:Y' o a=some b){G:Prop}(k:∀kd,o=some kd→(kd=.local∨kd=.cell)→a=some b→G):G:=by
 rcases o with _|kd
 ·cases h
 ·cases kd with
  |«local»=>exact k _ rfl (.inl rfl) h
  |cell=>exact k _ rfl (.inr rfl) h
  |_=>cases h
noncomputable def de(sc:List (Str×NameKind))(x:Str):Option Nat:=Y' (sc.lookup x) (some (aU sc x))
theorem jh(e:de sc x=some k){GG:Prop}(kk:∀kd,sc.lookup x=some kd→(kd=.local∨kd=.cell)→k=aU sc x→GG):GG:=
 VB e fun kd h1 h2 h3=>kk kd h1 h2 (cU h3)
theorem fF(e:de sc x=some k):∃kd,sc.lookup x=some kd∧(kd=.local∨kd=.cell)∧k=aU sc x:=jh e fun x1 x2 x3 x4=>⟨x1,x2,x3,x4⟩
noncomputable def slotsOf(sc:List (Str×NameKind)):List Str→Option (List Nat)
 |[]=>some []
 |x::r=>(de sc x).bind fun k=>(slotsOf sc r).map (k::·)
theorem ke{sc:List (Str×NameKind)}:∀{xs:List Str} {ks:List Nat},slotsOf sc xs=some ks→xs.length=ks.length:=by
 intro xs
 induction xs with
 |nil=>intro ks h;exact vu (a:=[]) h rfl
 |cons x r ih=>intro ks h;exact Option.bind_eq_some_iff.mp h |>.elim fun k h=>mO h.2 fun Ah a e=>e▸congrArg (· +1) (ih a)
noncomputable def namesOf:List Expr→Option (List Str)
 |[]=>some []
 |e::r=>(ky e).bind fun n=>(namesOf r).map (n.1::·)
end
section
open PyProof.Rows PySem PySem.Calls PySem.W
variable{prog:Program}{w:World}{K:Frag}{base:Heap}{P:Pg}{call:bj}{n:Nat}{sc:List (Str×NameKind)}
variable{Z σ:List Addr}{st:St}{s:Shared}{env:Env}{loc:Loc}
theorem FS.fG(F:FS base Z σ s.heap env sc loc)(h:a∈aq env sc):(∃c,s.heap.IsCell a c)∨(∃m,s.heap.Ns a m):=by
 refine gP fun GP kQ=>?_;rcases iP h with rfl|⟨x,hx,hc⟩
 ·obtain⟨m,hm,_⟩:=F.ns;refine kQ ?_;exact .inr ⟨m,hm⟩
 ·obtain⟨k,hk⟩:=List.mem_iff_getElem?.mp hx
  refine Mm (F.cells k x _ hk (.inl rfl)) fun c w h1 h2 _=>?_;haveI h1:=hc▸h1;(obtain rfl:=cU h1)
  refine kQ ?_;exact .inl ⟨_,h2⟩
theorem VR.step(R:Rel base Z σ st s.heap)(F:FS base Z σ s.heap env sc loc)(X:Ext (aq env sc) σ s σ' s')(H:VR Z σ s.heap v d):VR Z σ' s'.heap v d:=
 VR.ext R X (fun a ha=>(F.fG ha).elim (fun h=>.inr (.inl h)) fun h=>.inr (.inr (.inl h))) H
theorem ji(sb:Heap.SameBut a s.heap h')(ha:a∈W)(hl:h'.get? a≠none):Ext W σ s σ {s with heap:=h',toks:=tk} where
 pre:=List.prefix_refl _
 new:=fun i a h e=>by haveI e:=(List.getElem?_eq_none h)▸e;(exact bX e)
 keep:=fun b o e h1 h2=>by
  show h'.get? b=some o;rw[sb.2 b (fun q=>h2 (q▸ha))];exact e
 iJ:=fun b o _ h2 e=>by
  show h'.get? b=some o;rw[sb.2 b (fun q=>h2 (q▸ha))];exact e
 live:=fun b _ e=>by
  rcases Classical.em (b=a)with hb|hb
  ·subst hb;exact hl
  ·show h'.get? b≠none;exact((sb.2 b hb).symm▸e)
 gens:=rfl
 os:=rfl
theorem md{x:Str}(eo:bl env sc)(R:Rel base Z σ st s.heap)(F:FS base Z σ s.heap env sc loc)(hk:sc.lookup x=some kd)(Ai:kd=.local∨kd=.cell)(hv:VR Z σ s.heap v d)
  {E:Value→Shared→Prop} (hq:∀s',Rel base Z σ st s'.heap→FS base Z σ s'.heap env sc (loc.set (aU sc x) (some d))→Ext (aq env sc) σ s σ s'→Q () s'):
  wpAny (model prog w) A (bindName env x v) Q E s:=by
 haveI hs:=slot_get hk;have hlen:aU sc x<loc.length:=by simp only[F.len];exact(cN hs)
 have vP:∀{j:Nat} {y:Str} {jQ:NameKind},sc[j]? =some (y,jQ)→(y=x↔j=aU sc x):=fun {j y jQ} hj=>by
  haveI h1:=(bq eo.nodup hj).1;haveI h2:=(bq eo.nodup hj).2;constructor
  ·rintro rfl;exact h2.symm
  ·intro e;haveI hj:=hs▸(e▸hj);(haveI pO:=(t5 hj).1;haveI Jn:=(t5 hj).2;subst pO;subst Jn);rfl
 refine b9 (F.ns) fun m hn hm=>?_;refine wpAny_bindName ?_;rcases Ai with rfl|rfl
 ·have VC:env.kindOf x=some .local:=by rcases eo.kinds _ _ hk with k|⟨k,_⟩;exact k;cases k
  refine wpAny_storeName_local VC hn (fun h' T9 sb=>?_) (eo.kind▸rfl);have kK:h'.get? env.locals≠none:=by obtain⟨o,_,_,e,_⟩:=T9;rw[e];exact fun q=>nomatch q
  have Jo:env.locals∈aq env sc:=List.mem_cons_self ..;have X:Ext (aq env sc) σ s σ {s with heap:=h',toks:=s.toks+1}:=ji sb Jo kK;have X1:Ext [env.locals] σ s σ {s with heap:=h',toks:=s.toks+1}:=ji sb (List.mem_cons_self ..) kK
  have R':Rel base Z σ st h':=R.ext X1 (fun a ha=>by simp at ha;subst ha;exact .inr (.inr (.inl ⟨m,hn⟩))) (fun a ha=>by simp at ha;subst ha;exact F.lf)
   (fun a ha o e=>by show h'.get? a=some o;rw[sb.2 a (fun q=>F.vz (q▸ha))];exact e) (fun a ha _=>by simp at ha;subst ha;exact kK)
  have vr:∀{v d},VR Z σ s.heap v d→VR Z σ h' v d:=fun H=>VR.step R F X H;refine hq _ R' ⟨by simp[F.len],⟨_,T9,fun j y d' e1 e2=>?_⟩,fun j y jQ e1 e2=>?_,F.apart,F.lf,F.vz,F.lz,fun j y jQ d' e1 e2=>?_⟩ X
  ·by_cases hj:j=aU sc x
   ·haveI hy:=(vP e1).mpr hj
    replace e2:=(List.getElem?_set_self hlen)▸(hj▸e2);cases e2;exact⟨v,by simp[hy],vr hv⟩
   ·replace e2:=(List.getElem?_set_ne (Ne.symm hj))▸e2
    refine b9 (hm j y d' e1 e2) fun v' a b=>?_;exact⟨v',by refine(if_neg fun e=>hj ((vP e1).mp e)).symm▸?_;exact a,vr b⟩
  ·refine cK (F.cells j y jQ e1 e2) fun c w' h1 h2 h3 h4 h5=>?_
   refine⟨c,w',h1,h2.sameBut sb (fun e=>?_),h3,h4,fun d' e=>?_⟩
   ·obtain⟨o,a,b⟩:=h2;obtain⟨o',es,ep,a',b',_⟩:=hn;rw[e]at a;rw[a]at a';obtain rfl:=cU a';rw[b]at b';cases b'
   ·have hj:j≠aU sc x:=fun q=>by
     rw[q,hs]at e1;(obtain⟨rfl,rfl⟩:=t5 e1);rcases e2 with e2|e2<;>cases e2
    replace e:=(List.getElem?_set_ne (Ne.symm hj))▸e;refine b9 (h5 d' e) fun v' a b=>?_;exact⟨v',a,vr b⟩
  ·by_cases hj:j=aU sc x
   ·rw[hj,hs]at e1;(haveI VD:=(t5 e1).1;haveI VE:=(t5 e1).2;cases VD;subst VE);exact .inl rfl
   ·haveI e2:=(List.getElem?_set_ne (Ne.symm hj))▸e2;exact F.only j y jQ d' e1 e2
 ·have VC:env.kindOf x=some .cell:=by rcases eo.kinds _ _ hk with k|⟨k,_⟩;exact k;cases k
  refine cK (F.cells _ _ _ hs (.inl rfl)) fun c w' h1 h2 h3 h4 h5=>?_;refine wpAny_storeName_cell eo.kind VC h1 h2 (fun h' Za sb=>?_);have kK:h'.get? c≠none:=by obtain⟨o,e,_⟩:=Za;rw[e];exact fun q=>nomatch q
  have Jo:c∈aq env sc:=List.mem_cons_of_mem _ (List.mem_filterMap.mpr ⟨(x,.cell),List.mem_of_getElem? hs,h1⟩);have X:Ext (aq env sc) σ s σ {s with heap:=h'}:=ji sb Jo kK;have X1:Ext [c] σ s σ {s with heap:=h'}:=ji sb (List.mem_cons_self ..) kK
  have R':Rel base Z σ st h':=R.ext X1 (fY (.inr (.inl ⟨_,h2⟩))) (fY h3)
   (fun a ha o e=>by show h'.get? a=some o;rw[sb.2 a (fun q=>R.kI h2 (q▸ha))];exact e) (fun a ha _=>by simp at ha;subst ha;exact kK)
  have vr:∀{v d},VR Z σ s.heap v d→VR Z σ h' v d:=fun H=>VR.step R F X H
  have jK:env.locals≠c:=fun e=>by
   obtain⟨o,a,b⟩:=h2;obtain⟨o',es,ep,a',b',_⟩:=hn;rw[e,a]at a';obtain rfl:=cU a';rw[b]at b';cases b'
  refine hq _ R' ⟨by simp[F.len],⟨_,hn.sameBut sb jK,fun j y d' e1 e2=>?_⟩,fun j y jQ e1 e2=>?_,F.apart,F.lf,F.vz,F.lz,fun j y jQ d' e1 e2=>?_⟩ X
  ·haveI hj:j≠aU sc x:=fun q=>by replace e1:=hs▸(q▸e1);cases e1
   haveI e2:=(List.getElem?_set_ne (Ne.symm hj))▸e2;refine b9 (hm j y d' e1 e2) fun v' a b=>?_;exact⟨v',a,vr b⟩
  ·refine cK (F.cells j y jQ e1 e2) fun c2 w2 g1 g2 g3 g4 g5=>?_
   rcases Classical.em (j=aU sc x)with hj|hj
   ·haveI hy:=(vP e1).mpr hj
    cases hy;refine⟨c,_,h1,Za,h3,h4,fun d' e=>?_⟩;replace e:=(List.getElem?_set_self hlen)▸(hj▸e);cases e;exact⟨v,rfl,vr hv⟩
   ·have hcc:c2≠c:=fun e=>by cases e;exact hj ((vP e1).mp (F.apart _ _ _ g1 h1))
    refine⟨c2,w2,g1,g2.sameBut sb hcc,g3,g4,fun d' e=>?_⟩;rw[List.getElem?_set_ne (Ne.symm hj)]at e;refine b9 (g5 d' e) fun v' a b=>?_;exact⟨v',a,vr b⟩
  ·by_cases hj:j=aU sc x
   ·rw[hj,hs]at e1;(obtain⟨rfl,rfl⟩:=t5 e1);exact .inr (.inl rfl)
   ·rw[List.getElem?_set_ne (Ne.symm hj)]at e2;exact F.only j y jQ d' e1 e2
theorem FS.toks(F:FS base Z σ s.heap env sc loc):FS base Z σ ({s with toks:=tk}:Shared).heap env sc loc:=F
inductive Stores(env:Env):List (Value→Sem Unit)→List Str→Prop where
 |nil:Stores env [] []
 |cons {t x ts xs}:(t=(fun v=>bindName env x v)∨∃p,t=assign (.Name x p) env)→Stores env ts xs→Stores env (t::ts) (x::xs)
theorem Stores.bind{env:Env}:∀(xs:List Str),Stores env (xs.map fun x=>bindName env x) xs
 |[]=>.nil
 |x::xs=>.cons (.inl rfl) (Stores.bind xs)
theorem me{env:Env}:∀{es:List Expr} {xs:List Str},namesOf es=some xs→(assignEach es env).findIdx? (·.1)=none∧(assignEach es env).length=xs.length∧Stores env ((assignEach es env).map (·.2)) xs
 |[],xs,h=>vu (a:=[]) h ⟨rfl,rfl,.nil⟩
 |e::r,xs,h=>by
   refine b9 (Option.bind_eq_some_iff.mp (show(ky e).bind _=_ from h)) fun n e1 h=>?_;obtain⟨x,p⟩:=n;obtain rfl:=jg e1;refine b9 (Option.map_eq_some_iff.mp h) fun ys h1 eq2=>?_;obtain rfl:=eq2;refine jZ (me (env:=env) h1) fun a b c=>?_;haveI e:assignEach (.Name x p::r) env=(false,assign (.Name x p) env)::assignEach r env:=rfl;refine e.symm▸?_;exact⟨by simp only[List.findIdx?_cons];simp[a],by simp[b],.cons (.inr ⟨p,rfl⟩) c⟩
theorem mh{A:Around}(eo:bl env sc):∀{ts:List (Value→Sem Unit)} {xs:List Str} {ks:List Nat} {vs:List Value} {ds:List V} {loc bB:Loc} {s:Shared},Stores env ts xs→slotsOf sc xs=some ks→cp ks ds loc=some bB→
  Rel base Z σ st s.heap→FS base Z σ s.heap env sc loc→aj Z σ s.heap vs ds→
  ∀{Q:Unit→Shared→Prop} {E:Value→Shared→Prop},(∀s',Rel base Z σ st s'.heap→FS base Z σ s'.heap env sc bB→Ext (aq env sc) σ s σ s'→Q () s')→
  wpAny (model prog w) A (assignInOrder ts vs) Q E s:=by
 intro ts xs ks vs ds loc bB s T
 induction T generalizing ks vs ds loc bB s with
 |nil=>
  intro h1 h2 R F hv Q E hq;obtain rfl:=cU (a:=[]) h1;cases ds with
  |nil=>obtain rfl:=cU (a:=loc) h2;exact((hv.da).symm▸(wpAny_pure (hq s R F (.refl _ _ _))))
  |cons d r=>injection h2
 | @cons t x ts xs ht T ih=>
  intro h1 h2 R F hv Q E hq
  haveI key:∃kd,sc.lookup x=some kd∧(kd=.local∨kd=.cell)∧∃Ah,slotsOf sc xs=some Ah∧ks=aU sc x::Ah:=by
   obtain⟨k,h1,h3⟩:=Option.bind_eq_some_iff.mp (show(de sc x).bind _=some ks from h1);exact jh h1 fun kd a b c=>mO h3 fun Ah d e=>⟨kd,a,b,Ah,d,c▸e.symm⟩
  refine I5 key fun kd hk Ai Ah h3 eq5=>?_;try clear key;obtain rfl:=eq5
  cases ds with
  |nil=>injection h2
  |cons d ds=>
   haveI h2:cp Ah ds (loc.set (aU sc x) (some d))=some bB:=h2;refine hv.aW fun v Ea eq2 hx hr=>?_;obtain rfl:=eq2
   have main:wpAny (model prog w) A (bindName env x v) (fun _ s1=>wpAny (model prog w) A (assignInOrder ts Ea) Q E s1) E s:=by
    refine md eo R F hk Ai hx fun s1 R1 F1 X1=>?_;refine ih h3 h2 R1 F1 (hr.imp fun v d h=>VR.step R F X1 h) fun s2 R2 F2 X2=>?_;exact hq s2 R2 F2 (X1.trans X2)
   rcases ht with rfl|⟨p,rfl⟩
   ·exact wpAny_bind (wpAny_holding main)
   ·refine wpAny_bind (wpAny_holding ?_)
    exact wpAny_bind (wpAny_standAt main)
def gw(prog:Program)(w:World)(base:Heap)(sc:List (Str×NameKind))(t:Expr)(p:cD):Prop:=∀{env:Env} {A:Around} {Z σ:List Addr} {s:Shared} {loc bB:Loc} {st:St} {v:Value} {d:V} {Q:Unit→Shared→Prop} {E:Value→Shared→Prop},
 A.handled=none→bl env sc→Rel base Z σ st s.heap→FS base Z σ s.heap env sc loc→VR Z σ s.heap v d→cb p d loc=some bB→
 (∀s',Rel base Z σ st s'.heap→FS base Z σ s'.heap env sc bB→Ext (aq env sc) σ s σ s'→Q () s')→wpAny (model prog w) A (assign t env v) Q E s
theorem fi{x:Str}{p:Pos}{kd:NameKind}(hk:sc.lookup x=some kd)(Ai:kd=.local∨kd=.cell):gw prog w base sc (.Name x p) (.var (aU sc x)):=
 fun {env A Z σ s loc bB st v d Q E} hA eo R F hv h hq=>by
 obtain rfl:=cU h;exact wpAny_bind (wpAny_standAt (md eo R F hk Ai hv hq))
theorem mj{h':Heap}{W:List Addr}(k:Heap.ExtBut s.heap.objs.size s.heap h'):∀b o,s.heap.get? b=some o→h'.get? b=some o:=fun b o e=>
 k b o (fun q=>by simp only[q,bo]at e;(exact bX e)) e
theorem FS.of_keep{h':Heap}(R:Rel base Z σ st s.heap)(F:FS base Z σ s.heap env sc loc)(k:∀b o,s.heap.get? b=some o→h'.get? b=some o):FS base Z σ h' env sc loc:=
 F.ext (s':={s with heap:=h'}) R (.of_keep (tk:=s.toks) k)
theorem oz(hx:namesOf es=some xs)(hk:slotsOf sc xs=some ks):gw prog w base sc (.Tuple es k p) (.vars ks):=
 fun {env A Z σ s loc bB st v d Q E} hA eo R F hv h hq=>by
 refine nZ h fun ds eq1 h=>?_;obtain rfl:=eq1;refine hv.cC fun a l eq2 ht HS hl=>?_;obtain rfl:=eq2;refine jZ (me (env:=env) hx) fun n1 n2 n3=>?_
 haveI xU:∀{ks:List Nat} {ds:List V} {l l':Loc},cp ks ds l=some l'→ks.length=ds.length:=by
  intro ks
  induction ks with
  |nil=>intro ds l l' h;cases ds with|nil=>rfl|cons _ _=>cases h
  |cons k r ih=>intro ds l l' h;cases ds with|nil=>cases h|cons _ _=>exact congrArg (· +1) (ih (show cp r _ _=_ from h))
 refine wpAny_bind (wpAny_standAt (unpack_tuple hA ht ?_ n1 fun h' fU=>?_))
 ·simp only[n2,List.size_toArray,HS.1,ke hk,xU h]
 ·haveI k:=mj (W:=[]) fU
  exact mh (s:={s with heap:=h'}) eo n3 hk h (R.of_keep k) (F.of_keep R k) (HS.imp fun v d h=>VR.of_keep k h) fun s' R' F' X'=>hq s' R' F' ((Ext.of_keep (tk:=s.toks) k).trans X')
theorem xV(DM:sc.lookup x=some kd)(Ai:kd=.local∨kd=.cell)(hx:namesOf es=some xs)(hk:slotsOf sc xs=some ks):
  gw prog w base sc (.Tuple [.Name x p1,.Tuple es k2 p2] k p) (.nest (aU sc x) ks):=
 fun {env A Z σ s loc bB st v d Q E} hA eo R F hv h hq=>by
 refine n4 h fun a ds eq1 h=>?_;obtain rfl:=eq1;refine hv.cC fun ad l eq2 ht HS hl=>?_;obtain rfl:=eq2;refine HS.aW fun v1 l1 eq2 hx1 hr=>?_;obtain rfl:=eq2;refine gP fun GP kP=>?_;obtain⟨v2,l2,rfl,xJ,hr⟩:=hr.lN;obtain rfl:=hr.da;refine kP ?_;refine wpAny_bind (wpAny_standAt (unpack_tuple hA ht rfl rfl fun h' fU=>?_));haveI k:=mj (W:=[]) fU;show wpAny _ _ (assignInOrder [assign (.Name x p1) env,assign (.Tuple es k2 p2) env] [v1,v2]) _ _ _;refine wpAny_bind (wpAny_holding (fi DM Ai (s:={s with heap:=h'}) hA eo (R.of_keep k) (F.of_keep R k) (hx1.of_keep k) rfl fun s1 R1 F1 X1=>?_));refine wpAny_bind (wpAny_holding (oz hx hk hA eo R1 F1 (VR.step (R.of_keep k) (F.of_keep R k) X1 (xJ.of_keep k)) h fun s2 R2 F2 X2=>?_));exact wpAny_pure (hq s2 R2 F2 (((Ext.of_keep (tk:=s.toks) k).trans X1).trans X2))
end
section
open PyProof.Rows PySem PySem.Calls PySem.W
variable{prog:Program}{w:World}{K:Frag}{base:Heap}{P:Pg}{call:bj}{n:Nat}{sc:List (Str×NameKind)}
theorem mn{Z σ:List Addr}{h:Heap}{k:Nat}(hk:k<bw.length){hsh:Int}{t:Tok}{v:Value}{d:V}(hv:VR Z σ h v d):∀{es:List DictEntry} {fs:List (Nat×V)},eZ Z σ h es fs→
  eZ Z σ h (putL (atName k) hsh (.str (atName k) t) v es) (setField k d fs)
 |[],[],H=>by
  haveI:eZ Z σ h [] []:=H;exact .cons ⟨hk,⟨_,rfl⟩,hv⟩ this
 |[],_::_,H=>by haveI:=H.1;injection this
 |_::_,[],H=>by haveI:=H.1;injection this
 |e::es,(j,x)::fs,H=>by
  haveI h1:=H.tail.1;haveI h2:=H.tail.2;haveI xO:=key_is hk h1;dsimp only[putL,setField];rw[xO]
  by_cases hj:j=k
  ·subst hj
   simp only[if_true];exact .cons ⟨h1.1,h1.2.1,hv⟩ h2
  ·simp only[hj,Bool.false_eq_true]
   exact .cons h1 (mn hk hv h2)
theorem jj(k:Nat)(d:V):∀fs:List (Nat×V),(setField k d fs).length≤fs.length+1
 |[]=>Nat.le_refl _
 |(j,x)::r=>by
  refine(MN k d j x r).symm▸?_;refine nU (M:=fun y:List (Nat×V)=>y.length≤r.length+1+1) (fun _=>Nat.le_succ _) fun _=>?_
  ·haveI:=jj k d r;simp;exact aC 0x22111020000111020001 rt this
theorem Ey{A:Around}{C x:Addr}{s:Shared}{R:Result→Shared→Prop}{ox:Obj}{dx:Addr}{name:Str}{tk:Tok}{v:Value}{es:List DictEntry}{m:Nat}(X:K.In s.heap)
  (I:W.InstAt s.heap x ox C (some (dictOf es m))) (hd:ox.dict=some dx) (hp:plainOver K C=true) (ht:takerIn K C name=some none) (hh:(clsIn K C).any (·.hasDict)=true)
  (hl:(getL name es).isSome=true) (hz:es.length≤1000)
  (h:∀hsh,R (.ok (.ret .none)) {s with heap:=s.heap.update dx (Obj.putName name hsh (.str name s.toks) v),toks:=s.toks+1}):
  codeAny (model prog w) A (.call (.builtin "object.__setattr__") ⟨[.ref x,.str name tk,v],[]⟩) R s:=by
 refine osa_open X I hp ht fun b=>?_;refine b9 (any_some hh) fun cd hc pZ=>?_
 have D:s.heap.get? dx=some (dictOf es m):=by
  haveI:=I.dict;haveI this:=hd▸this;exact this
 haveI e':∀hsh,Obj.putName name hsh (.str name s.toks) v (dictOf es m)=dictOf (putL name hsh (.str name s.toks) v es) (putN name es m):=fun hsh=>putName_dict ..
 haveI D':∀hsh,(s.heap.update dx (Obj.putName name hsh (.str name s.toks) v)).get? dx=some (dictOf (putL name hsh (.str name s.toks) v es) (putN name es m)):=fun hsh=>by
  rw[Heap.get?_update_self _ D (by rw[e'];rfl),e']
 haveI y':∀hsh,(putL name hsh (.str name s.toks) v es).length≤es.length+1:=fun hsh=>by
  clear D D' e' hl hz h I
  induction es with
  |nil=>simp[putL]
  |cons e r ih=>dsimp only[putL];split<;>simp;exact ih
 obtain⟨hx,ru,hn,-⟩:=I;refine gP fun GP kP=>?_;obtain⟨oc,odi,oda,osl⟩:=ox;dsimp only at ru hd;subst ru hd;refine kP ?_;refine wpAny_bind (wpAny_pure (wpAny_bind (wpAny_bind (wpAny_loadPart hx (wpAny_bind ((looks_clsIn X hc).here ?_))))));refine pZ.symm▸?_;refine wpAny_pure (a:=some dx) (wpAny_bind (wpAny_pure (wpAny_bind ?_)));refine wpAny_bind (wpAny_bind (wpAny_askSetting (wpAny_pure (wpAny_bind (wpAny_mkText (wpAny_bind (wpAny_loadPart D ?_)))))))
 haveI c:aRefKeyMayBeTheName name es.toArray=false:=by
  rw[aRefKeyMayBeTheName_at];refine(Array.any_toList)▸?_;refine(Array.any_toList)▸?_;unfold getL at hl;show(!es.any (fun x=>x.key.isStr name)&&es.any fun x=>x.refKey)=false;refine iG (es.find? (fun x=>x.key.isStr name)) (fun q=>?_) fun en q=>?_
  ·haveI hl:=q▸hl
   cases z:es.any (fun x=>x.refKey)with
   |true=>replace hl:=z▸hl;cases hl
   |false=>rw[Bool.and_false]
  ·refine(List.any_eq_true.mpr ⟨en,List.mem_of_find?_eq_some q,List.find?_some q⟩).symm▸?_;rfl
 show wpAny _ _ (if aRefKeyMayBeTheName name es.toArray=true then _ else _) _ _ _;refine c.symm▸?_;refine wpAny_updatePart D ?_;refine wpAny_bind (wpAny_lookBehind (D' _) (pastItsLine_dict (by rw[List.size_toArray,sizeLine_eq];exact Nat.le_trans (y' _) (aJ 0x22111888888881211002001fd810001 rt hz))) ?_);exact wpAny_pure (h _)
theorem Aj{st:St}(g:Gd K base)(R:Rel base Z σ st s.heap)(ck:dd K C c)(hv:VR Z σ s.heap v (.obj C i))(hs:st[i]? =some (.inst fs))
  (hk:c.attrs.contains k=true) (hl:fs.length<100) (h0:i≠0) (hu:VR Z σ s.heap u d) {E:Value→Shared→Prop} (hq:∀s',Rel base Z σ (st.set i (.inst (setField k d fs))) s'.heap→Ext [] σ s σ s'→Q () s'):
  wpAny (model prog w) A (setAttr v (atName k) u) Q E s:=by
 refine R.pV hv hs fun x dx es m Vj hi I g' hF _=>?_;subst Vj;refine zq (ck.attrs k hk) fun h1 h2 h3 attr h4 h5=>?_;refine set_plain (g.X.keeps R.keep) I ck.sets ?_;haveI hh:(clsIn K C).any (·.hasDict)=true:=by haveI:=ck.dict;unfold hasDictIn at this;simpa using this
 refine Ey (s:={s with toks:=s.toks+1}) (g.X.keeps R.keep) I rfl ck.over h3 hh (rQ h1 hF) (((hF.1).symm▸(aJ 0x221fd8100001cc10011 rt hl))) fun hsh=>?_;haveI sb:Heap.SameBut dx s.heap (s.heap.update dx (Obj.putName (atName k) hsh (.str (atName k) (s.toks+1)) u)):=Heap.SameBut.update ..;haveI e':Obj.putName (atName k) hsh (.str (atName k) (s.toks+1)) u (dictOf es m)=dictOf (putL (atName k) hsh (.str (atName k) (s.toks+1)) u es) (putN (atName k) es m):=putName_dict ..
 haveI D':(s.heap.update dx (Obj.putName (atName k) hsh (.str (atName k) (s.toks+1)) u)).get? dx=some (dictOf (putL (atName k) hsh (.str (atName k) (s.toks+1)) u es) (putN (atName k) es m)):=by
  rw[Heap.get?_update_self _ g' (by refine e'.symm▸?_;rfl),e']
 haveI hm:=List.mem_of_getElem? hi;haveI hF':=mn (t:=s.toks+1) (hsh:=hsh) h1 hu hF;exact hq _ (R.setCell hi sb ⟨_,_,D',hF'.imp fun v d x=>x.update R hm sb,by haveI:=jj k d fs;exact aC 0x2221cc100001110200011cc11011 rt hl this⟩) (.update hm (R.vM hi h0) sb ((D'.symm▸(fun q=>nomatch q))))
theorem aj.set{Z σ:List Addr}{h:Heap}{l:List Value}{ds:List V}(H:aj Z σ h l ds)(j:Nat){v:Value}{d:V}(hv:VR Z σ h v d):aj Z σ h (l.set j v) (ds.set j d):=
 ⟨by simp[H.1],fun i u e e1 e2=>by
  by_cases hj:j=i
  ·subst hj
   have hi:j<l.length:=by haveI:=(cN e1);simpa using this
   rw[List.getElem?_set_self hi]at e1;rw[List.getElem?_set_self (H.1▸hi)]at e2
   obtain rfl:=cU e1;obtain rfl:=cU e2;exact hv
  ·rw[List.getElem?_set_ne hj]at e1 e2
   exact H.2 i u e e1 e2⟩
theorem qa{st:St}(R:Rel base Z σ st s.heap)(hv:VR Z σ s.heap v (.lst a))(hy:VR Z σ s.heap y (.int k))(hs:st[a]? =some (.list vs))
  (hj:idx k vs.length=some j) (h0:a≠0) (hu:VR Z σ s.heap u d) {E:Value→Shared→Prop} (hq:∀s',Rel base Z σ (st.set a (.list (vs.set j d))) s'.heap→Ext [] σ s σ s'→Q () s'):
  wpAny (model prog w) A (setItem v y u) Q E s:=by
 refine R.cw hv hs fun ad l m rH hi g hA hl=>?_;subst rH
 (refine bx hy fun _ zR=>?_;subst zR)
 refine zp (ub hj hl) fun h1 h2 h3 h4=>?_
 have fin:∀(f:Array Value→Array Value),f (List.toArray l)=List.toArray (l.set j u)→Q () {s with heap:=s.heap.update ad (Obj.mapSeq f)}:=fun f hf=>by
  refine gP fun GP kP=>?_;obtain⟨m4,e4⟩:=eD f (List.toArray l) m
  obtain⟨R3,X3⟩:=R.updateList (tk:=s.toks) (W:=[]) (h':=s.heap.update ad (Obj.mapSeq f)) (l:=l.set j u) (ds:=vs.set j d) (m:=m4) hi h0 (Heap.SameBut.update ..)
   (by rw[Heap.get?_update_self _ g rfl,e4,hf]) (hA.set j hu) (by simpa using hl)
  refine kP ?_;exact hq _ R3 X3
 rcases h2 with⟨a1,a2,a3⟩|⟨a1,a2,a3⟩
 ·refine ki_setAt g a1 h4 (by rw[List.size_toArray,hA.1];exact a3) (fin _ ?_)
  rw[a2];simp
 ·refine ki_setBack g a1 (by rw[List.size_toArray,hA.1];exact a2) h3 (fin _ ?_)
  rw[List.size_toArray,hA.1,a3];simp
def Zb(Z σ:List Addr)(h:Heap)(f:Flow):Fl→Prop
 |.next=>f=.next
 |.cont=>f=.cont
 |.ret d=>∃v,f=.ret v∧VR Z σ h v d
end
section
open PyProof.Rows PySem PySem.Calls PySem.W
variable(prog:Program)(w:World)(K:Frag)(base:Heap)(P:Pg)(call:bj)(n:Nat)(sc:List (Str×NameKind))
def df(b:Stmt)(b':S):Prop:=∀{env:Env} {A:Around} {Z σ:List Addr} {s:Shared} {loc bB:Loc} {st af:St} {fl:Fl} {Q:Flow→Shared→Prop} {E:Value→Shared→Prop},
 Ok A n→bl env sc→Rel base Z σ st s.heap→FS base Z σ s.heap env sc loc→ex P call b' loc st=some (fl,bB,af)→
 (∀σ' f s',Zb Z σ' s'.heap f fl→Rel base Z σ' af s'.heap→FS base Z σ' s'.heap env sc bB→Ext (aq env sc) σ s σ' s'→Q f s')→wpAny (model prog w) A (exec b env) Q E s
def kz(b:List Stmt)(b':S):Prop:=∀{env:Env} {A:Around} {Z σ:List Addr} {s:Shared} {loc bB:Loc} {st af:St} {fl:Fl} {Q:Flow→Shared→Prop} {E:Value→Shared→Prop},
 Ok A n→bl env sc→Rel base Z σ st s.heap→FS base Z σ s.heap env sc loc→ex P call b' loc st=some (fl,bB,af)→
 (∀σ' f s',Zb Z σ' s'.heap f fl→Rel base Z σ' af s'.heap→FS base Z σ' s'.heap env sc bB→Ext (aq env sc) σ s σ' s'→Q f s')→wpAny (model prog w) A (execs b env) Q E s
end
section
open PyProof.Rows PySem PySem.Calls PySem.W
variable{prog:Program}{w:World}{K:Frag}{base:Heap}{P:Pg}{call:bj}{n:Nat}{sc:List (Str×NameKind)}
theorem aP(b:Stmt):df prog w base P call n sc b .stuck:=fun _ _ _ _ h _=>by injection h
theorem uk(b:List Stmt):kz prog w base P call n sc b .stuck:=fun _ _ _ _ h _=>by injection h
theorem Ak:kz prog w base P call n sc [] .skip:=fun {env A Z σ s loc bB st af fl Q E} ok eo R F h hq=>by
 refine gP fun GP kQ=>?_;simp[YQ]at h;refine jZ h fun Jp eq1 eq2=>?_;try clear h;obtain rfl:=Jp;obtain rfl:=eq1;obtain rfl:=eq2
 refine kQ ?_;exact wpAny_execs_nil (hq σ _ s rfl R F (.refl _ _ _))
theorem xW{b:Stmt}{r:List Stmt}{b' r':S}(HB:df prog w base P call n sc b b')(HR:kz prog w base P call n sc r r'):kz prog w base P call n sc (b::r) (.seq b' r'):=
 fun {env A Z σ s loc bB st af fl Q E} ok eo R F h hq=>by
 refine bT h fun fl1 Ez st1 h1 h2=>?_;clear h;refine wpAny_execs_cons (HB ok eo R F h1 fun σ1 f s1 Y1 R1 F1 X1=>?_);cases fl1 with
 |next=>
  subst Y1;exact HR ok eo R1 F1 h2 fun σ2 f s2 Y2 R2 F2 X2=>hq σ2 f s2 Y2 R2 F2 (X1.trans X2)
 |cont=>
  subst Y1
  (obtain⟨rfl,rfl,rfl⟩:=Le h2)
  exact hq σ1 _ s1 rfl R1 F1 X1
 |ret d=>
  refine gP fun GP pI=>?_;obtain⟨v,rfl,hv⟩:=Y1
  (obtain⟨rfl,rfl,rfl⟩:=Le h2)
  refine pI ?_;exact hq σ1 _ s1 ⟨v,rfl,hv⟩ R1 F1 X1
theorem xX{pos:Pos}:df prog w base P call n sc (.Pass pos) .skip:=fun {env A Z σ s loc bB st af fl Q E} ok eo R F h hq=>by
 refine gP fun GP kQ=>?_;simp[YQ]at h;refine jZ h fun Jp eq1 eq2=>?_;try clear h;obtain rfl:=Jp;obtain rfl:=eq1;obtain rfl:=eq2
 refine kQ ?_;exact wpAny_bind (wpAny_standAt (wpAny_pure (hq σ _ s rfl R F (.refl _ _ _))))
theorem xY{pos:Pos}:df prog w base P call n sc (.Continue pos) .cont:=fun {env A Z σ s loc bB st af fl Q E} ok eo R F h hq=>by
 refine gP fun GP kQ=>?_;simp[YS]at h;refine jZ h fun Jp eq1 eq2=>?_;try clear h;obtain rfl:=Jp;obtain rfl:=eq1;obtain rfl:=eq2
 refine kQ ?_;exact wpAny_bind (wpAny_standAt (wpAny_pure (hq σ _ s rfl R F (.refl _ _ _))))
theorem xZ(eo:bl env sc):interactive env=false:=by
 dsimp only[interactive];refine(eo.kind).symm▸?_;rfl
theorem Ext.ek{W σ σ':List Addr}{s s':Shared}(X:Ext [] σ s σ' s'):Ext W σ s σ' s':=X.aN fun a h=>nomatch h
theorem ya(he:∃f as ks p,e=.Call f as ks p)(H:av prog w base P call n sc e e'):df prog w base P call n sc (.Expr e pos) (.expr e'):=
 fun {env A Z σ s loc bB st af fl Q E} ok eo R F h hq=>by
 refine mP h fun v st1 h1 e=>?_;dsimp only at e;cases e;refine vg he fun f as ks p eq4=>?_;try clear he;obtain rfl:=eq4
 exact wpAny_Expr_any (H ok eo R F h1 fun σ1 v1 s1 R1 V1 X1=>hq σ1 _ s1 rfl R1 (F.ext R X1) X1.ek) (xZ eo) rfl
theorem Al(H:av prog w base P call n sc e e'):df prog w base P call n sc (.Return (some e) pos) (.ret e'):=
 fun {env A Z σ s loc bB st af fl Q E} ok eo R F h hq=>by
 refine mP h fun v st1 h1 e=>?_;dsimp only at e;cases e;exact wpAny_Return_some (H ok eo R F h1 fun σ1 v1 s1 R1 V1 X1=>hq σ1 _ s1 ⟨_,rfl,V1⟩ R1 (F.ext R X1) X1.ek)
theorem yb:df prog w base P call n sc (.Return none pos) (.ret (.cst .none)):=
 fun {env A Z σ s loc bB st af fl Q E} ok eo R F h hq=>by
 obtain⟨rfl,rfl,rfl⟩:=Le (a:=Fl.ret .none) (s:=loc) (x:=st) h;exact wpAny_Return_none (hq σ _ s ⟨_,rfl,.zK⟩ R F (.refl _ _ _))
theorem EA{t:Expr}{b r:List Stmt}{t':E}{b' r':S}{pos:Pos}(HT:cu prog w base P call n sc t t')(HB:kz prog w base P call n sc b b')(HR:kz prog w base P call n sc r r'):df prog w base P call n sc (.If t b r pos) (.ite t' b' r'):=
 fun {env A Z σ s loc bB st af fl Q E} ok eo R F h hq=>by
 refine bP h fun c st1 h1 h2=>?_;dsimp only at h2;refine wpAny_If (HT ok eo R F h1 fun σ1 s1 R1 X1=>?_);cases c with
 |true=>exact HB ok eo R1 (F.ext R X1) h2 fun σ2 f s2 Y2 R2 F2 X2=>hq σ2 f s2 Y2 R2 F2 (X1.ek.trans X2)
 |false=>exact HR ok eo R1 (F.ext R X1) h2 fun σ2 f s2 Y2 R2 F2 X2=>hq σ2 f s2 Y2 R2 F2 (X1.ek.trans X2)
theorem mq{t e:Expr}{p:cD}{e':E}{pos:Pos}(hs:∀env,bl env sc→swapsWithSole [t] e pos.line env=pure false)(hw:∀env,bl env sc→swappedStores [t] e env=pure none)(HP:gw prog w base sc t p)(H:av prog w base P call n sc e e')
  (ht:∀env,assignEach [t] env=[(false,assign t env)]):
  df prog w base P call n sc (.Assign [t] e pos) (.asg p e'):=fun {env A Z σ s loc bB st af fl Q E} ok eo R F h hq=>by
 refine gP fun GP kQ=>?_;refine bP h fun v st1 h1 h=>mO h fun l1 h2 e=>?_;clear h;cases e;refine kQ ?_;rw[exec_Assign_arm,hs env eo,hw env eo];refine wpAny_bind (wpAny_standAt (wpAny_bind (wpAny_pure ?_)));refine wpAny_bind (H ok eo R F h1 fun σ1 v1 s1 R1 V1 X1=>wpAny_bind (wpAny_pure ?_));refine(ht env).symm▸?_;refine wpAny_bind ?_;exact HP ok.1 eo R1 (F.ext R X1) V1 h2 fun s2 R2 F2 X2=>wpAny_pure (hq σ1 _ s2 rfl R2 F2 (X1.ek.trans X2))
theorem qb(hs:∀env,swapsWithSole [.Tuple es k tp] e pos.line env=pure false)(hw:∀env,bl env sc→swappedStores [.Tuple es k tp] e env=pure (some xs))
  (hk:slotsOf sc xs.reverse=some ks.reverse) (hl:xs.length=ks.length) (H:av prog w base P call n sc e e'):
  df prog w base P call n sc (.Assign [.Tuple es k tp] e pos) (.asg (.du ks) e'):=fun {env A Z σ s loc bB st af fl Q E} ok eo R F h hq=>by
 refine gP fun GP kQ=>?_;refine bP h fun v st1 h1 h=>mO h fun l1 h2 e=>?_;clear h;cases e;refine lQ h2 fun ds eq1 hlen h3=>?_;clear h2;obtain rfl:=eq1;refine kQ ?_;refine Assign_Tuple_swapped (H ok eo R F h1 fun σ1 v1 s1 R1 V1 X1=>?_) (hs env) (hw env eo);refine V1.cC fun a l eq2 ht HS kK=>?_;obtain rfl:=eq2;have hn:xs.length=(List.toArray l).size:=by simp only[List.size_toArray,HS.1,hlen,hl]
 refine hn.symm▸?_;refine unpackItems_tuple ok.1 ht fun h' fU=>?_;haveI k:=mj (W:=[]) fU;haveI F1:=F.ext R X1;refine mh (s:={s1 with heap:=h'}) eo (.bind xs.reverse) hk h3 (R1.of_keep k) (F1.of_keep R1 k) ?_ fun s' R' F' X'=>hq σ1 _ s' rfl R' F' (X1.ek.trans ((Ext.of_keep (tk:=s1.toks) k).trans X'));haveI:=(HS.imp fun v d h=>VR.of_keep k h).reverse;exact this
theorem qc(g:Gd K base)(hc:∀C c,P.cls.lookup C=some c→dd K C c)
  (HO:av prog w base P call n sc o o') (H:av prog w base P call n sc e e'):df prog w base P call n sc (.Assign [.Attribute o (atName k) p] e pos) (.setattr o' k e'):=
 fun {env A Z σ s loc bB st af fl Q E} ok eo R F h hq=>by
 refine bP ((YR ..).symm.trans h) fun v st1 h1 h=>bP h fun x ak h2 h3=>?_;dsimp only at h3;revert h2;refine ML (x:=x) h3 ?_;intro C i c fs ru fV h3 h2;refine dk h3 fun hk h3=>?_
 ·(obtain⟨rfl,rfl,rfl⟩:=Le h3)
  haveI hs:swapsWithSole [.Attribute o (atName k) p] e pos.line env=pure false:=by
   cases e<;>rfl
  rw[exec_Assign_arm,hs];refine wpAny_bind (wpAny_standAt (wpAny_bind (wpAny_pure ?_)));refine wpAny_bind (H ok eo R F h1 fun σ1 v1 s1 R1 V1 X1=>?_);refine wpAny_bind (wpAny_pure ?_);refine wpAny_bind ?_;haveI F1:=F.ext R X1;refine wpAny_bind (wpAny_holding (HO ok eo R1 F1 h2 fun σ2 v2 s2 R2 V2 X2=>wpAny_bind (wpAny_standAt (wpAny_bind (wpAny_holding ?_)))));refine Aj g R2 (hc C c ru) V2 fV hk.1 hk.2.1 hk.2.2 (VR.ext R1 X2 jM V1) fun s3 R3 X3=>hG (wpAny_pure ?_);exact hq σ2 _ s3 rfl R3 ((F1.ext R1 X2).ext R2 X3) ((X1.trans X2).trans X3).ek
theorem qd(hi:∀a b c p,i≠.Slice a b c p)
  (HO:av prog w base P call n sc o o') (HI:av prog w base P call n sc i i') (H:av prog w base P call n sc e e'):df prog w base P call n sc (.Assign [.Subscript o i p] e pos) (.setitem o' i' e'):=
 fun {env A Z σ s loc bB st af fl Q E} ok eo R F h hq=>by
 refine bP h fun v st1 h1 h=>bP h fun x ak h2 h=>bP h fun y cO h3 h4=>?_;dsimp only at h4;revert h2 h3;refine siE (x:=x) (y:=y) h4 ?_;intro a k vs j fV hj h0 h4 h2 h3
 ·(obtain⟨rfl,rfl,rfl⟩:=Le h4)
  haveI hs:swapsWithSole [.Subscript o i p] e pos.line env=pure false:=by
   cases e<;>rfl
  rw[exec_Assign_arm,hs];refine wpAny_bind (wpAny_standAt (wpAny_bind (wpAny_pure ?_)));refine wpAny_bind (H ok eo R F h1 fun σ1 v1 s1 R1 V1 X1=>?_);refine wpAny_bind (wpAny_pure ?_);refine wpAny_bind ?_;have F1:=F.ext R X1;refine wpAny_bind (wpAny_holding (HO ok eo R1 F1 h2 fun σ2 v2 s2 R2 V2 X2=>wpAny_bind (wpAny_holding ?_)));haveI F2:=F1.ext R1 X2;refine HI ok eo R2 F2 h3 fun σ3 v3 s3 R3 V3 X3=>wpAny_bind (wpAny_standAt (wpAny_bind (wpAny_holding ?_)));refine qa R3 (VR.ext R2 X3 jM V2) V3 fV hj h0 (VR.ext R1 (X2.trans X3) jM V1) fun s4 R4 X4=>hG (wpAny_pure ?_);exact hq σ3 _ s4 rfl R4 ((F2.ext R2 X3).ext R3 X4) (((X1.trans X2).trans X3).trans X4).ek
theorem um{t:Expr}{b:List Stmt}{t':E}{b':S}{pos:Pos}(HT:cu prog w base P call n sc t t')(HB:kz prog w base P call n sc b b'):df prog w base P call n sc (.While t b [] pos) (.pJ t' b'):=
 fun {env A Z σ s loc bB st af fl Q E} ok eo R F h hq=>by
 refine mP h fun l1 st1 h1 e=>?_;clear h;cases e;refine wpAny_While (codeAny_whileLoop (fun k s1=>∃σ1 Ez st1,bR (fun l st=>dA (ev P call t' l st)) (ex P call b') k Ez st1=some (bB,af)∧Rel base Z σ1 st1 s1.heap∧FS base Z σ1 s1.heap env sc Ez∧Ext (aq env sc) σ s σ1 s1) ?_ 1000 ⟨σ,loc,st,h1,R,F,.refl _ _ _⟩);rintro k s1 ⟨σ1,Ez,st1,g1,R1,F1,X1⟩;cases k with
 |zero=>injection g1
 |succ k=>
  refine bP g1 fun c ak g2 g3=>?_;clear g1;refine HT ok eo R1 F1 g2 fun σ2 s2 R2 X2=>?_;cases c with
  |false=>
   obtain⟨rfl,rfl⟩:=g3;exact wpAny_execs_nil (hq σ2 _ s2 rfl R2 (F1.ext R1 X2) (X1.trans X2.ek))
  |true=>
   dsimp only[if_true];refine bT g3 fun fl l2 cO g4 g5=>?_;dsimp only at g5;refine HB ok eo R2 (F1.ext R1 X2) g4 fun σ3 f s3 Y3 R3 F3 X3=>?_;haveI X:=(X1.trans X2.ek).trans X3;cases fl with
   |next=>cases Y3;exact⟨k,Nat.lt_succ_self _,σ3,l2,cO,g5,R3,F3,X⟩
   |cont=>cases Y3;exact⟨k,Nat.lt_succ_self _,σ3,l2,cO,g5,R3,F3,X⟩
   |ret d=>(exact bX g5)
end
section
open PyProof.Rows PySem PySem.Calls PySem.W
structure za(prog:Program)(w:World)(base:Heap)(it:Value)(tgt:Option Expr)(gs:List (Nat×List V))(new:List Addr)(S:List Addr→List V→List Addr→Heap→Prop):Prop where
 keep:∀{Z:List Addr} {rem:List V} {σ σ' W:List Addr} {s s':Shared} {st:St},(∀a∈new,a∈Z)→S Z rem σ s.heap→Rel base Z σ st s.heap→Ext W σ s σ' s'→(∀a∈W,a∉new)→
  (∀a∈W,a∈Z∨(∃c,s.heap.IsCell a c)∨(∃m,s.heap.Ns a m)∨s.heap.get? a=none)→S Z rem σ' s'.heap
 widen:∀{Z more:List Addr} {rem:List V} {σ:List Addr} {h h':Heap},S Z rem σ h→(∀b o,h.get? b=some o→h'.get? b=some o)→(∀a∈more,h.get? a=none)→S (more++Z) rem σ h'
 next:∀{Z:List Addr} {A:Around} {rem:List V} {d:V} {σ:List Addr} {s:Shared} {st:St} {Q:Option Value→Shared→Prop} {E:Value→Shared→Prop},(∀a∈new,a∈Z)→A.handled=none→S Z (d::rem) σ s.heap→Rel base Z σ st s.heap→au gs st→
  (∀v s1,(∀{Q':Unit→Shared→Prop} {E':Value→Shared→Prop},(∀s2,Rel base Z σ st s2.heap→VR Z σ s2.heap v d→S Z rem σ s2.heap→Ext new σ s σ s2→Q' () s2)→
    (match tgt with|some t=>wpAny (model prog w) A (letOwnedTupleGo t it v) Q' E' s1|none=>Q' () s1))→Q (some v) s1)→
  wpAny (model prog w) A (pyNext it) Q E s
 stop:∀{Z Z':List Addr} {A:Around} {σ:List Addr} {s:Shared} {st:St} {Q:Option Value→Shared→Prop} {E:Value→Shared→Prop},(∀a∈new,a∈Z)→(∀a∈Z',a∈Z)→(∀a∈new,a∉Z')→A.handled=none→S Z [] σ s.heap→Rel base Z σ st s.heap→au gs st→
  (∀s1,Rel base Z' σ st s1.heap→(∀v d,VR Z σ s.heap v d→VR Z' σ s1.heap v d)→Ext new σ s σ s1→Q none s1)→wpAny (model prog w) A (pyNext it) Q E s
 again:∀{Z:List Addr} {A:Around} {rem:List V} {σ:List Addr} {s:Shared} {Q:Value→Shared→Prop} {E:Value→Shared→Prop},S Z rem σ s.heap→Q it s→wpAny (model prog w) A (pyIter it) Q E s
end
section
open PyProof.Rows PySem PySem.Calls PySem.W
variable{prog:Program}{w:World}{K:Frag}{base:Heap}{P:Pg}{call:bj}{n:Nat}{sc:List (Str×NameKind)}
variable{Z σ:List Addr}{st:St}{s:Shared}{env:Env}{loc:Loc}
def dO(W:List Addr)(h h':Heap):Prop:=∀b o,b∉W→h.get? b=some o→h'.get? b=some o
theorem Ext.Am{h':Heap}{W:List Addr}{tk:Nat}(sb:dO W s.heap h'):Ext W σ s σ {s with heap:=h',toks:=tk} where
 pre:=List.prefix_refl _
 new:=fun i a h e=>by haveI e:=(List.getElem?_eq_none h)▸e;(exact bX e)
 keep:=fun b o e h1 h2=>sb b o h2 e
 iJ:=fun b o _ h2 e=>sb b o h2 e
 live:=fun b hb e=>by
  refine iG (s.heap.get? b) (fun q=>?_) fun o q=>?_
  ·exact absurd q e
  ·show h'.get? b≠none;exact((sb b o hb q).symm▸(fun q=>nomatch q))
 gens:=rfl
 os:=rfl
theorem Rel.d9{h':Heap}{W:List Addr}{tk:Nat}(R:Rel base Z σ st s.heap)(hI:∀a∈W,a∈Z)(hl:∀a∈W,h'.get? a≠none)(sb:dO W s.heap h'):Rel base Z σ st h'∧Ext W σ s σ {s with heap:=h',toks:=tk}:=by
 haveI X:Ext W σ s σ {s with heap:=h',toks:=tk}:=.Am sb;refine⟨R.ext (s':={s with heap:=h',toks:=tk}) X (fun a ha=>.inl (hI a ha)) (fun a ha=>R.bW _ (hI a ha)) (fun a ha o e=>?_) (fun a ha _=>hl a ha),X⟩;exact sb a o (fun q=>R.apart a ha (hI a q)) e
theorem VR.d9{h':Heap}{W:List Addr}(R:Rel base Z σ st s.heap)(hI:∀a∈W,a∈Z)(sb:dO W s.heap h'){v:Value}{d:V}(H:VR Z σ s.heap v d):VR Z σ h' v d:=
 VR.ext (s':={s with heap:=h'}) R (.Am (tk:=s.toks) sb) (fun a ha=>.inl (hI a ha)) H
theorem Rel.leave{h':Heap}{W Z':List Addr}{tk:Nat}(R:Rel base Z σ st s.heap)(hI:∀a∈W,a∈Z)(hs:∀a∈Z',a∈Z)(hd:∀a∈W,a∉Z')(sb:dO W s.heap h'):
  Rel base Z' σ st h'∧(∀v d,VR Z σ s.heap v d→VR Z' σ h' v d)∧Ext W σ s σ {s with heap:=h',toks:=tk}:=by
 have vr:∀v d,VR Z σ s.heap v d→VR Z' σ h' v d:=fun v d H=>(VR.d9 R hI sb H).weaken fun a _ hz q=>hz (hs a q);refine⟨?_,vr,.Am sb⟩
 exact{
  keep:=fun b o e=>sb b o (fun q=>by haveI:=R.bW b (hI b q);replace this:=e▸this;cases this) (R.keep b o e)
  len:=R.len
  nd:=R.nd
  fresh:=R.fresh
  apart:=fun a ha q=>R.apart a ha (hs a q)
  alive:=fun a ha=>by
   refine iG (s.heap.get? a) (fun q=>?_) fun o q=>?_
   ·exact absurd q (R.alive a (hs a ha))
   ·exact((sb a o (fun q=>hd a q ha) q).symm▸(fun q=>nomatch q))
  bW:=fun a ha=>R.bW a (hs a ha)
  cell:=fun i c a e1 e2=>by
   haveI C:=R.cell i c a e1 e2;haveI hm:=List.mem_of_getElem? e2;haveI hk:∀o,s.heap.get? a=some o→h'.get? a=some o:=fun o e=>sb a o (fun q=>R.apart a hm (hI a q)) e;cases c with
   |list ds=>obtain⟨l,m,g,H,hl⟩:=C;exact⟨l,m,hk _ g,H.imp vr,hl⟩
   |inst fs=>obtain⟨l,m,g,H,hn⟩:=C;exact⟨l,m,hk _ g,H.imp vr,hn⟩}
theorem VR.enter{h h':Heap}{new:List Addr}(k:∀b o,h.get? b=some o→h'.get? b=some o)(hd:∀a∈new,h.get? a=none){v:Value}{d:V}(H:VR Z σ h v d):VR (new++Z) σ h' v d:=
 (H.weaken fun a ha hz q=>(List.mem_append.mp q).elim (fun q=>ha (hd a q)) hz).of_keep k
theorem Rel.enter{h':Heap}{new:List Addr}(R:Rel base Z σ st s.heap)(k:∀b o,s.heap.get? b=some o→h'.get? b=some o)(hd:∀a∈new,s.heap.get? a=none)(hl:∀a∈new,h'.get? a≠none):Rel base (new++Z) σ st h' where
 keep:=fun b o e=>k b o (R.keep b o e)
 len:=R.len
 nd:=R.nd
 fresh:=R.fresh
 apart:=fun a ha q=>(List.mem_append.mp q).elim (fun q=>(R.free (hd a q)).1 ha) (R.apart a ha)
 alive:=fun a ha=>(List.mem_append.mp ha).elim (hl a) fun q=>by
  refine iG (s.heap.get? a) (fun e=>?_) fun o e=>?_
  ·exact absurd e (R.alive a q)
  ·exact((k a o e).symm▸(fun q=>nomatch q))
 bW:=fun a ha=>(List.mem_append.mp ha).elim (fun q=>(R.free (hd a q)).2.2) (R.bW a)
 cell:=fun i c a e1 e2=>by
  haveI C:=R.cell i c a e1 e2;cases c with
  |list ds=>obtain⟨l,m,g,H,hl⟩:=C;exact⟨l,m,k _ _ g,H.imp fun v d x=>x.enter k hd,hl⟩
  |inst fs=>obtain⟨l,m,g,H,hn⟩:=C;exact⟨l,m,k _ _ g,H.imp fun v d x=>x.enter k hd,hn⟩
theorem drop_cons{α:Type}{l:List α}{d:α}{r:List α}(h:d::r=l.drop i):l[i]? =some d∧r=l.drop (i+1):=by
 haveI h1:(l.drop i)[0]? =some d:=by rw[←h];rfl
 refine⟨by simpa using h1,?_⟩;haveI h2:(l.drop i).drop 1=r:=by refine h▸?_;rfl
 simp only[←h2,List.drop_drop]
theorem drop_nil{α:Type}{l:List α}(h:[]=l.drop i):l.length≤i:=by
 haveI:=congrArg List.length h;simp at this;exact aO 0x2211210211211100000001020220010060120210001671200121 rt this (bE _ _)
theorem bC{I:Addr}(sb:Heap.ExtBut I h h'):dO [I] h h':=fun b o hb e=>sb b o (fun q=>hb (q▸List.mem_cons_self ..)) e
inductive HU(l:Nat)(vs:List V)(I:Addr)(Z:List Addr)(rem:List V)(σ:List Addr)(h:Heap):Prop
 |mk(a)(i)(p1:σ[l]? =some a)(p2:h.IsListIter I a i)(p3:rem=vs.drop i):HU l vs I Z rem σ h
theorem An:za prog w base (.ref I) tgt [(l,vs)] [I] (HU l vs I) where
 keep:=fun {Z rem σ σ' W s s' st} hI H R X hW hk=>by
  obtain⟨a,i,h1,⟨o,h2,HV⟩,h3⟩:=H;exact⟨a,i,cq X.pre h1,⟨o,X.keep _ _ h2 (fun q=>R.apart _ q (hI I (List.mem_cons_self ..))) (fun q=>hW _ q (List.mem_cons_self ..)),HV⟩,h3⟩
 widen:=fun {Z more rem σ h h'} H k _=>by
  obtain⟨a,i,h1,⟨o,h2,HV⟩,h3⟩:=H;exact⟨a,i,h1,⟨o,k _ _ h2,HV⟩,h3⟩
 next:=fun {Z A rem d σ s st Q E} hI hA H R gk hq=>by
  refine gP fun GP kP=>?_;obtain⟨a,i,h1,h2,h3⟩:=H;haveI h4:=(drop_cons h3).1;haveI h5:=(drop_cons h3).2;haveI fV:st[l]? =some (.list vs):=gk (l,vs) (List.mem_cons_self ..);obtain⟨ll,m,g,rJ,hl⟩:=R.cell _ _ _ fV h1;refine rJ.jb h4 fun v e hv=>?_;refine kP ?_;refine wpAny_pyNext_list_item h2 (aL g) (by simpa using e) fun h' hit sb=>hq v _ fun {Q' E'} tO=>?_;haveI kK:∀a∈[I],h'.get? a≠none:=fun a ha=>by simp at ha;cases ha;obtain⟨o,e,_⟩:=hit;exact(e.symm▸(fun q=>nomatch q))
  haveI R':=(R.d9 (tk:=s.toks) hI kK (bC sb.extBut)).1;haveI X':=(R.d9 (tk:=s.toks) hI kK (bC sb.extBut)).2;have fin:Q' () {s with heap:=h'}:=tO {s with heap:=h'} R' (hv.d9 R hI (bC sb.extBut)) ⟨a,i+1,h1,hit,h5⟩ X';cases tgt with
  |none=>exact fin
  |some t=>exact letGo_listiter hit fin
 stop:=fun {Z Z' A σ s st Q E} hI hs hd hA H R gk hq=>by
  refine gP fun GP kP=>?_;obtain⟨a,i,h1,h2,h3⟩:=H;haveI fV:st[l]? =some (.list vs):=gk (l,vs) (List.mem_cons_self ..);obtain⟨ll,m,g,rJ,hl⟩:=R.cell _ _ _ fV h1;haveI hi:=drop_nil h3;refine kP ?_;refine wpAny_pyNext_list_end hA h2 (aL g) (by simpa [rJ.1]using hi) fun h' sb=>?_;refine jZ (R.leave (tk:=s.toks) hI hs hd (bC sb)) fun R' tr X'=>?_;exact hq {s with heap:=h'} R' tr X'
 again:=fun {Z A rem σ s Q E} H hq=>by
  obtain⟨a,i,h1,h2,h3⟩:=H;exact wpAny_pyIter_listiter h2 hq
inductive Jq(vs:List V)(I:Addr)(Z:List Addr)(rem:List V)(σ:List Addr)(h:Heap):Prop
 |mk(a)(l)(i)(p1:IsTupIter h I a i)(p2:VR Z σ h (.ref a) (.tup vs))(p3:IsTup h a (List.toArray l))(p4:aj Z σ h l vs)(p5:rem=vs.drop i):Jq vs I Z rem σ h
theorem IsTup.ext{σ':List Addr}{s':Shared}{W:List Addr}(R:Rel base Z σ st s.heap)(X:Ext W σ s σ' s')(hW:∀a∈W,a∈Z∨(∃c,s.heap.IsCell a c)∨(∃m,s.heap.Ns a m)∨s.heap.get? a=none){a:Addr}{vs:List V}{l:List Value}
  (hv:VR Z σ s.heap (.ref a) (.tup vs)) (ht:IsTup s.heap a (List.toArray l)):IsTup s'.heap a (List.toArray l):=by
 obtain⟨o,h1,h2,m,h3⟩:=ht;have hz:a∉Z:=by cases hv with|tup hz _ _ _ _=>exact hz
 refine⟨o,X.keep _ _ h1 (fun q=>?_) (fun q=>?_),h2,m,h3⟩
 ·refine R.dS q fun o' g M0=>?_;obtain⟨l',m',rfl⟩|⟨l',m',rfl⟩:=M0
  ·rw[h1]at g;obtain rfl:=cU g;haveI h2:Value.type "list"=Value.type "tuple":=h2;exact nomatch h2
  ·rw[h1]at g;obtain rfl:=cU g;haveI h2:Value.type "dict"=Value.type "tuple":=h2;exact nomatch h2
 ·rcases hW a q with h|⟨c,o',g,hd⟩|⟨m',o',es,ep,g,hd,_⟩|h
  ·exact hz h
  ·replace g:=h1▸g;obtain rfl:=cU g;replace hd:=h3▸hd;cases hd
  ·haveI g:=h1▸g;obtain rfl:=cU g;replace hd:=h3▸hd;cases hd
  ·replace h:=h1▸h;cases h
theorem EB:za prog w base (.ref I) tgt [] [I] (Jq vs I) where
 keep:=fun {Z rem σ σ' W s s' st} hI H R X hW hk=>by
  refine gP fun GP kQ=>?_;obtain⟨a,l,i,⟨o,h2,HV⟩,hv,ht,hA,h3⟩:=H;refine kQ ?_;exact⟨a,l,i,⟨o,X.keep _ _ h2 (fun q=>R.apart _ q (hI I (List.mem_cons_self ..))) (fun q=>hW _ q (List.mem_cons_self ..)),HV⟩,hv.ext R X hk,IsTup.ext R X hk hv ht,hA.imp fun v d x=>x.ext R X hk,h3⟩
 widen:=fun {Z more rem σ h h'} H k hd=>by
  obtain⟨a,l,i,⟨o,h2,HV⟩,hv,⟨o',ht,ht'⟩,hA,h3⟩:=H;exact⟨a,l,i,⟨o,k _ _ h2,HV⟩,hv.enter k hd,⟨o',k _ _ ht,ht'⟩,hA.imp fun v d x=>x.enter k hd,h3⟩
 next:=fun {Z A rem d σ s st Q E} hI hA H R gk hq=>by
  refine gP fun GP kP=>?_;obtain⟨a,l,i,h2,hv,ht,rJ,h3⟩:=H;haveI h4:=(drop_cons h3).1;haveI h5:=(drop_cons h3).2;refine rJ.jb h4 fun v e hvv=>?_;refine kP ?_;refine next_tuple_item h2 ht (by simpa using e) fun h' hit sb=>hq v _ fun {Q' E'} tO=>?_;haveI kK:∀a∈[I],h'.get? a≠none:=fun a ha=>by simp at ha;cases ha;obtain⟨o,e,_⟩:=hit;exact(e.symm▸(fun q=>nomatch q))
  haveI hb:=bC sb.extBut;haveI R':=(R.d9 (tk:=s.toks) hI kK hb).1;haveI X':=(R.d9 (tk:=s.toks) hI kK hb).2
  have fin:Q' () {s with heap:=h'}:=tO {s with heap:=h'} R' (hvv.d9 R hI hb)
   ⟨a,l,i+1,hit,hv.d9 R hI hb,IsTup.ext R X' (fun a ha=>.inl (hI a ha)) hv ht,rJ.imp fun v d x=>x.d9 R hI hb,h5⟩ X'
  cases tgt with
  |none=>exact fin
  |some t=>exact letGo_tupleiter hit fin
 stop:=fun {Z Z' A σ s st Q E} hI hs hd hA H R gk hq=>by
  obtain⟨a,l,i,h2,hv,ht,rJ,h3⟩:=H;haveI hi:=drop_nil h3;refine next_tuple_end hA h2 ht (by simpa [rJ.1]using hi) fun h' sb=>?_;refine jZ (R.leave (tk:=s.toks) hI hs hd (bC sb)) fun R' tr X'=>?_;exact hq {s with heap:=h'} R' tr X'
 again:=fun {Z A rem σ s Q E} H hq=>by
  obtain⟨a,l,i,h2,_⟩:=H;exact wpAny_pyIter_tupleiter h2 hq
inductive Jr(I:Addr)(Z:List Addr)(rem:List V)(σ:List Addr)(h:Heap):Prop
 |mk(x)(left)(c)(p1:IsRangeIter h I x left c)(p2:rem=aD x c left.toNat):Jr I Z rem σ h
theorem EC:za prog w base (.ref I) tgt [] [I] (Jr I) where
 keep:=fun {Z rem σ σ' W s s' st} hI H R X hW hk=>by
  obtain⟨x,left,c,h2,h3⟩:=H;exact⟨x,left,c,X.keep _ _ h2 (fun q=>R.apart _ q (hI I (List.mem_cons_self ..))) (fun q=>hW _ q (List.mem_cons_self ..)),h3⟩
 widen:=fun {Z more rem σ h h'} H k hd=>by
  obtain⟨x,left,c,h2,h3⟩:=H;exact⟨x,left,c,k _ _ h2,h3⟩
 next:=fun {Z A rem d σ s st Q E} hI hA H R gk hq=>by
  obtain⟨x,left,c,h2,h3⟩:=H;cases hn:left.toNat with
  |zero=>haveI h3:=hn▸h3;cases h3
  |succ m=>
   replace h3:=hn▸h3;cases h3;refine wpAny_pyNext_range_item h2 (fZ 0x212121021210001400000750001360100201004671111020021 rt hn (iq _)) fun h' hit sb=>hq _ _ fun {Q' E'} tO=>?_;haveI kK:∀a∈[I],h'.get? a≠none:=fY ((hit.symm▸(fun q=>nomatch q)));haveI hb:=bC sb.extBut;haveI R':=(R.d9 (tk:=s.toks+1) hI kK hb).1;haveI X':=(R.d9 (tk:=s.toks+1) hI kK hb).2;have fin:Q' () {s with heap:=h',toks:=s.toks+1}:=tO {s with heap:=h',toks:=s.toks+1} R' (.int _ _) ⟨_,_,_,hit,by refine(nP hn).symm▸?_;try rfl⟩ X';cases tgt with
   |none=>exact fin
   |some t=>
    haveI e:letOwnedTupleGo t (.ref I) (.int x s.toks)=pure ():=by dsimp only[letOwnedTupleGo];cases t<;>rfl
    show wpAny _ _ (letOwnedTupleGo t (.ref I) (.int x s.toks)) _ _ _;exact(e.symm▸(wpAny_pure fin))
 stop:=fun {Z Z' A σ s st Q E} hI hs hd hA H R gk hq=>by
  obtain⟨x,left,c,h2,h3⟩:=H
  haveI hl:left≤0:=by
   cases hn:left.toNat with
   |zero=>exact fy 0x22111202112110100300000750001360100201004671010021 rt hn (iq _)
   |succ m=>replace h3:=hn▸h3;cases h3
  refine wpAny_pyNext_range_end hA h2 hl fun h' sb=>?_;refine jZ (R.leave (tk:=s.toks) hI hs hd (bC sb)) fun R' tr X'=>?_;exact hq {s with heap:=h'} R' tr X'
 again:=fun {Z A rem σ s Q E} H hq=>by
  obtain⟨x,left,c,h2,h3⟩:=H;exact wpAny_pyIter_rangeiter h2 hq
theorem VR.VF(R:Rel base Z σ st s.heap)(X:Ext [] σ s σ' s')(H:VR Z' σ s.heap v d):VR Z' σ' s'.heap v d:=by
 refine H.mono X.pre fun a o hz e nd nc nl=>X.keep a o e (fun hm=>?_) (fun h=>nomatch h);refine R.dS hm fun o' g Nb=>?_;obtain⟨l,n,rfl⟩|⟨l,n,rfl⟩:=Nb
 ·rw[e]at g;obtain rfl:=cU g;exact nl rfl
 ·rw[e]at g;obtain rfl:=cU g;exact nd _ _ rfl
theorem VR.rV(R:Rel base Z σ st s.heap)(X:Ext [] σ s σ' s')(hd:∀a∈new,s.heap.get? a=none)(H:VR Z σ s.heap v d):VR (new++Z) σ' s'.heap v d:=
 VR.VF R X (H.weaken fun a ha hz q=>(List.mem_append.mp q).elim (fun q=>ha (hd a q)) hz)
theorem FS.enter{σ' new:List Addr}{s':Shared}(R:Rel base Z σ st s.heap)(F:FS base Z σ s.heap env sc loc)(X:Ext [] σ s σ' s')(hd:∀a∈new,s.heap.get? a=none):FS base (new++Z) σ' s'.heap env sc loc:=by
 haveI F':=F.ext R X;have vr:∀{v d},VR Z σ s.heap v d→VR (new++Z) σ' s'.heap v d:=fun H=>VR.rV R X hd H;have HW:∀a,s.heap.get? a≠none→a∉Z→a∉new++Z:=fun a ha hz q=>(List.mem_append.mp q).elim (fun q=>ha (hd a q)) hz;refine b9 (F.ns) fun m hn hm=>?_;haveI hL:s.heap.get? env.locals≠none:=by obtain⟨o,_,_,e,_⟩:=hn;rw[e];exact fun q=>nomatch q
 have cx:∀a o,s.heap.get? a=some o→a∉σ→s'.heap.get? a=some o:=fun a o e h=>X.keep a o e h (fun q=>nomatch q);refine⟨F.len,⟨m,?_,fun k x d e1 e2=>?_⟩,fun k x kd e1 e2=>?_,F.apart,F.lf,F'.vz,HW _ hL F.lz,F.only⟩
 ·obtain⟨o,es,ep,e,r⟩:=hn
  exact⟨o,es,ep,cx _ _ e F.vz,r⟩
 ·obtain⟨v,a,b⟩:=hm k x d e1 e2;exact⟨v,a,vr b⟩
 ·refine cK (F.cells k x kd e1 e2) fun c w' h1 h2 h3 h4 h5=>?_
  haveI hc:=R.kI h2;obtain⟨o,g,pZ⟩:=h2;refine⟨c,w',h1,⟨o,cx _ _ g hc,pZ⟩,h3,HW c (by rw[g];exact fun q=>nomatch q) h4,fun d e=>?_⟩;obtain⟨v,a,b⟩:=h5 d e;exact⟨v,a,vr b⟩
theorem FS.move{Z' σ' W:List Addr}(R:Rel base Z σ st s.heap)(F:FS base Z σ s.heap env sc loc)(X:Ext W σ s σ' s')(hW:∀a∈W,a∈Z)(hs:∀a∈Z',a∈Z)(tr:∀v d,VR Z σ s.heap v d→VR Z' σ' s'.heap v d):FS base Z' σ' s'.heap env sc loc:=by
 refine b9 (F.ns) fun m hn hm=>?_;haveI hL:s.heap.get? env.locals≠none:=by obtain⟨o,_,_,e,_⟩:=hn;exact(e.symm▸(fun q=>nomatch q))
 refine⟨F.len,⟨m,?_,fun k x d e1 e2=>?_⟩,fun k x kd e1 e2=>?_,F.apart,F.lf,X.zL hL F.vz (fun q=>F.lz (hW _ q)),fun q=>F.lz (hs _ q),F.only⟩
 ·obtain⟨o,es,ep,e,r⟩:=hn
  exact⟨o,es,ep,X.keep _ _ e F.vz (fun q=>F.lz (hW _ q)),r⟩
 ·obtain⟨v,a,b⟩:=hm k x d e1 e2;exact⟨v,a,tr _ _ b⟩
 ·refine cK (F.cells k x kd e1 e2) fun c w' h1 h2 h3 h4 h5=>?_
  haveI hc:=R.kI h2;obtain⟨o,g,pZ⟩:=h2;refine⟨c,w',h1,⟨o,X.keep _ _ g hc (fun q=>h4 (hW _ q)),pZ⟩,h3,fun q=>h4 (hs _ q),fun d e=>?_⟩;obtain⟨v,a,b⟩:=h5 d e;exact⟨v,a,tr _ _ b⟩
theorem FS.step(R:Rel base Z σ st s.heap)(F:FS base Z σ s.heap env sc loc)(X:Ext W σ s σ' s')(hW:∀a∈W,a∈Z):FS base Z σ' s'.heap env sc loc:=
 F.move R X hW (fun a h=>h) fun v d H=>H.ext R X fun a ha=>.inl (hW a ha)
theorem FS.alive{a:Addr}(F:FS base Z σ s.heap env sc loc)(h:a∈aq env sc):s.heap.get? a≠none:=by
 refine gP fun GP kQ=>?_;rcases F.fG h with⟨c,o,e,_⟩|⟨m,o,_,_,e,_⟩<;>(refine kQ ?_;exact(e.symm▸(fun q=>nomatch q)))
theorem FS.dg{W:List Addr}(F:FS base Z σ s.heap env sc loc):∀a∈aq env sc,a∈Z∨(∃c,s.heap.IsCell a c)∨(∃m,s.heap.Ns a m)∨s.heap.get? a=none:=fun a ha=>
 (F.fG ha).elim (fun h=>.inr (.inl h)) fun h=>.inr (.inr (.inl h))
end
section
open PyProof.Rows PySem PySem.Calls PySem.W
variable(prog:Program)(w:World)(K:Frag)(base:Heap)(P:Pg)(call:bj)(n:Nat)(sc:List (Str×NameKind))
def fH(e:Expr)(tgt:Option Expr)(sk:SK)(src:E):Prop:=∀{env:Env} {A:Around} {Z σ:List Addr} {s:Shared} {loc:Loc} {st:St} {vs:List V} {st1:St} {itx:It} {Q:Value→Shared→Prop} {E:Value→Shared→Prop},
 Ok A n→bl env sc→Rel base Z σ st s.heap→FS base Z σ s.heap env sc loc→ev P call src loc st=some (vs,st1)→bU sk vs st1=some itx→
 (∀σ' s' it new S,Rel base (new++Z) σ' st1 s'.heap→Ext [] σ s σ' s'→(∀a∈new,s.heap.get? a=none)→za prog w base it tgt itx.guards new S→S (new++Z) itx.items σ' s'.heap→Q it s')→
 wpAny (model prog w) A (eval e env) (fun x s1=>wpAny (model prog w) A (pyIter x) Q E s1) E s
end
section
open PyProof.Rows PySem PySem.Calls PySem.W
variable{prog:Program}{w:World}{K:Frag}{base:Heap}{P:Pg}{call:bj}{n:Nat}{sc:List (Str×NameKind)}
theorem Ext.dead{W σ σ':List Addr}{s s':Shared}(X:Ext W σ s σ' s'){a:Addr}(h:s'.heap.get? a=none)(hw:a∉W):s.heap.get? a=none:=by
 cases q:s.heap.get? a with
 |none=>rfl
 |some o=>exact absurd h (X.live a hw ((q.symm▸(fun q=>nomatch q))))
theorem fj(h:Heap) o (ho:o.isFreed=false):∀a∈[h.objs.size],(h.push o).get? a≠none:=fun a ha=>by
 simp at ha;subst ha;exact((Heap.get?_push_size _ ho).symm▸(fun q=>nomatch q))
theorem dz(h:Heap):∀a∈[h.objs.size],h.get? a=none:=fY (bo _)
theorem rW(H:av prog w base P call n sc e e'):fH prog w base P call n sc e tgt .seq e':=
 fun {env A Z σ s loc st vs st1 itx Q E} ok eo R F h hi hq=>by
 revert h;refine DK hi ?_;intro x hx h;refine H ok eo R F (by rw[h];rfl) fun σ1 v1 s1 R1 V1 X1=>?_;revert V1 hq;refine MH hx ?_ ?_
 ·intro us hx;have e:=cU hx;subst e;intro hq V1
  haveI V1':=V1;refine V1.cC fun a l eq2 ht hA hl=>?_;obtain rfl:=eq2;refine iter_tuple ht ?_;haveI hd:=dz s1.heap;have k:∀b o,s1.heap.get? b=some o→(s1.heap.push {cls:=.type "tuple_iterator",data:=.fields #[.ref a,.int 0 0]}).get? b=some o:=fun b o e=>Heap.get?_push_of_some _ e;refine hq σ1 {s1 with heap:=s1.heap.push {cls:=.type "tuple_iterator",data:=.fields #[.ref a,.int 0 0]}} _ [s1.heap.objs.size] (Jq us s1.heap.objs.size) (R1.enter k hd (fj _ _ rfl)) (X1.trans (.of_keep (tk:=s1.toks) k)) (fun a ha=>X1.dead (hd a ha) (fun h=>nomatch h)) EB ?_;obtain⟨o,h1,h2,h3⟩:=ht;exact⟨a,l,0,⟨_,Heap.get?_push_size _ rfl,rfl,rfl⟩,V1'.enter k hd,⟨o,k _ _ h1,h2,h3⟩,hA.imp fun v d h=>h.enter k hd,rfl⟩
 ·intro l vs fV hx;haveI e:=cU hx;subst e;intro hq V1
  refine R1.cw V1 fV fun a ll m rH ha g hA hl=>?_;subst rH;refine wpAny_pyIter_list (aL g) ?_;haveI hd:=dz s1.heap;haveI k:∀b o,s1.heap.get? b=some o→(s1.heap.push {cls:=.type "list_iterator",data:=.fields #[.ref a,.int 0 0]}).get? b=some o:=fun b o e=>Heap.get?_push_of_some _ e;refine hq σ1 {s1 with heap:=s1.heap.push {cls:=.type "list_iterator",data:=.fields #[.ref a,.int 0 0]}} _ [s1.heap.objs.size] _ (R1.enter k hd (fj _ _ rfl)) (X1.trans (.of_keep (tk:=s1.toks) k)) (fun a ha=>X1.dead (hd a ha) (fun h=>nomatch h)) An ?_;exact⟨a,0,ha,⟨_,Heap.get?_push_size _ rfl,rfl,rfl⟩,rfl⟩
theorem mv{a b c:Int}(hc:1≤c):(Builtin.Range.rangeSize a b c).toNat=((b - a+c - 1) / c).toNat∧0≤Builtin.Range.rangeSize a b c:=by
 unfold Builtin.Range.rangeSize;rw[if_pos (by exact bA 0x22000140001131 rt hc)]
 by_cases h:a<b
 ·rw[if_pos h]
  haveI:b - a+c - 1=(b - a - 1)+1 * c:=cg 0x20220131110005521120100052550 rt;rw[this,Int.add_mul_ediv_right _ _ (by exact bA 0x220100580001131 rt hc)];refine⟨rfl,?_⟩;haveI:=Int.ediv_nonneg (a:=b - a - 1) (b:=c) (dr 0x22111000550130001041 rt h) (bA 0x22000130001131 rt hc);exact bA 0x22110020130000131 rt this
 ·rw[if_neg h]
  haveI:(b - a+c - 1) / c≤0:=by
   haveI:(b - a+c - 1) / c<1:=Int.ediv_lt_of_lt_mul (bA 0x22000140001131 rt hc) (cg 0x22201311201000525400010481 rt h);exact bA 0x22010030110041 rt this
  lia
theorem rX(ha:aZ a=true)(hb:aZ b=true)(hc:1≤c)(HX:aZ c=true):Builtin.Range.small a b c=true:=by
 haveI f:∀x:Int,-(2^60)≤x→x≤2^60→Builtin.Range.rangeFitsLong x=true:=fun x h1 h2=>by
  unfold Builtin.Range.rangeFitsLong;simp
  lia
 have ha:=of_decide_eq_true ha;have hb:=of_decide_eq_true hb;haveI HX:=of_decide_eq_true HX
 haveI hs: -(2^60)≤Builtin.Range.rangeSize a b c∧Builtin.Range.rangeSize a b c≤2^60:=by
  unfold Builtin.Range.rangeSize;rw[if_pos (by exact bA 0x22000140001131 rt hc)]
  by_cases h:a<b
  ·rw[if_pos h]
   haveI h1:=Int.ediv_nonneg (a:=b - a - 1) (b:=c) (dr 0x22111000550130001041 rt h) (bA 0x22000130001131 rt hc);haveI h2:=Int.ediv_le_self (a:=b - a - 1) c (dr 0x22111000550130001041 rt h)
   omega
  ·rw[if_neg h];decide
 unfold Builtin.Range.small;rw[f a (Int.le_trans (by decide) ha.1) (Int.le_trans ha.2 (by decide)),f b (Int.le_trans (by decide) hb.1) (Int.le_trans hb.2 (by decide)),f c (Int.le_trans (by decide) HX.1) (Int.le_trans HX.2 (by decide)),f _ hs.1 hs.2,if_pos (by exact bA 0x22000140001131 rt hc),f _ (Int.le_trans (by decide:(-2^60:Int)≤-2^40+(-2^40 - 1)) (Int.add_le_add hb.1 (Int.sub_le_sub_right HX.1 1))) (Int.le_trans (Int.add_le_add hb.2 (Int.sub_le_sub_right HX.2 1)) (by decide))];simp
theorem Ao(g:Gd K base)(fb:rq K base G)(hk:sc.lookup x=some .globalImplicit)(hg:G x=some .dY)(hd:(x==("__debug__":Str))=false)
  (hs:es.all notStar=true) (H:ej prog w base P call n sc es kb):fH prog w base P call n sc (.Call (.Name x p) es [] pos) tgt .dY kb:=
 fun {env A Z σ s loc st vs st1 itx Q E} ok eo R F h hi hq=>by
 refine Call_ (cA g fb hk hg (bv:=.type "range") rfl hd eo R ?_) rfl;refine callWith_of (P:=fun _=>True) (by refine(dw hs).symm▸?_;rfl) (fun h X=>cR (fun _ e=>nomatch e)) (bL hs (H ok eo R F h fun σ1 z' s1 R1 V1 X1=>⟨trivial,?_⟩))
 have fin:∀(a b c:Int) (t u v:Tok) (tk:Nat),aZ a=true→aZ b=true→1≤c→aZ c=true→itx=⟨aD a c ((b - a+c - 1) / c).toNat,[]⟩→
   wpAny (model prog w) A (pyIter (.ref s1.heap.objs.size)) Q E {s1 with heap:=s1.heap.push {cls:=.type "range",data:=.fields #[.int a t,.int b u,.int c v]},toks:=tk}:=fun a b c t u v tk ha hb hc HX e=>by
  refine wpAny_pyIter_range (IsRange.new _ a b c t u v) (rX ha hb hc HX) ?_;subst e;have k1:∀b' o,s1.heap.get? b'=some o→(s1.heap.push {cls:=.type "range",data:=.fields #[.int a t,.int b u,.int c v]}).get? b'=some o:=fun b o e=>Heap.get?_push_of_some _ e;haveI R2:Rel base Z σ1 st1 (s1.heap.push {cls:=.type "range",data:=.fields #[.int a t,.int b u,.int c v]}):=R1.of_keep k1;haveI X2:Ext [] σ s σ1 {s1 with heap:=s1.heap.push {cls:=.type "range",data:=.fields #[.int a t,.int b u,.int c v]},toks:=tk}:=X1.trans (.of_keep k1);haveI hd:=dz (s1.heap.push {cls:=.type "range",data:=.fields #[.int a t,.int b u,.int c v]});haveI k:∀b' o,(s1.heap.push {cls:=.type "range",data:=.fields #[.int a t,.int b u,.int c v]}).get? b'=some o→((s1.heap.push {cls:=.type "range",data:=.fields #[.int a t,.int b u,.int c v]}).push {cls:=.type "range_iterator",data:=.fields #[rawInt a,rawInt (Builtin.Range.rangeSize a b c),rawInt c]}).get? b'=some o:=fun b o e=>Heap.get?_push_of_some _ e;haveI e1:=(mv (a:=a) (b:=b) hc).1;haveI e2:=(mv (a:=a) (b:=b) hc).2;refine hq σ1 _ _ [(s1.heap.push {cls:=.type "range",data:=.fields #[.int a t,.int b u,.int c v]}).objs.size] (Jr _) (Rel.enter (s:={s1 with heap:=s1.heap.push {cls:=.type "range",data:=.fields #[.int a t,.int b u,.int c v]}}) R2 k hd (fj _ _ rfl)) (X2.trans (.of_keep (tk:=tk) k)) (fun a ha=>X2.dead (hd a ha) (fun h=>nomatch h)) EC ?_;exact⟨_,_,_,Heap.get?_push_size _ rfl,by simp only[e1]⟩
 generalize hit:itx=Li at hi;revert V1 hit;refine zN hi ?_ ?_ ?_
 ·intro b hb V1 hit
  refine V1.one ?_;intro v hx;refine bx hx fun _ e=>?_;subst e;exact PySem.call_range_1 (fin 0 b 1 _ _ _ _ (by decide) hb.1 (D6 0x2111130 rt) (by decide) (hit.trans (by simp)))
 ·intro a b hb V1 hit
  refine V1.two ?_;intro v v2 hx xJ;refine bx hx fun _ pR=>bx xJ fun _ pO=>?_;subst pR;subst pO;exact call_range_2 (fin a b 1 _ _ _ _ hb.1 hb.2.1 (D6 0x2111130 rt) (by decide) (hit.trans (by simp)))
 ·intro a b c hb V1 hit
  refine V1.three ?_;intro v v2 v3 hx xJ hx3;refine bx hx fun _ e1=>bx xJ fun _ e2=>bx hx3 fun _ e3=>?_;subst e1;subst e2;subst e3;exact call_range_3 (fun e=>absurd hb.2.2.1 (e▸by decide)) (fin a b c _ _ _ _ hb.1 hb.2.1 hb.2.2.1 (decide_eq_true ⟨Int.le_trans (by decide) hb.2.2.1,Int.le_trans (Int.le_of_lt hb.2.2.2.1) (by decide)⟩) hit) (.inl (PyProof.noPylong_small (nA hb.2.2.1 hb.2.2.2.1)))
inductive Nc(base:Heap)(Z:List Addr)(env:Env)(sc:List (Str×NameKind))(S:List Addr→List V→List Addr→Heap→Prop)(L:List V→Loc→St→Prop)(W σ₀:List Addr)(s₀:Shared)(k:Nat)(s:Shared):Prop
 |mk{σ:List Addr}{loc:Loc}{st:St}{rem:List V}(hk:rem.length=k)(hl:L rem loc st)(R:Rel base Z σ st s.heap)(F:FS base Z σ s.heap env sc loc)(H:S Z rem σ s.heap)(X:Ext W σ₀ s₀ σ s):Nc base Z env sc S L W σ₀ s₀ k s
theorem Ap{t iter:Expr}{p:cD}{sk:SK}{src:E}{b:List Stmt}{b':S}{pos:Pos}(hf:∀env x,foldedSetIterable iter env x=pure x)(HI:fH prog w base P call n sc iter (some t) sk src)(HP:gw prog w base sc t p)(HB:kz prog w base P call n sc b b'):
  df prog w base P call n sc (.For t iter b [] pos) (.loop p sk src b'):=fun {env A Z σ s loc bB st af fl Q E} ok eo R F h hq=>by
 refine gP fun GP kQ=>?_;refine bP h fun vs st1 h1 h=>bO h fun itx h2 h=>mP h fun l1 ak h3 e=>?_;clear h;cases e;refine kQ ?_;refine wpAny_For (HI ok eo R F h1 h2 fun σ1 s1 it new S R1 X1 hd I H1=>?_) (hf env);have bu:∀a∈new,a∈new++Z:=fun a ha=>List.mem_append_left _ ha;haveI yc:∀a∈aq env sc,a∉new:=fun a ha q=>F.alive ha (hd a q);refine codeAny_forLoop_any (Nc base (new++Z) env sc S (fun rem loc st=>aw p itx.guards (ex P call b') rem loc st=some (bB,af)) (aq env sc++new) σ s) ?_ itx.items.length ⟨rfl,h3,R1,F.enter R X1 hd,H1,X1.ek⟩;rintro k s2 @⟨σ2,Js,ak,rem,hk,g1,R2,F2,H2,X2⟩;cases rem with
 |nil=>
  refine MR g1 fun gk g1=>?_
  ·(haveI VG:=(t5 g1).1;haveI VH:=(t5 g1).2;subst VG;subst VH)
   refine I.stop (Z':=Z) bu (fun a ha=>List.mem_append_right _ ha) (fun a ha q=>R.alive a q (hd a ha)) ok.1 H2 R2 gk fun s3 R3 tr X3=>?_;refine wpAny_execs_nil (hq σ2 _ s3 rfl R3 (F2.move R2 X3 (fun a ha=>bu a ha) (fun a ha=>List.mem_append_right _ ha) tr) ?_);exact(X2.trans (X3.aN fun a ha=>List.mem_append_right _ ha)).sub fun a ha=>(List.mem_append.mp ha).imp id (hd a)
 |cons d rem=>
  refine MS g1 fun gk g1=>?_
  ·refine bO g1 fun l3 g2 g1=>bT g1 fun fl l4 cO g3 g4=>?_;dsimp only at g4
   refine I.next bu ok.1 H2 R2 gk fun v s3 Aq=>Aq fun s4 R4 V4 H4 X4=>?_
   haveI F4:=F2.step R2 X4 (fun a ha=>bu a ha);refine HP ok.1 eo R4 F4 V4 g2 fun s5 R5 F5 X5=>?_;haveI H5:=I.keep bu H4 R4 X5 yc (F4.dg (W:=[]));refine HB ok eo R5 F5 g3 fun σ6 f s6 Y6 R6 F6 X6=>?_;haveI H6:=I.keep bu H5 R5 X6 yc (F5.dg (W:=[]));haveI X:Ext (aq env sc++new) σ s σ6 s6:=((X2.trans (X4.aN fun a ha=>List.mem_append_right _ ha)).trans (X5.aN fun a ha=>List.mem_append_left _ ha)).trans (X6.aN fun a ha=>List.mem_append_left _ ha);cases fl with
   |next=>cases Y6;exact⟨rem.length,hk▸Nat.lt_succ_self _,rfl,g4,R6,F6,H6,X⟩
   |cont=>cases Y6;exact⟨rem.length,hk▸Nat.lt_succ_self _,rfl,g4,R6,F6,H6,X⟩
   |ret d=>(exact bX g4)
end
section
open PyProof.Rows PySem PySem.Calls PySem.W
noncomputable def zb(cells:List (Str×Addr)):List (Str×NameKind)→List (Str×Addr)→List (Str×Addr)
 |[],acc=>acc
 |(x,k)::r,acc=>if k== .free then zb cells r ((x,(cells.lookup x).getD 0)::acc)else zb cells r acc
theorem uo{env:Env}(f:Str×NameKind→List (Str×Addr)→Sem (ForInStep (List (Str×Addr))))
  (hf:∀x k cs,f (x,k) cs=if(k==NameKind.free)=true then(do let a ←cellOf env x;pure (ForInStep.yield ((x,a)::cs)))else pure (ForInStep.yield cs)):
  ∀(names:List (Str×NameKind)) (acc:List (Str×Addr)),(∀x,(x,NameKind.free)∈names→(env.cells.lookup x).isSome=true)→
  forIn names acc f=(pure (zb env.cells names acc):Sem (List (Str×Addr)))
 |[],acc,_=>by simp only[List.forIn_nil];rfl
 |(x,k)::r,acc,h=>by
  simp only[List.forIn_cons,hf];dsimp only[zb];cases hk:k==NameKind.free with
  |true=>
   refine gP fun GP kP=>?_;haveI fU:k=.free:=by simpa using hk
   subst fU;obtain⟨c,hc⟩:=Option.isSome_iff_exists.mp (h x (List.mem_cons_self ..));haveI e:cellOf env x=pure c:=by unfold cellOf;refine hc.symm▸?_;try rfl
   refine kP ?_;simp only[e,hc,Option.getD_some,pure_bind];exact uo f hf r _ fun y hy=>h y (List.mem_cons_of_mem _ hy)
  |false=>
   exact uo f hf r _ fun y hy=>h y (List.mem_cons_of_mem _ hy)
theorem uq(h:∀x,(x,NameKind.free)∈scope.names→(env.cells.lookup x).isSome=true):closureFor scope env=pure (zb env.cells scope.names []):=by
 dsimp only[closureFor];rw[uo (env:=env) _ (fun _ _ _=>rfl) scope.names [] h];rfl
theorem fI(cells:List (Str×Addr)){x:Str}:∀(names:List (Str×NameKind)) (acc:List (Str×Addr)),(zb cells names acc).lookup x=if(x,NameKind.free)∈names then some ((cells.lookup x).getD 0)else acc.lookup x
 |[],acc=>by rfl
 |(y,k)::r,acc=>by
  dsimp only[zb];cases hk:k==NameKind.free with
  |true=>
   haveI fU:k=.free:=by simpa using hk
   subst fU;simp only[if_true];rw[fI cells r]
   by_cases hr:(x,NameKind.free)∈r
   ·simp[hr]
   ·by_cases xF:x=y
    ·subst xF;simp[hr,List.lookup_cons]
    ·simp[hr,xF,List.lookup_cons,show(x==y)=false by simpa using xF]
  |false=>
   have fU:k≠.free:=by simpa using hk
   simp only[Bool.false_eq_true,if_false];rw[fI cells r]
   have:(x,NameKind.free)∈(y,k)::r↔(x,NameKind.free)∈r:=by
    constructor
    ·intro h;rcases List.mem_cons.mp h with h|h
     ·cases h;exact absurd rfl fU
     ·exact h
    ·exact List.mem_cons_of_mem _
   by_cases hr:(x,NameKind.free)∈r
   ·rw[if_pos hr,if_pos (this.mpr hr)]
   ·rw[if_neg hr,if_neg (fun q=>hr (this.mp q))]
theorem cM:∀(names:List (Str×NameKind)) (acc:List (Str×Addr)) (h:Heap) (x:Str),(∀y c,acc.lookup y=some c→c<h.objs.size)→
  (∀c,(cellsFrom h.objs.size names acc).lookup x=some c→(acc.lookup x=some c∧(x,NameKind.cell)∉names)∨(h.objs.size≤c∧(x,NameKind.cell)∈names∧(pushCells h names).IsCell c none))∧
  ((x,NameKind.cell)∈names→∃c,(cellsFrom h.objs.size names acc).lookup x=some c∧h.objs.size≤c)∧
  ((x,NameKind.cell)∉names→(cellsFrom h.objs.size names acc).lookup x=acc.lookup x)
 |[],acc,h,x,ha=>⟨fun c e=>.inl ⟨e,fun q=>nomatch q⟩,fun q=>(nomatch q),fun _=>rfl⟩
 |(y,k)::r,acc,h,x,ha=>by
  dsimp only[cellsFrom,pushCells];cases hk:k==NameKind.cell with
  |true=>
   haveI fU:k=.cell:=by simpa using hk
   subst fU;simp only[if_true];haveI hs:(h.push {cls:=.type "cell",data:=.cell none}).objs.size=h.objs.size+1:=Heap.size_push ..
   obtain⟨i1,i2,i3⟩:=cM r ((y,h.objs.size)::acc) (h.push {cls:=.type "cell",data:=.cell none}) x (fun z c e=>by
    rw[List.lookup_cons]at e;simp only[hs];refine(Classical.em (z=y)).elim (fun hz=>?_) fun hz=>?_
    ·subst hz;simp at e;subst e;exact Nat.lt_succ_self _
    ·haveI e:=(show(z==y)=false by simpa using hz)▸e;exact Nat.lt_succ_of_lt (ha z c e))
   rw[hs]at i1 i2 i3;refine⟨fun c e=>?_,fun q=>?_,fun q=>?_⟩
   ·rcases i1 c e with⟨a,b⟩|⟨a,b,d⟩
    ·rw[List.lookup_cons]at a
     rcases Classical.em (x=y)with hz|hz
     ·subst hz
      simp at a;subst a;exact .inr ⟨Nat.le_refl _,List.mem_cons_self ..,⟨_,pushCells_keeps _ _ _ _ (Heap.get?_push_size _ rfl),rfl⟩⟩
     ·replace a:=(show(x==y)=false by simpa using hz)▸a
      refine .inl ⟨a,fun q=>?_⟩;rcases List.mem_cons.mp q with q|q
      ·cases q;exact hz rfl
      ·exact b q
    ·exact .inr ⟨by exact aC 0x22100000101100201 rt a,List.mem_cons_of_mem _ b,d⟩
   ·refine(Classical.em ((x,NameKind.cell)∈r)).elim (fun hr=>?_) fun hr=>?_
    ·obtain⟨c,a,b⟩:=i2 hr;exact⟨c,a,by exact aC 0x22100000101100201 rt b⟩
    ·rcases List.mem_cons.mp q with q|q
     ·cases q
      exact⟨h.objs.size,by rw[i3 hr];simp[List.lookup_cons],Nat.le_refl _⟩
     ·exact absurd q hr
   ·have hr:(x,NameKind.cell)∉r:=fun z=>q (List.mem_cons_of_mem _ z)
    haveI hz:x≠y:=fun z=>q ((z.symm▸(List.mem_cons_self ..)));simp only[i3 hr,List.lookup_cons,show(x==y)=false by simpa using hz]
  |false=>
   haveI fU:k≠.cell:=by simpa using hk
   refine jZ (cM r acc h x ha) fun i1 i2 i3=>?_
   have hm:(x,NameKind.cell)∈(y,k)::r↔(x,NameKind.cell)∈r:=⟨fun q=>by
    rcases List.mem_cons.mp q with q|q
    ·cases q;exact absurd rfl fU
    ·exact q,List.mem_cons_of_mem _⟩
   refine⟨fun c e=>(i1 c e).imp (fun q=>⟨q.1,fun z=>q.2 (hm.mp z)⟩) fun q=>⟨q.1,hm.mpr q.2.1,q.2.2⟩,fun q=>i2 (hm.mp q),fun q=>i3 fun z=>q (hm.mpr z)⟩
theorem dC:∀(names:List (Str×NameKind)) (acc:List (Str×Addr)) (h:Heap),(∀y c,acc.lookup y=some c→c<h.objs.size)→(∀x y c,acc.lookup x=some c→acc.lookup y=some c→x=y)→
  (∀x c,acc.lookup x=some c→(x,NameKind.cell)∉names)→(names.map (·.1)).Nodup→
  ∀x y c,(cellsFrom h.objs.size names acc).lookup x=some c→(cellsFrom h.objs.size names acc).lookup y=some c→x=y
 |[],acc,h,_,hb,_,_=>hb
 |(z,k)::r,acc,h,ha,hb,hc,hn=>by
  simp only[List.map_cons,List.nodup_cons]at hn;dsimp only[cellsFrom];cases hk:k==NameKind.cell with
  |true=>
   haveI hs:(h.push {cls:=.type "cell",data:=.cell none}).objs.size=h.objs.size+1:=Heap.size_push ..
   haveI:=dC r ((z,h.objs.size)::acc) (h.push {cls:=.type "cell",data:=.cell none}) (fun y c e=>by
    rw[List.lookup_cons]at e;simp only[hs]
    by_cases hz:y=z
    ·subst hz;simp at e;subst e;exact Nat.lt_succ_self _
    ·haveI e:=(show(y==z)=false by simpa using hz)▸e;exact Nat.lt_succ_of_lt (ha y c e))
    (fun x y c e1 e2=>by
     rw[List.lookup_cons]at e1 e2
     by_cases hx:x=z
     ·by_cases hy:y=z
      ·refine hx.symm▸?_;refine hy.symm▸?_;try rfl
      ·subst hx
       rw[show(y==x)=false by simpa using hy]at e2;simp at e1;subst e1;exact absurd (ha y _ e2) (Nat.lt_irrefl _)
     ·rw[show(x==z)=false by simpa using hx]at e1
      by_cases hy:y=z
      ·subst hy
       simp at e2;subst e2;exact absurd (ha x _ e1) (Nat.lt_irrefl _)
      ·haveI e2:=(show(y==z)=false by simpa using hy)▸e2
       exact hb x y c e1 e2)
    (fun x c e q=>by
     rw[List.lookup_cons]at e
     by_cases hx:x=z
     ·subst hx;exact hn.1 (List.mem_map.mpr ⟨_,q,rfl⟩)
     ·haveI e:=(show(x==z)=false by simpa using hx)▸e
      exact hc x c e (List.mem_cons_of_mem _ q)) hn.2
   haveI this:=hs▸this;exact this
  |false=>
   exact dC r acc h ha hb (fun x c e q=>hc x c e (List.mem_cons_of_mem _ q)) hn.2
theorem rY{E:Value→Shared→Prop}
  (h:Q {scope:=scope,locals:=s.heap.objs.size,globals:=globals,cells:=cellsFrom (s.heap.objs.size+1) scope.names cl,qual:=qual,func:=none,code:=env.code,frame:=env.frame,builtins:=env.builtins}
   {s with heap:=pushCells (s.heap.push {cls:=.type "dict",data:=.dict #[]}) scope.names}):
  wpAny M A (newFunctionEnv scope globals cl [] qual none .none (some env)) Q E s:=by
 dsimp only[newFunctionEnv,Option.isSome_some,if_true];refine wpAny_bind (wpAny_alloc ?_);refine wpAny_bind (wpAny_layCells _ (fun name kind cells=>by cases hkc:kind==NameKind.cell<;>rfl) _ _ _ _ ?_);exact((show({s with heap:=s.heap.push {cls:=.type "dict",data:=.dict #[]}}:Shared).heap.objs.size=s.heap.objs.size+1 from Heap.size_push ..).symm▸(wpAny_bind (wpAny_pure (wpAny_pure h))))
noncomputable def cH(sc sc':List (Str×NameKind)):List (Option Nat):=sc'.map fun p=>if p.2=.free then some (aU sc p.1)else none
structure dD(sc:List (Str×NameKind))(scope:Scope):Prop where
 kind:scope.kind=.function
 nodup:(scope.names.map (·.1)).Nodup
 free:∀x,(x,NameKind.free)∈scope.names→sc.lookup x=some .cell∨sc.lookup x=some .free
end
section
open PyProof.Rows PySem PySem.Calls PySem.W
variable{prog:Program}{w:World}{K:Frag}{base:Heap}{P:Pg}{call:bj}{n:Nat}{sc:List (Str×NameKind)}
variable{Z σ:List Addr}{st:St}{s:Shared}{env:Env}{loc:Loc}
noncomputable def ED(scope:Scope)(env:Env)(h:Heap):Env:=
 {scope:=relabel scope env,locals:=h.objs.size,globals:=env.globals,cells:=cellsFrom (h.objs.size+1) scope.names (zb env.cells scope.names []),qual:=env.qual,func:=none,code:=env.code,frame:=env.frame,builtins:=env.builtins}
theorem mw{f:Str×NameKind→Str×NameKind}(h1:∀p,(f p).1=p.1)(h2:∀p,(f p).2=p.2∨(p.2=.free∧(f p).2=.cell)){x:Str}{kd:NameKind}:∀{names:List (Str×NameKind)},names.lookup x=some kd→
  (names.map f).lookup x=some kd∨(kd=.free∧(names.map f).lookup x=some .cell)
 |[],h=>by(exact bX h)
 |(y,k)::r,h=>by
  refine(List.map_cons).symm▸?_;rw[show f (y,k)=(y,(f (y,k)).2)from Prod.ext (h1 _) rfl,List.lookup_cons];rw[List.lookup_cons]at h
  by_cases hx:x=y
  ·subst hx
   simp only[beq_self_eq_true,Option.some.injEq]at h⊢;subst h;exact h2 (x,k)
  ·rw[show(x==y)=false by simpa using hx]at h⊢
   exact mw h1 h2 h
theorem mx{kd:NameKind}(h:scope.names.lookup x=some kd):(relabel scope env).names.lookup x=some kd∨(kd=.free∧(relabel scope env).names.lookup x=some .cell):=by
 refine mw (fun p=>?_) (fun p=>?_) h
 ·obtain⟨n,k⟩:=p;dsimp only;split<;>rfl
 ·obtain⟨n,k⟩:=p
  dsimp only
  split
  ·rename_i hc
   simp only[Bool.and_eq_true]at hc;exact .inr ⟨by simpa using hc.1.1,rfl⟩
  ·exact .inl rfl
theorem EE(eo:bl env sc)(ck:dD sc scope):bl (ED scope env h) scope.names where
 kind:=ck.kind
 glob:=eo.glob
 blt:=eo.blt
 kinds:=fun x kd hk=>mx hk
 nodup:=ck.nodup
theorem FS.kL(F:FS base Z σ s.heap env sc loc){x:Str}(h:sc.lookup x=some .cell∨sc.lookup x=some .free):∃c w,env.cells.lookup x=some c∧s.heap.IsCell c w∧base.get? c=none∧c∉Z∧∀d,loc[aU sc x]? =some (some d)→∃v,w=some v∧VR Z σ s.heap v d:=by
 rcases h with h|h
 ·exact F.cells _ _ _ (slot_get h) (.inl rfl)
 ·exact F.cells _ _ _ (slot_get h) (.inr rfl)
theorem Ar{scope:Scope}(R:Rel base Z σ st s.heap)(F:FS base Z σ s.heap env sc loc)(eo:bl env sc)(ck:dD sc scope):
  FS base Z σ (pushCells (s.heap.push {cls:=.type "dict",data:=.dict #[]}) scope.names) (ED scope env s.heap) scope.names (a9 (cH sc scope.names) loc)∧
  (∀a∈aq (ED scope env s.heap) scope.names,s.heap.get? a=none):=by
 haveI hs:(s.heap.push {cls:=.type "dict",data:=.dict #[]}).objs.size=s.heap.objs.size+1:=Heap.size_push ..;haveI k1:∀b o,s.heap.get? b=some o→(s.heap.push {cls:=.type "dict",data:=.dict #[]}).get? b=some o:=fun b o e=>Heap.get?_push_of_some _ e;have k:∀b o,s.heap.get? b=some o→(pushCells (s.heap.push {cls:=.type "dict",data:=.dict #[]}) scope.names).get? b=some o:=fun b o e=>pushCells_keeps _ _ b o (k1 b o e)
 have dead:∀a,s.heap.objs.size≤a→s.heap.get? a=none:=fun a ha=>by
  cases q:s.heap.get? a with
  |none=>rfl
  |some o=>exact absurd (Heap.lt_size q) (Nat.not_lt.mpr ha)
 have As:∀x c,(zb env.cells scope.names []).lookup x=some c→(x,NameKind.free)∈scope.names∧env.cells.lookup x=some c:=fun x c e=>by
  rw[fI]at e;refine xm e (fun hm e=>?_) fun _ e=>?_
  ·refine xl (F.kL (ck.free x hm)) fun c' w h1 _=>?_
   rw[h1]at e;simp at e;subst e;exact⟨hm,h1⟩
  ·injection e
 have dB:∀y c,(zb env.cells scope.names []).lookup y=some c→c<(s.heap.push {cls:=.type "dict",data:=.dict #[]}).objs.size:=fun y c e=>by
  haveI hm:=(As y c e).1;haveI h1:=(As y c e).2;obtain⟨c',w,VI,⟨o,h2,_⟩,_⟩:=F.kL (ck.free y hm);haveI VI:=h1▸VI;(obtain rfl:=cU VI)
  exact(hs.symm▸(Nat.lt_succ_of_lt (Heap.lt_size h2)))
 have one:∀{x:Str} {k1 k2:NameKind},(x,k1)∈scope.names→(x,k2)∈scope.names→k1=k2:=fun {x k1 k2} h1 h2=>by
  obtain⟨i,hi⟩:=List.mem_iff_getElem?.mp h1;obtain⟨j,hj⟩:=List.mem_iff_getElem?.mp h2;haveI a:=(bq ck.nodup hi).1;haveI b:=(bq ck.nodup hj).1;haveI b:=a▸b;obtain rfl:=cU b;rfl
 haveI fx:=fun x=>cM scope.names (zb env.cells scope.names []) (s.heap.push {cls:=.type "dict",data:=.dict #[]}) x dB
 haveI Zc:=dC scope.names (zb env.cells scope.names []) (s.heap.push {cls:=.type "dict",data:=.dict #[]}) dB
  (fun x y c e1 e2=>F.apart x y c (As x c e1).2 (As y c e2).2) (fun x c e q=>by have:=one (As x c e).1 q;cases this) ck.nodup
 rw[hs]at fx Zc
 have rZ:∀(j:Nat) (x:Str) (kd:NameKind) (d:V),scope.names[j]? =some (x,kd)→(a9 (cH sc scope.names) loc)[j]? =some (some d)→kd=.free∧loc[aU sc x]? =some (some d):=fun j x kd d e1 e2=>by
  unfold a9 cH at e2;simp only[List.getElem?_map,List.getElem?_map,e1]at e2;dsimp only[Option.map_some]at e2
  by_cases hf:kd=.free
  ·subst hf
   simp only[if_true,Option.bind_some,Option.some.injEq]at e2;refine⟨rfl,?_⟩;cases q:loc[aU sc x]? with
   |none=>rw[q]at e2;injection e2
   |some u=>rw[q]at e2;simp at e2;refine e2.symm▸?_;try rfl
  ·simp[hf]at e2
 refine⟨⟨by delta a9 cH;simp,⟨fun _=>none,(Heap.Ns.new s.heap (.type "dict")).keeps (pushCells_keeps _ _),fun j x d e1 e2=>?_⟩,fun j x kd e1 e2=>?_,Zc,?_,?_,?_,fun j x kd d e1 e2=>.inr (.inr (rZ j x kd d e1 e2).1)⟩,fun a ha=>?_⟩
 ·cases (rZ j x _ d e1 e2).1
 ·rcases e2 with rfl|rfl
  ·haveI hm:(x,NameKind.cell)∈scope.names:=List.mem_of_getElem? e1
   refine b9 ((fx x).2.1 hm) fun c h1 h2=>?_
   have h3:(pushCells (s.heap.push {cls:=.type "dict",data:=.dict #[]}) scope.names).IsCell c none:=by
    rcases(fx x).1 c h1 with⟨a,b⟩|⟨a,b,d⟩
    ·exact absurd hm b
    ·exact d
   have hd:s.heap.get? c=none:=dead c (aC 0x22100000101100201 rt h2);refine⟨c,none,h1,h3,(R.free hd).2.2,(R.free hd).2.1,fun d e=>?_⟩;cases (rZ j x _ d e1 e).1
  ·have hm:(x,NameKind.free)∈scope.names:=List.mem_of_getElem? e1
   haveI hnc:(x,NameKind.cell)∉scope.names:=fun q=>by have:=one hm q;cases this
   refine cK (F.kL (ck.free x hm)) fun c w' h1 h2 h3 h4 h5=>?_;refine⟨c,w',?_,h2.keeps k,h3,h4,fun d e=>?_⟩
   ·show(cellsFrom _ _ _).lookup x=_
    rw[(fx x).2.2 hnc,fI,if_pos hm,h1];rfl
   ·refine b9 (h5 d (rZ j x _ d e1 e).2) fun v a b=>?_
    exact⟨v,a,b.of_keep k⟩
 ·exact(R.free (dead _ (Nat.le_refl _))).2.2
 ·exact(R.free (dead _ (Nat.le_refl _))).1
 ·exact(R.free (dead _ (Nat.le_refl _))).2.1
 ·rcases iP ha with rfl|⟨x,hx,hc⟩
  ·exact dead _ (Nat.le_refl _)
  ·rcases(fx x).1 a hc with⟨h1,h2⟩|⟨h1,h2,h3⟩
   ·exact absurd hx h2
   ·exact dead a (aC 0x22100000101100201 rt h1)
theorem ur{A:Around}{elt target iter:Expr}{ifs:List Expr}{scope:Scope}{pos:Pos}{it acc:Value}{env:Env}{R:Result→Shared→Prop}{s:Shared}(I:Nat→Shared→Prop)
  (turn:∀k s,I k s→∀E,wpAny (model prog w) A (pyNext it) (fun r iK=>match r with
   |none=>R (.ok .next) iK
   |some v=>wpAny (model prog w) A (letOwnedTupleGo target it v) (fun _ s₀=>wpAny (model prog w) A (assign target env v) (fun _ rE=>
     wpAny (model prog w) A (forIn ifs true fun c r=>if r=true then do let ok ←isTrue c env (eval c env);pure (ForInStep.yield ok)else pure (ForInStep.yield r)) (fun ok Jt=>if ok=true then wpAny (model prog w) A (eval elt env) (fun x Nf=>
      wpAny (model prog w) A (PySem.call (.builtin "list.append") [acc,x]) (fun _ Ng=>∃m,m<k∧I m Ng) E Nf) E Jt
      else ∃m,m<k∧I m Jt) E rE) E s₀) E iK) E s)
  (k:Nat) (h:I k s):codeAny (model prog w) A (.compLoop (.ListComp elt [⟨target,iter,ifs,0⟩] scope pos) 0 it acc env) R s:=by
 refine codeAny_loop rfl I (fun n s hI=>?_) k h;show wpAny _ A ((compTurn (.ListComp elt [⟨target,iter,ifs,0⟩] scope pos) 0 it acc env).onRaise (fun x=>do noteFrame x env;theTreesLotGoes x)) _ _ s;refine wpAny_noted ?_;rw[compTurn_list];refine wpAny_bind (wpAny_standAt (wpAny_bind (wpAny_mono (turn n s hI _) (fun r iK kv=>?_) fun _ _ h'=>h')));cases r with
 |none=>exact wpAny_pure kv
 |some v=>
  refine wpAny_bind (wpAny_mono kv (fun _ s₀ h₀=>wpAny_bind (wpAny_mono h₀ (fun _ rE ic=>wpAny_bind (wpAny_mono ic (fun ok Jt xr=>?_) fun _ _ h'=>h')) fun _ _ h'=>h')) fun _ _ h'=>h');cases ok with
  |false=>exact wpAny_pure ⟨rfl,xr⟩
  |true=>
   exact wpAny_bind (wpAny_bind (wpAny_mono xr (fun x Nf zz=>wpAny_bind (wpAny_mono zz (fun _ Ng f7=>wpAny_pure (wpAny_pure ⟨rfl,f7⟩)) fun _ _ h'=>h')) fun _ _ h'=>h'))
structure Acc(Z σ:List Addr)(h:Heap)(D:Addr)(ds:List V):Prop where
 ex:∃l m,h.get? D=some (listOf (List.toArray l) m)∧aj Z σ h l ds
theorem Acc.ext{D:Addr}{ds:List V}{W σ':List Addr}{s':Shared}(a:Acc Z σ s.heap D ds)(R:Rel base Z σ st s.heap)(hD:D∈Z)(X:Ext W σ s σ' s')(hW:D∉W)(hk:∀a∈W,a∈Z∨(∃c,s.heap.IsCell a c)∨(∃m,s.heap.Ns a m)∨s.heap.get? a=none):Acc Z σ' s'.heap D ds:=by
 refine gP fun GP kQ=>?_;obtain⟨l,m,g,H⟩:=a;refine kQ ?_;exact⟨l,m,X.keep _ _ g (fun q=>R.apart _ q hD) hW,H.imp fun v d x=>x.ext R X hk⟩
theorem Acc.my(a:Acc Z σ s.heap D ds)(F:FS base Z σ s.heap env sc loc):D∉aq env sc:=fun q=>by
 obtain⟨l,m,g,H⟩:=a;rcases F.fG q with⟨c,o,e,h⟩|⟨m',o,es,ep,e,h,_⟩
 ·rw[g]at e;obtain rfl:=cU e;cases h
 ·rw[g]at e;obtain rfl:=cU e;cases h
theorem Acc.push{A:Around}{D:Addr}{ds:List V}{x:Value}{d:V}(a:Acc Z σ s.heap D ds)(R:Rel base Z σ st s.heap)(hD:D∈Z)(hx:VR Z σ s.heap x d)(hl:ds.length≤ah){Q:Value→Shared→Prop}{E:Value→Shared→Prop}
  (hq:∀s1,Rel base Z σ st s1.heap→Acc Z σ s1.heap D (ds++[d])→Ext [D] σ s σ s1→Q .none s1):wpAny (model prog w) A (PySem.call (.builtin "list.append") [.ref D,x]) Q E s:=by
 refine gP fun GP kQ=>?_;obtain⟨l,m,g,H⟩:=a;haveI nO:=bJ;refine kQ ?_;refine wpAny_list_append_plain (items:=List.toArray l) (x:=x) ⟨m,g⟩ (fun h' y' sb=>?_) (by refine(List.size_toArray).symm▸?_;refine(H.1).symm▸?_;exact Nat.le_trans ‹_› bJ);obtain⟨m3,g3⟩:=y';have hb:=bC sb.extBut;have hI:∀a∈[D],a∈Z:=fY hD;obtain⟨R',X'⟩:=R.d9 (tk:=s.toks) hI (fY ((g3.symm▸(fun q=>nomatch q)))) hb;exact hq {s with heap:=h'} R' ⟨l++[x],m3,by simpa [W.listOf]using g3,(H.append (.cons hx .nil)).imp fun v d x=>x.d9 R hI hb⟩ X'
def r5(prog:Program)(w:World)(base:Heap)(P:Pg)(call:bj)(n:Nat)(sc:List (Str×NameKind))(ifs:List Expr)(cond:E):Prop:=
 (ifs=[]∧cond=.cst (.bool true))∨∃c,ifs=[c]∧cu prog w base P call n sc c cond
theorem r5.rule{cond:E}(H:r5 prog w base P call n sc ifs cond){E:Value→Shared→Prop}(ok:Ok A n)(eo:bl env sc)(R:Rel base Z σ st s.heap)(F:FS base Z σ s.heap env sc loc)(h:dA (ev P call cond loc st)=some (b,af))
  (hq:∀σ' s',Rel base Z σ' af s'.heap→Ext [] σ s σ' s'→Q b s'):
  wpAny (model prog w) A (forIn ifs true fun c r=>if r=true then do let ok ←isTrue c env (eval c env);pure (ForInStep.yield ok)else pure (ForInStep.yield r)) Q E s:=by
 refine gP fun GP kQ=>?_;rcases H with⟨rfl,rfl⟩|⟨c,rfl,H⟩
 ·revert hq;refine EQt h ?_;intro hq
  refine kQ ?_;exact wpAny_tests_nil (hq σ s R (.refl _ _ _))
 ·refine kQ ?_;exact wpAny_tests_one (H ok eo R F h hq)
theorem iQ(h:W=[]):∀a∈W,a∈Z∨(∃c,s.heap.IsCell a c)∨(∃m,s.heap.Ns a m)∨s.heap.get? a=none:=fun a ha=>by subst h;cases ha
inductive EF(base:Heap)(Z:List Addr)(env:Env)(sc:List (Str×NameKind))(S:List Addr→List V→List Addr→Heap→Prop)(L:List V→Loc→St→List V→Prop)(D:Addr)(total:List V)(W σ₀:List Addr)(s₀:Shared)(k:Nat)(s:Shared):Prop
 |mk{σ:List Addr}{loc:Loc}{st:St}{rem ds r:List V}(hk:rem.length=k)(hl:L rem loc st r)(hr:ds++r=total)(R:Rel base Z σ st s.heap)(F:FS base Z σ s.heap env sc loc)(H:S Z rem σ s.heap)(a:Acc Z σ s.heap D ds)(X:Ext W σ₀ s₀ σ s):EF base Z env sc S L D total W σ₀ s₀ k s
theorem yd{A:Around}{elt target iter:Expr}{ifs:List Expr}{scope:Scope}{pos:Pos}{it:Value}{D:Addr}{Z0:List Addr}{new:List Addr}{S:List Addr→List V→List Addr→Heap→Prop}{p:cD}{gs:List (Nat×List V)}{cond cV:E}{af:St}{s₀:Shared}{σ₀:List Addr}
  (ok:Ok A n) (eo:bl env sc) (I:za prog w base it (some target) gs new S) (bu:∀a∈new,a∈Z) (hD:D∈Z) (kN:D∉new) (kA:∀a∈Z0,a∈Z) (r7:∀a∈new,a∉Z0)
  (HP:gw prog w base sc target p) (HF:r5 prog w base P call n sc ifs cond) (HE:av prog w base P call n sc elt cV)
  (yc:∀a∈aq env sc,a∉new) {total:List V} (dn:total.length≤ah) {R:Result→Shared→Prop}
  (fin:∀σ' s',Rel base Z0 σ' af s'.heap→Acc Z0 σ' s'.heap D total→D∉σ'→(∃m,s'.heap.Ns env.locals m)→env.locals∉σ'→Ext (aq env sc++(new++[D])) σ₀ s₀ σ' s'→R (.ok .next) s')
  {rem ds r:List V} {s:Shared} {σ:List Addr} {st:St} {loc:Loc} (h:aB p gs (fun l' af=>dA (ev P call cond l' af)) (fun l' af=>one (ev P call cV l' af)) rem loc st=some (r,af)) (hr:ds++r=total)
  (mz:Rel base Z σ st s.heap) (Au:FS base Z σ s.heap env sc loc) (qe:S Z rem σ s.heap) (qf:Acc Z σ s.heap D ds) (qg:Ext (aq env sc++(new++[D])) σ₀ s₀ σ s):
  codeAny (model prog w) A (.compLoop (.ListComp elt [⟨target,iter,ifs,0⟩] scope pos) 0 it (.ref D) env) R s:=by
 haveI wF:∀a∈aq env sc,a∈aq env sc++(new++[D]):=fun a ha=>List.mem_append_left _ ha;have wN:∀a∈new,a∈aq env sc++(new++[D]):=fun a ha=>List.mem_append_right _ (List.mem_append_left _ ha);haveI wD:∀a∈[D],a∈aq env sc++(new++[D]):=fun a ha=>List.mem_append_right _ (List.mem_append_right _ ha);haveI zD:∀a∈[D],a∈Z:=fY hD;have zk:∀{s:Shared} {W:List Addr},(∀a∈W,a∈Z)→∀a∈W,a∈Z∨(∃c,s.heap.IsCell a c)∨(∃m,s.heap.Ns a m)∨s.heap.get? a=none:=fun h a ha=>.inl (h a ha);refine ur (EF base Z env sc S (fun rem loc st r=>aB p gs (fun l' af=>dA (ev P call cond l' af)) (fun l' af=>one (ev P call cV l' af)) rem loc st=some (r,af)) D total (aq env sc++(new++[D])) σ₀ s₀) ?_ rem.length ⟨rfl,h,hr,mz,Au,qe,qf,qg⟩;rintro k s2 @⟨σ2,Js,ak,kC,T',r2,hk,g1,r8,R2,F2,H2,a2,X2⟩ E;cases kC with
 |nil=>
  dsimp only[aB]at g1
  split at g1
  ·rename_i gk
   (haveI z7:=(t5 g1).1;haveI uf:=(t5 g1).2;subst z7;subst uf)
   refine I.stop bu kA r7 ok.1 H2 R2 gk fun s3 R3 tr X3=>?_;refine gP fun GP kP=>?_;obtain⟨l,m,g,H⟩:=a2;have DN:D∉σ2:=fun q=>R2.apart _ q hD;refine b9 (F2.ns) fun mm hn _=>?_;obtain⟨o,es,ep,e,hh⟩:=hn;simp at r8;cases r8;refine kP ?_;exact fin σ2 s3 R3 ⟨l,m,X3.keep _ _ g DN kN,H.imp tr⟩ DN ⟨mm,o,es,ep,X3.keep _ _ e F2.vz (fun q=>F2.lz (bu _ q)),hh⟩ F2.vz (X2.trans (X3.aN wN))
  ·(exact bX g1)
 |cons d kC=>
  dsimp only[aB]at g1
  split at g1
  ·rename_i gk
   simp only[Option.bind_eq_some_iff,Prod.exists]at g1;refine I6 g1 fun l3 g2 b cO g3 g4=>?_;try clear g1
   refine I.next bu ok.1 H2 R2 gk fun v s3 Aq=>Aq fun s4 R4 V4 H4 X4=>?_
   have F4:=F2.step R2 X4 bu;haveI a4:=a2.ext R2 hD X4 kN (zk bu);refine HP ok.1 eo R4 F4 V4 g2 fun s5 R5 F5 X5=>?_;have H5:=I.keep bu H4 R4 X5 yc (F4.dg (W:=[]));have a5:=a4.ext R4 hD X5 (a4.my F4) (F4.dg (W:=[]));refine HF.rule ok eo R5 F5 g3 fun σ6 s6 R6 X6=>?_;have F6:=F5.ext R5 X6;have H6:=I.keep bu H5 R5 X6 jM (iQ rfl);have a6:=a5.ext R5 hD X6 (fun h=>nomatch h) (iQ rfl);have X:Ext (aq env sc++(new++[D])) σ₀ s₀ σ6 s6:=((X2.trans (X4.aN wN)).trans (X5.aN wF)).trans X6.ek;cases b with
   |false=>
    exact⟨kC.length,hk▸Nat.lt_succ_self _,rfl,g4,r8,R6,F6,H6,a6,X⟩
   |true=>
    simp only[if_true];refine bP g4 fun x Zd g5 g4=>mP g4 fun r3 Ze g6 e=>?_;dsimp only at e;cases e;refine HE ok eo R6 F6 g5 fun σ7 v7 s7 R7 V7 X7=>?_;haveI F7:=F6.ext R6 X7;haveI H7:=I.keep bu H6 R6 X7 jM (iQ rfl);haveI a7:=a6.ext R6 hD X7 (fun h=>nomatch h) (iQ rfl);refine a7.push R7 hD V7 ?_ fun s8 R8 a8 X8=>?_
    ·rw[←r8,List.length_append]at dn;exact aO 0x22100000102000201 rt dn
    ·refine⟨kC.length,hk▸Nat.lt_succ_self _,rfl,g6,by simp only[←r8];simp,R8,F7.step R7 X8 zD,I.keep bu H7 R7 X8 ?_ (zk zD),a8,(X.trans X7.ek).trans (X8.aN wD)⟩
     intro a ha q;simp at ha;cases ha;exact kN q
  ·(exact bX g1)
theorem Rel.adopt(R:Rel base Z σ st s.heap)(a:Acc Z σ s.heap D ds)(hD:D∉σ)(hz:D∉Z)(hb:base.get? D=none)(hl:ds.length≤ah):Rel base Z (σ++[D]) (st++[.list ds]) s.heap where
 keep:=R.keep
 len:=by simp[R.len]
 nd:=by
  rw[List.nodup_append];refine⟨R.nd,List.nodup_cons.mpr ⟨(fun h=>nomatch h),List.nodup_nil⟩,fun x hx b hb e=>?_⟩;simp at hb;subst hb;exact hD (e▸hx)
 fresh:=fun x hx=>by
  rcases List.mem_append.mp hx with h|h
  ·exact R.fresh x h
  ·simp at h;subst h;exact hb
 apart:=fun x hx=>by
  rcases List.mem_append.mp hx with h|h
  ·exact R.apart x h
  ·simp at h;subst h;exact hz
 alive:=R.alive
 bW:=R.bW
 cell:=fun i c' x e1 e2=>by
  haveI vr:∀v d,VR Z σ s.heap v d→VR Z (σ++[D]) s.heap v d:=fun v d H=>H.mono (List.prefix_append _ _) fun _ _ _ e _ _ _=>e
  by_cases hi:i<st.length
  ·replace e1:=(List.getElem?_append_left hi)▸e1
   haveI e2:=(List.getElem?_append_left (R.len▸hi))▸e2;haveI C:=R.cell i c' x e1 e2;cases c' with
   |list ds=>obtain⟨l,n,g,H,hl⟩:=C;exact⟨l,n,g,H.imp vr,hl⟩
   |inst fs=>obtain⟨l,n,g,H,hn⟩:=C;exact⟨l,n,g,H.imp vr,hn⟩
  ·have fE:st.length≤i:=Nat.le_of_not_lt hi
   rw[List.getElem?_append_right fE]at e1;rw[List.getElem?_append_right (R.len▸fE)]at e2
   have h0:i - st.length=0:=by
    cases hj:i - st.length with
    |zero=>rfl
    |succ j=>rw[hj]at e1;injection e1
   rw[h0]at e1;simp only[R.len,h0]at e2;simp at e1 e2;refine gP fun GP kP=>?_;subst e1 e2;obtain⟨l,m,g,H⟩:=a;refine kP ?_;exact⟨l,m,g,H.imp vr,hl⟩
theorem Ext.adopt(X:Ext W σ₀ s₀ σ s)(hd:s₀.heap.get? D=none):Ext W σ₀ s₀ (σ++[D]) s where
 pre:=X.pre.trans (List.prefix_append _ _)
 new:=fun i a h e=>by
  by_cases hi:i<σ.length
  ·haveI e:=(List.getElem?_append_left hi)▸e;exact X.new i a h e
  ·replace e:=(List.getElem?_append_right (Nat.le_of_not_lt hi))▸e
   haveI:a=D:=by
    cases hj:i - σ.length with
    |zero=>haveI e:=hj▸e;simpa using e.symm
    |succ j=>rw[hj]at e;injection e
   exact(this.symm▸(.inl hd))
 keep:=X.keep
 live:=X.live
 iJ:=X.iJ
 gens:=X.gens
 os:=X.os
theorem dD.locals(ck:dD sc scope):∀x∈scope.names,x.2=.local→scope.names.lookup x.1=some .local:=fun x hx hl=>by
 obtain⟨y,k⟩:=x;obtain⟨i,hi⟩:=List.mem_iff_getElem?.mp hx;haveI:=(bq ck.nodup hi).1;simp only at hl;subst hl;exact this
theorem mA{E:Value→Shared→Prop}
  (HI:fH prog w base P call n sc iter (some target) sk src) (hf:∀env x,foldedSetIterable iter env x=pure x) (ck:dD sc scope)
  (ok:Ok A n) (eo:bl env sc) (R:Rel base Z σ st s.heap) (F:FS base Z σ s.heap env sc loc) (h1:ev P call src loc st=some (vs,st1)) (h2:bU sk vs st1=some itx)
  (post:∀σ1 s4 it new S D jk,bl jk scope.names→Rel base (D::(new++Z)) σ1 st1 s4.heap→FS base (D::(new++Z)) σ1 s4.heap jk scope.names (a9 (cH sc scope.names) loc)→
   za prog w base it (some target) itx.guards new S→S (D::(new++Z)) itx.items σ1 s4.heap→Acc (D::(new++Z)) σ1 s4.heap D []→(∀a∈aq jk scope.names++(new++[D]),s.heap.get? a=none)→
   D∉new→(∀a∈aq jk scope.names,a∉new)→Ext [] σ s σ1 s4→
   codeAny (model prog w) A (.compLoop (.ListComp elt (⟨target,iter,ifs,0⟩::rest) scope pos) 0 it (.ref D) jk) (compPost (model prog w) A E use Q (.ref D) jk.locals) s4):
  wpAny (model prog w) A (comprehension (.ListComp elt (⟨target,iter,ifs,0⟩::rest) scope pos) scope env pos' (newList []) false (eval iter env) use) Q E s:=by
 refine wpAny_comprehension_free (g:=⟨target,iter,ifs,0⟩) (gs:=rest) rfl (hf env) (uq fun x hx=>by
  obtain⟨c,w',h,_⟩:=F.kL (ck.free x hx);refine h.symm▸?_;rfl) ck.kind ck.locals ?_
 refine HI ok eo R F h1 h2 fun σ1 s1 it new S R1 X1 hd I H1=>?_;refine wpAny_newList ?_ (Nat.zero_le _);have hD:s1.heap.get? s1.heap.objs.size=none:=bo _;haveI k2:∀b o,s1.heap.get? b=some o→(s1.heap.push {cls:=.type "list",data:=.seq ([]:List Value).toArray}).get? b=some o:=fun b o e=>Heap.get?_push_of_some _ e;haveI R2:Rel base ([s1.heap.objs.size]++(new++Z)) σ1 st1 (s1.heap.push {cls:=.type "list",data:=.seq ([]:List Value).toArray}):=R1.enter k2 (dz _) (fj _ _ rfl);have F1:=F.enter R X1 hd;haveI F2:FS base ([s1.heap.objs.size]++(new++Z)) σ1 (s1.heap.push {cls:=.type "list",data:=.seq ([]:List Value).toArray}) env sc loc:=F1.enter (s':={s1 with heap:=s1.heap.push {cls:=.type "list",data:=.seq ([]:List Value).toArray}}) R1 (.of_keep (tk:=s1.toks) k2) (dz _);haveI F3:=(Ar (s:={s1 with heap:=s1.heap.push {cls:=.type "list",data:=.seq ([]:List Value).toArray}}) R2 F2 eo ck).1;haveI Nh:=(Ar (s:={s1 with heap:=s1.heap.push {cls:=.type "list",data:=.seq ([]:List Value).toArray}}) R2 F2 eo ck).2;haveI k3:∀b o,(s1.heap.push {cls:=.type "list",data:=.seq ([]:List Value).toArray}).get? b=some o→(pushCells ((s1.heap.push {cls:=.type "list",data:=.seq ([]:List Value).toArray}).push {cls:=.type "dict",data:=.dict #[]}) scope.names).get? b=some o:=fun b o e=>pushCells_keeps _ _ _ _ (Heap.get?_push_of_some _ e);haveI bu:∀a∈new,a∈s1.heap.objs.size::(new++Z):=fun a ha=>List.mem_cons_of_mem _ (List.mem_append_left _ ha);haveI H2:=I.widen (more:=[s1.heap.objs.size]) H1 k2 (dz _);haveI H3:=I.keep (s:={s1 with heap:=s1.heap.push {cls:=.type "list",data:=.seq ([]:List Value).toArray}}) bu H2 R2 (.of_keep (W:=[]) (tk:=s1.toks) k3) jM (iQ rfl);have Av:∀a∈new,s1.heap.get? a≠none:=fun a ha=>R1.alive a (List.mem_append_left _ ha);have Aw:∀a,s1.heap.get? a=none→s.heap.get? a=none:=fun a ha=>X1.dead ha (fun h=>nomatch h)
 haveI Ax:∀a,(s1.heap.push {cls:=.type "list",data:=.seq ([]:List Value).toArray}).get? a=none→s1.heap.get? a=none:=fun a ha=>by
  cases q:s1.heap.get? a with
  |none=>rfl
  |some o=>replace ha:=(k2 a o q)▸ha;cases ha
 refine rY ?_
 haveI fin:=post σ1 {s1 with heap:=pushCells ((s1.heap.push {cls:=.type "list",data:=.seq ([]:List Value).toArray}).push {cls:=.type "dict",data:=.dict #[]}) scope.names} it new S s1.heap.objs.size (ED scope env (s1.heap.push {cls:=.type "list",data:=.seq ([]:List Value).toArray})) (EE eo ck) (R2.of_keep (s:={s1 with heap:=s1.heap.push {cls:=.type "list",data:=.seq ([]:List Value).toArray}}) k3) F3 I H3
  ⟨[],0,k3 _ _ (Heap.get?_push_size _ rfl),.nil⟩
  (fun a ha=>by
   rcases List.mem_append.mp ha with q|q
   ·exact Aw a (Ax a (Nh a q))
   ·rcases List.mem_append.mp q with q|q
    ·exact hd a q
    ·simp at q;subst q;exact Aw _ hD)
  (fun q=>Av _ q hD) (fun a ha q=>Av a q (Ax a (Nh a ha)))
  (X1.trans ((Ext.of_keep (W:=[]) (tk:=s1.toks) k2).trans (Ext.of_keep (s:={s1 with heap:=s1.heap.push {cls:=.type "list",data:=.seq ([]:List Value).toArray}}) (tk:=s1.toks) k3)))
 exact codeAny_compStart_list fin (I.again H3 fin)
theorem oH(R₀:Rel base Z σ st s.heap)(R:Rel base Z σ' af s'.heap)(a:Acc Z σ' s'.heap D total)(uv:D∉σ')(hn:s'.heap.Ns C m)(Ay:C∉σ')(hC:s.heap.get? C=none)(hD:s.heap.get? D=none)
  (X:Ext W σ s σ' s') (hW:∀a∈W,s.heap.get? a=none) (dn:total.length≤ah):
  Rel base Z (σ'++[D]) (af++[.list total]) s'.heap∧Ext [] σ s (σ'++[D]) s'∧C∉σ'++[D]:=by
 haveI f:=R₀.free hD;refine⟨R.adopt a uv f.2.1 f.2.2 dn,(X.adopt hD).sub fun a ha=>.inr (hW a ha),fun q=>?_⟩;rcases List.mem_append.mp q with q|q
 ·exact Ay q
 ·simp at q;subst q
  obtain⟨l,k,g,_⟩:=a;obtain⟨o,es,ep,e,h,_⟩:=hn;rw[g]at e;obtain rfl:=cU e;cases h
theorem hO{C:Addr}{h':Heap}{m:Str→Option Value}{tk:Nat}(R:Rel base Z σ st s.heap)(hn:s.heap.Ns C m)(hC:C∉σ)(hz:C∉Z)(hb:base.get? C=none)(sb:Heap.SameBut C s.heap h'):Rel base Z σ st h'∧Ext [C] σ s σ {s with heap:=h',toks:=tk}:=by
 have X:Ext [C] σ s σ {s with heap:=h',toks:=tk}:=.Am (bC sb.extBut);refine⟨R.ext X (fY (.inr (.inr (.inl ⟨m,hn⟩)))) (fY hb) (fun a ha o e=>?_) (fun a ha q=>by simp at ha;subst ha;exact absurd q hz),X⟩;exact((sb.2 a (fun q=>hC (q▸ha))).symm▸e)
theorem FS.sd(R:Rel base Z σ st s.heap)(F:FS base Z σ s.heap env sc loc)(hn:s.heap.Ns C m)(jK:env.locals≠C)(sb:Heap.SameBut C s.heap h'):FS base Z σ h' env sc loc:=by
 haveI X:Ext [C] σ s σ {s with heap:=h'}:=.Am (bC sb.extBut);have vr:∀{v d},VR Z σ s.heap v d→VR Z σ h' v d:=fun H=>VR.ext R X (fY (.inr (.inr (.inl ⟨m,hn⟩)))) H;refine b9 (F.ns) fun m' T9 hm=>?_;refine⟨F.len,⟨m',T9.sameBut sb jK,fun k x d e1 e2=>?_⟩,fun k x kd e1 e2=>?_,F.apart,F.lf,F.vz,F.lz,F.only⟩
 ·obtain⟨v,a,b⟩:=hm k x d e1 e2;exact⟨v,a,vr b⟩
 ·refine gP fun GP M1=>?_
  obtain⟨c,w',h1,h2,h3,h4,h5⟩:=F.cells k x kd e1 e2;refine M1 ?_;refine⟨c,w',h1,h2.sameBut sb (fun q=>?_),h3,h4,fun d e=>?_⟩
  ·obtain⟨o,a,b⟩:=h2;obtain⟨o',es,ep,a',b',_⟩:=hn;rw[q]at a;haveI a':=a▸a';obtain rfl:=cU a';replace b':=b▸b';cases b'
  ·obtain⟨v,a,b⟩:=h5 d e;exact⟨v,a,vr b⟩
def EG(prog:Program)(w:World)(base:Heap)(sc:List (Str×NameKind))(Z σ:List Addr)(s:Shared)(ak:St)(total:List V)(env:Env)(A:Around)(E:Value→Shared→Prop)(use:Option (Value→Sem Unit))(Q:Value→Shared→Prop):Prop:=
 ∀σ' s' D C m,Rel base Z (σ'++[D]) (ak++[.list total]) s'.heap→Ext [] σ s (σ'++[D]) s'→σ'.length=ak.length→s'.heap.Ns C m→C∉σ'++[D]→C∉Z→base.get? C=none→s.heap.get? C=none→
  compPost (model prog w) A E use Q (.ref D) C (.ok .next) s'
theorem oI{E:Value→Shared→Prop}{src cond cV:Internal.E}
  (HI:fH prog w base P call n sc iter (some target) sk src) (hf:∀env x,foldedSetIterable iter env x=pure x) (ck:dD sc scope)
  (HP:gw prog w base scope.names target p) (HF:r5 prog w base P call n scope.names ifs cond) (HE:av prog w base P call n scope.names elt cV)
  (ok:Ok A n) (eo:bl env sc) (R:Rel base Z σ st s.heap) (F:FS base Z σ s.heap env sc loc)
  (h:one (ev P call (.comp (cH sc scope.names) p sk src cond cV) loc st)=some (v,af))
  (post:∀ak total,v=.lst ak.length→af=ak++[.list total]→EG prog w base sc Z σ s ak total env A E use Q):
  wpAny (model prog w) A (comprehension (.ListComp elt [⟨target,iter,ifs,0⟩] scope pos) scope env pos' (newList []) false (eval iter env) use) Q E s:=by
 refine gP fun GP kQ=>?_;replace h:=aE h;refine bP h fun vs st1 h1 h=>bO h fun itx h2 h=>bP h fun total ak h3 h4=>?_;dsimp only at h4
 split at h4
 ·rename_i dn
  (haveI rH:=(DL h4).1;haveI zR:=(DL h4).2;subst rH;subst zR)
  refine kQ ?_;refine mA HI hf ck ok eo R F h1 h2 fun σ1 s4 it new S D jk VJ R4 F4 I H4 a4 ed kN yc X4=>?_;haveI hZ:∀a∈Z,s.heap.get? a≠none:=R.alive
  refine yd (Z0:=Z) (s₀:=s) (σ₀:=σ) ok VJ I (fun a ha=>List.mem_cons_of_mem _ (List.mem_append_left _ ha)) (List.mem_cons_self ..) kN (fun a ha=>List.mem_cons_of_mem _ (List.mem_append_right _ ha))
   (fun a ha q=>hZ a q (ed a (List.mem_append_right _ (List.mem_append_left _ ha)))) HP HF HE yc dn (fun σ' s' R' a' uv hn Ay X'=>?_) h3 (List.nil_append _) R4 F4 H4 a4 X4.ek
  obtain⟨m,hn⟩:=hn;have hC:s.heap.get? jk.locals=none:=ed _ (List.mem_append_left _ (List.mem_cons_self ..));haveI hD:s.heap.get? D=none:=ed _ (List.mem_append_right _ (List.mem_append_right _ (List.mem_cons_self ..)));refine jZ (oH R R' a' uv hn Ay hC hD X' ed dn) fun g1 g2 g3=>?_;exact post ak total rfl rfl σ' s' D jk.locals m g1 g2 R'.len hn g3 (R.free hC).2.1 (R.free hC).2.2 hC
 ·(exact bX h4)
theorem mB{src cond cV:E}
  (HI:fH prog w base P call n sc iter (some target) sk src) (hf:∀env x,foldedSetIterable iter env x=pure x) (ck:dD sc scope)
  (HP:gw prog w base scope.names target p) (HF:r5 prog w base P call n scope.names ifs cond) (HE:av prog w base P call n scope.names elt cV):
  av prog w base P call n sc (.ListComp elt [⟨target,iter,ifs,0⟩] scope pos) (.comp (cH sc scope.names) p sk src cond cV):=
 fun {env A Z σ s loc st v af Q E} ok eo R F h hQ=>by
 refine oI HI hf ck HP HF HE ok eo R F h fun ak total e1 e2 σ' s' D C m g1 g2 gl hn g3 gz gb gd=>?_;subst e1 e2;refine⟨m,hn,fun h' sb=>?_⟩;obtain⟨R',X'⟩:=hO (tk:=s'.toks) g1 hn g3 gz gb sb;refine hQ _ _ {s' with heap:=h'} R' (.lst (by refine gl▸?_;simp)) ((g2.ek.trans X').sub fun a ha=>by simp at ha;subst ha;exact .inr gd)
theorem qh{src cond cV:E}
  (Lj:∀env,bl env sc→swapsWith (.ListComp elt [⟨target,iter,ifs,0⟩] scope pos) (some (.Name x px)) EH.line env=pure true) (hx:sc.lookup x=some .local)
  (HI:fH prog w base P call n sc iter (some target) sk src) (hf:∀env x,foldedSetIterable iter env x=pure x) (ck:dD sc scope)
  (HP:gw prog w base scope.names target p) (HF:r5 prog w base P call n scope.names ifs cond) (HE:av prog w base P call n scope.names elt cV):
  df prog w base P call n sc (.Assign [.Name x px] (.ListComp elt [⟨target,iter,ifs,0⟩] scope pos) EH) (.asg (.var (aU sc x)) (.comp (cH sc scope.names) p sk src cond cV)):=
 fun {env A Z σ s loc bB st af fl Q E} ok eo R F h hq=>by
 refine bP h fun v st1 h1 h=>mO h fun l1 h2 e=>?_;clear h;cases e;refine(exec_Assign_Name_used _ _ _ _ (Lj env eo)).symm▸?_;refine wpAny_bind (wpAny_standAt (wpAny_bind ?_))
 haveI e:evalThenUse (.ListComp elt [⟨target,iter,ifs,0⟩] scope pos) env (assign (.Name x px) env)=(do
   let _ ←comprehension (.ListComp elt [⟨target,iter,ifs,0⟩] scope pos) scope env (firstIterPos [⟨target,iter,ifs,0⟩] pos) (newList []) (firstAsync [⟨target,iter,ifs,0⟩]) (firstIter [⟨target,iter,ifs,0⟩] env) (some (assign (.Name x px) env))):=rfl
 refine wpAny_bind ?_;refine oI HI hf ck HP HF HE ok eo R F h1 fun ak total e1 e2 σ' s' D C m g1 g2 gl hn g3 gz gb gd=>?_;subst e1 e2;haveI F':=F.ext R g2;refine fi hx (.inl rfl) ok.1 eo g1 F' (.lst (by refine gl▸?_;simp)) h2 fun s2 R2 F2 X2=>?_;obtain⟨o,es,ep,e,hh⟩:=hn;have VL:C∉aq env sc:=fun q=>F.alive q gd;have HY:s2.heap.Ns C m:=⟨o,es,ep,X2.keep _ _ e g3 VL,hh⟩;refine⟨m,HY,fun h' sb=>wpAny_pure (wpAny_pure ?_)⟩;obtain⟨R3,X3⟩:=hO (tk:=s2.toks) R2 HY g3 gz gb sb;refine hq _ _ {s2 with heap:=h'} rfl R3 (F2.sd R2 HY (fun q=>F.alive (List.mem_cons_self ..) (q▸gd)) sb) ?_
 exact((g2.ek (W:=aq env sc++[C])).trans ((X2.aN fun a ha=>List.mem_append_left _ ha).trans (X3.aN fun a ha=>List.mem_append_right _ ha))).sub fun a ha=>
  (List.mem_append.mp ha).imp id fun q=>by simp at q;cases q;exact gd
theorem EI(elt t1 i1 t2 i2) scope pos (it acc) env:
  compTurn (.ListComp elt [⟨t1,i1,[],0⟩,⟨t2,i2,[],0⟩] scope pos) 0 it acc env=(do
   standAt i1.pos
   match ←pyNext it with
   |none=>pure (.done .next)
   |some v=>
    letOwnedTupleGo t1 it v
    assign t1 env v
    let x ←eval i2 env
    standAt i2.pos
    let x ←foldedSetIterable i2 env x
    let _ ←runOwn (.compStart (.ListComp elt [⟨t1,i1,[],0⟩,⟨t2,i2,[],0⟩] scope pos) 1 (←holding [x] (pyIter x)) acc env) env
    again (.compLoop (.ListComp elt [⟨t1,i1,[],0⟩,⟨t2,i2,[],0⟩] scope pos) 0 it acc env)):=by rfl
theorem EJ(elt t1 i1 t2 i2) scope pos (it acc) env:
  compTurn (.ListComp elt [⟨t1,i1,[],0⟩,⟨t2,i2,[],0⟩] scope pos) 1 it acc env=(do
   standAt i2.pos
   match ←pyNext it with
   |none=>pure (.done .next)
   |some v=>
    letOwnedTupleGo t2 it v
    assign t2 env v
    (do let _ ←PySem.call (.builtin "list.append") [acc,←eval elt env])
    again (.compLoop (.ListComp elt [⟨t1,i1,[],0⟩,⟨t2,i2,[],0⟩] scope pos) 1 it acc env)):=by rfl
theorem Ju
  (h0:codeAny (model prog w) A (.compLoop (.ListComp elt [⟨t1,i1,[],0⟩,⟨t2,i2,[],0⟩] scope pos) 1 it acc env) R s)
  (h:∀E,wpAny (model prog w) A (pyIter it) (fun Li s'=>codeAny (model prog w) A (.compLoop (.ListComp elt [⟨t1,i1,[],0⟩,⟨t2,i2,[],0⟩] scope pos) 1 Li acc env) R s') E s):
  codeAny (model prog w) A (.compStart (.ListComp elt [⟨t1,i1,[],0⟩,⟨t2,i2,[],0⟩] scope pos) 1 it acc env) R s:=by
 refine codeAny_of_tree ?_;refine wpAny_notedAt ?_;refine wpAny_bind (wpAny_askSetting (wpAny_ite ?_))
 split
 ·first
   |exact wpAny_bind (wpAny_pure (wpAny_pure (And.intro rfl h0)))
   |exact wpAny_pure (And.intro rfl h0)
 ·first
   |exact wpAny_bind (wpAny_rule (wpAny_bind (wpAny_standAt (wpAny_bind (wpAny_mono (h _) (fun Li s' h'=>wpAny_pure (And.intro rfl h')) fun _ _ x=>x)))))
   |(refine wpAny_bind (wpAny_rule ?_);show wpAny _ _ (standAt i2.pos >>= _) _ _ s;exact wpAny_bind (wpAny_standAt (wpAny_bind (wpAny_mono (h _) (fun Li s' h'=>wpAny_pure (And.intro rfl h')) fun _ _ x=>x))))
theorem sf{A:Around}{elt t1 i1 t2 i2:Expr}{scope:Scope}{pos:Pos}{it:Value}{D:Addr}{Z0:List Addr}{new:List Addr}{S:List Addr→List V→List Addr→Heap→Prop}{p:cD}{gs:List (Nat×List V)}{cV:Internal.E}{af:St}{bB:Loc}{s₀:Shared}{σ₀:List Addr}
  (ok:Ok A n) (eo:bl env sc) (I:za prog w base it (some t2) gs new S) (bu:∀a∈new,a∈Z) (hD:D∈Z0) (kN:D∉new) (kA:∀a∈Z0,a∈Z) (r7:∀a∈new,a∉Z0)
  (HP:gw prog w base sc t2 p) (HE:av prog w base P call n sc elt cV)
  (yc:∀a∈aq env sc,a∉new) {total:List V} (dn:total.length≤ah) {R:Result→Shared→Prop}
  (fin:∀σ' s',Rel base Z0 σ' af s'.heap→FS base Z0 σ' s'.heap env sc bB→Acc Z0 σ' s'.heap D total→Ext (aq env sc++(new++[D])) σ₀ s₀ σ' s'→R (.ok .next) s')
  {rem ds r:List V} {s:Shared} {σ:List Addr} {st:St} {loc:Loc} (h:cG p gs (fun l' af=>one (ev P call cV l' af)) rem loc st=some (r,bB,af)) (hr:ds++r=total)
  (mz:Rel base Z σ st s.heap) (Au:FS base Z σ s.heap env sc loc) (qe:S Z rem σ s.heap) (qf:Acc Z σ s.heap D ds) (qg:Ext (aq env sc++(new++[D])) σ₀ s₀ σ s):
  codeAny (model prog w) A (.compLoop (.ListComp elt [⟨t1,i1,[],0⟩,⟨t2,i2,[],0⟩] scope pos) 1 it (.ref D) env) R s:=by
 haveI wF:∀a∈aq env sc,a∈aq env sc++(new++[D]):=fun a ha=>List.mem_append_left _ ha;haveI wN:∀a∈new,a∈aq env sc++(new++[D]):=fun a ha=>List.mem_append_right _ (List.mem_append_left _ ha);haveI wD:∀a∈[D],a∈aq env sc++(new++[D]):=fun a ha=>List.mem_append_right _ (List.mem_append_right _ ha);haveI zD:∀a∈[D],a∈Z:=fY (kA _ hD);haveI zk:∀{s:Shared} {W:List Addr},(∀a∈W,a∈Z)→∀a∈W,a∈Z∨(∃c,s.heap.IsCell a c)∨(∃m,s.heap.Ns a m)∨s.heap.get? a=none:=fun h a ha=>.inl (h a ha);refine codeAny_loop rfl (EF base Z env sc S (fun rem loc st r=>cG p gs (fun l' af=>one (ev P call cV l' af)) rem loc st=some (r,bB,af)) D total (aq env sc++(new++[D])) σ₀ s₀) ?_ rem.length ⟨rfl,h,hr,mz,Au,qe,qf,qg⟩;rintro k s2 @⟨σ2,Js,ak,kC,T',r2,hk,g1,r8,R2,F2,H2,a2,X2⟩;show wpAny _ A ((compTurn (.ListComp elt [⟨t1,i1,[],0⟩,⟨t2,i2,[],0⟩] scope pos) 1 it (.ref D) env).onRaise (fun x=>do noteFrame x env;theTreesLotGoes x)) _ _ s2;refine wpAny_noted ?_;rw[EJ];refine wpAny_bind (wpAny_standAt (wpAny_bind ?_));cases kC with
 |nil=>
  refine Vc g1 fun gk g1=>?_
  ·(obtain⟨rfl,rfl,rfl⟩:=Le g1)
   refine I.stop bu kA r7 ok.1 H2 R2 gk fun s3 R3 tr X3=>wpAny_pure ?_;refine gP fun GP kP=>?_;obtain⟨l,m,g,H⟩:=a2;have DN:D∉σ2:=fun q=>R2.apart _ q (kA _ hD);simp at r8;cases r8;refine kP ?_;exact fin σ2 s3 R3 (F2.move R2 X3 bu kA tr) ⟨l,m,X3.keep _ _ g DN kN,H.imp tr⟩ (X2.trans (X3.aN wN))
 |cons d kC=>
  refine gP fun GP kQ5=>?_;refine Vd g1 fun gk g1=>?_
  ·refine gP fun GP MT=>?_
   refine bO g1 fun l3 g2 g1=>bP g1 fun x Zd g5 g1=>mT g1 fun r3 l5 Ze g6 e=>?_;dsimp only at e;cases e;refine MT ?_;refine kQ5 ?_;refine I.next bu ok.1 H2 R2 gk fun v s3 Aq=>?_
   refine wpAny_bind (Aq fun s4 R4 V4 H4 X4=>wpAny_bind ?_);haveI F4:=F2.step R2 X4 bu;haveI a4:=a2.ext R2 (kA _ hD) X4 kN (zk bu);refine HP ok.1 eo R4 F4 V4 g2 fun s5 R5 F5 X5=>wpAny_bind (wpAny_bind ?_);haveI H5:=I.keep bu H4 R4 X5 yc (F4.dg (W:=[]));haveI a5:=a4.ext R4 (kA _ hD) X5 (a4.my F4) (F4.dg (W:=[]));refine HE ok eo R5 F5 g5 fun σ7 v7 s7 R7 V7 X7=>?_;haveI F7:=F5.ext R5 X7;haveI H7:=I.keep bu H5 R5 X7 jM (iQ rfl);haveI a7:=a5.ext R5 (kA _ hD) X7 (fun h=>nomatch h) (iQ rfl);haveI X:Ext (aq env sc++(new++[D])) σ₀ s₀ σ7 s7:=((X2.trans (X4.aN wN)).trans (X5.aN wF)).trans X7.ek;refine wpAny_bind (a7.push R7 (kA _ hD) V7 ?_ fun s8 R8 a8 X8=>wpAny_pure (wpAny_pure ⟨rfl,?_⟩))
   ·rw[←r8,List.length_append]at dn;exact aO 0x22100000102000201 rt dn
   ·refine⟨kC.length,hk▸Nat.lt_succ_self _,rfl,g6,by simp only[←r8];simp,R8,F7.step R7 X8 zD,I.keep bu H7 R7 X8 ?_ (zk zD),a8,X.trans (X8.aN wD)⟩
    intro a ha q;simp at ha;cases ha;exact kN q
theorem uw{A:Around}{elt t1 i1 t2 i2:Expr}{scope:Scope}{pos:Pos}{it:Value}{D:Addr}{Z0:List Addr}{new:List Addr}{S:List Addr→List V→List Addr→Heap→Prop}{p p2:cD}{gs:List (Nat×List V)}{iI cV:Internal.E}{af:St}{s₀:Shared}{σ₀:List Addr}
  (ok:Ok A n) (eo:bl env sc) (I:za prog w base it (some t1) gs new S) (bu:∀a∈new,a∈Z) (hD:D∈Z) (kN:D∉new) (kA:∀a∈Z0,a∈Z) (r7:∀a∈new,a∉Z0)
  (HP:gw prog w base sc t1 p) (VM:fH prog w base P call n sc i2 (some t2) .seq iI) (Az:∀env x,foldedSetIterable i2 env x=pure x) (VN:gw prog w base sc t2 p2) (HE:av prog w base P call n sc elt cV)
  (yc:∀a∈aq env sc,a∉new) {total:List V} (dn:total.length≤ah) {R:Result→Shared→Prop} (ed:∀a∈aq env sc++(new++[D]),s₀.heap.get? a=none)
  (fin:∀σ' s' W,Rel base Z0 σ' af s'.heap→Acc Z0 σ' s'.heap D total→D∉σ'→(∃m,s'.heap.Ns env.locals m)→env.locals∉σ'→(∀a∈W,s₀.heap.get? a=none)→Ext W σ₀ s₀ σ' s'→R (.ok .next) s')
  {rem ds r:List V} {s:Shared} {σ:List Addr} {st:St} {loc:Loc} (h:bf p gs (fun l' af=>(one (ev P call iI l' af)).bind fun(x,ak)=>(fT x ak).bind fun pL=>
     cG p2 pL.guards (fun l' af=>one (ev P call cV l' af)) pL.items l' ak) rem loc st=some (r,af)) (hr:ds++r=total)
  (mz:Rel base Z σ st s.heap) (Au:FS base Z σ s.heap env sc loc) (qe:S Z rem σ s.heap) (qf:Acc Z σ s.heap D ds) (qg:Ext (aq env sc++(new++[D])) σ₀ s₀ σ s):
  codeAny (model prog w) A (.compLoop (.ListComp elt [⟨t1,i1,[],0⟩,⟨t2,i2,[],0⟩] scope pos) 0 it (.ref D) env) R s:=by
 have wF:∀a∈aq env sc,a∈aq env sc++(new++[D]):=fun a ha=>List.mem_append_left _ ha;have wN:∀a∈new,a∈aq env sc++(new++[D]):=fun a ha=>List.mem_append_right _ (List.mem_append_left _ ha);haveI wD:∀a∈[D],a∈aq env sc++(new++[D]):=fun a ha=>List.mem_append_right _ (List.mem_append_right _ ha);haveI zk:∀{s:Shared} {W:List Addr},(∀a∈W,a∈Z)→∀a∈W,a∈Z∨(∃c,s.heap.IsCell a c)∨(∃m,s.heap.Ns a m)∨s.heap.get? a=none:=fun h a ha=>.inl (h a ha);generalize VO:EF base Z env sc S (fun rem loc st r=>bf p gs (fun l' af=>(one (ev P call iI l' af)).bind fun(x,ak)=>(fT x ak).bind fun pL=>cG p2 pL.guards (fun l' af=>one (ev P call cV l' af)) pL.items l' ak) rem loc st=some (r,af)) D total (aq env sc++(new++[D])) σ₀ s₀=LI;refine codeAny_loop rfl LI ?_ rem.length (VO▸⟨rfl,h,hr,mz,Au,qe,qf,qg⟩);intro k s2 HI;rw[←VO]at HI;obtain @⟨σ2,Js,ak,kC,T',r2,hk,g1,r8,R2,F2,H2,a2,X2⟩:=HI;show wpAny _ A ((compTurn (.ListComp elt [⟨t1,i1,[],0⟩,⟨t2,i2,[],0⟩] scope pos) 0 it (.ref D) env).onRaise (fun x=>do noteFrame x env;theTreesLotGoes x)) _ _ s2;refine wpAny_noted ?_;rw[EI];refine wpAny_bind (wpAny_standAt (wpAny_bind ?_));cases kC with
 |nil=>
  refine Ve g1 fun gk g1=>?_
  ·(haveI Ee:=(t5 g1).1;haveI z7:=(t5 g1).2;subst Ee;subst z7)
   refine I.stop bu kA r7 ok.1 H2 R2 gk fun s3 R3 tr X3=>wpAny_pure ?_;refine gP fun GP kP=>?_;obtain⟨l,m,g,H⟩:=a2;haveI DN:D∉σ2:=fun q=>R2.apart _ q hD;refine b9 (F2.ns) fun mm hn _=>?_;refine kP ?_;refine gP fun GP kP=>?_;obtain⟨o,es,ep,e,hh⟩:=hn;simp at r8;cases r8;refine kP ?_;exact fin σ2 s3 _ R3 ⟨l,m,X3.keep _ _ g DN kN,H.imp tr⟩ DN ⟨mm,o,es,ep,X3.keep _ _ e F2.vz (fun q=>F2.lz (bu _ q)),hh⟩ F2.vz ed (X2.trans (X3.aN wN))
 |cons d kC=>
  refine Vf g1 fun gk g1=>?_
  ·refine bO g1 fun l3 g2 g1=>bT g1 fun ra l5 Ze g1 g3=>mP g3 fun r3 st6 g8 e=>bP g1 fun xs Zd g5 g1=>bO g1 fun pL g6 g7=>?_
   refine gP fun GP kP=>?_;cases e;refine kP ?_;refine I.next bu ok.1 H2 R2 gk fun v s3 Aq=>?_
   refine wpAny_bind (Aq fun s4 R4 V4 H4 X4=>wpAny_bind ?_);have F4:=F2.step R2 X4 bu;haveI a4:=a2.ext R2 hD X4 kN (zk bu);refine HP ok.1 eo R4 F4 V4 g2 fun s5 R5 F5 X5=>wpAny_bind ?_;haveI H5:=I.keep bu H4 R4 X5 yc (F4.dg (W:=[]));haveI a5:=a4.ext R4 hD X5 (a4.my F4) (F4.dg (W:=[]));haveI X:Ext (aq env sc++(new++[D])) σ₀ s₀ σ2 s5:=(X2.trans (X4.aN wN)).trans (X5.aN wF);refine wpAny_mono (VM (E:=notedBy (model prog w) A env _) ok eo R5 F5 (aE g5) (itx:=pL) g6 fun σ6 s6 Li Ni S2 R6 X6 hd2 I2 H6=>?_) (fun x s' hx=>wpAny_bind (wpAny_standAt (wpAny_bind (wpAny_of_eq (Az env x) (wpAny_bind (wpAny_holding hx)))))) fun _ _ h=>h;haveI F6:=F5.enter R5 X6 hd2;haveI hD6:s5.heap.get? D≠none:=R5.alive _ hD
   haveI a6:Acc (Ni++Z) σ6 s6.heap D T':=by
    obtain⟨l,m,g,H⟩:=a5;exact⟨l,m,X6.keep _ _ g (fun q=>R5.apart _ q hD) (fun h=>nomatch h),H.imp fun v d x=>VR.rV R5 X6 hd2 x⟩
   haveI Ua:D∉Ni:=fun q=>hD6 (hd2 _ q)
   have key:codeAny (model prog w) A (.compLoop (.ListComp elt [⟨t1,i1,[],0⟩,⟨t2,i2,[],0⟩] scope pos) 1 Li (.ref D) env) (fun r s'=>match r with
     |.ok f=>wpAny (model prog w) A (again (.compLoop (.ListComp elt [⟨t1,i1,[],0⟩,⟨t2,i2,[],0⟩] scope pos) 0 it (.ref D) env)) (fun fin s'=>match fin with
      |.done f=>R (.ok f) s'
      |.again c'=>c'=.compLoop (.ListComp elt [⟨t1,i1,[],0⟩,⟨t2,i2,[],0⟩] scope pos) 0 it (.ref D) env∧∃m,m<k∧LI m s') (notedBy (model prog w) A env fun e s'=>R (.error e) s') s'
     |.error e=>cameBackBy (model prog w) A env (notedBy (model prog w) A env fun e s'=>R (.error e) s') e s') s6:=by
    refine sf (Z0:=Z) (σ₀:=σ2) (s₀:=s5) (total:=T'++ra) ok eo I2 (fun a ha=>List.mem_append_left _ ha) hD Ua (fun a ha=>List.mem_append_right _ ha) (fun a ha q=>R5.alive a q (hd2 a ha)) VN HE (fun a ha q=>F5.alive ha (hd2 a q)) ?_ (fun σ7 s7 R7 F7 a7 X7=>?_) g7 rfl R6 F6 H6 a6 X6.ek
    ·rw[←r8]at dn;simp at dn⊢;exact bS 0x22201000200203010200201 rt dn
    ·refine wpAny_pure ⟨rfl,kC.length,hk▸Nat.lt_succ_self _,VO▸⟨rfl,g8,by simp only[←r8];simp,R7,F7,?_,a7,?_⟩⟩
     ·refine I.keep bu H5 R5 X7 (fun a ha q=>?_) fun a ha=>?_
      ·rcases List.mem_append.mp ha with h|h
       ·exact yc a h q
       ·rcases List.mem_append.mp h with h|h
        ·exact R5.alive a (bu a q) (hd2 a h)
        ·simp at h;cases h;exact kN q
      ·rcases List.mem_append.mp ha with h|h
       ·exact F5.dg (W:=[]) a h
       ·rcases List.mem_append.mp h with h|h
        ·exact .inr (.inr (.inr (hd2 a h)))
        ·simp at h;cases h;exact .inl hD
     ·exact X.trans (X7.sub fun a ha=>by
       rcases List.mem_append.mp ha with h|h
       ·exact .inl (wF a h)
       ·rcases List.mem_append.mp h with h|h
        ·exact .inr (hd2 a h)
        ·exact .inl (wD a h))
   exact wpAny_bind (wpAny_runOwn (Ju key fun E=>I2.again H6 key))
theorem n7{t1 i1 t2 i2 elt:Expr}{scope:Scope}{pos px:Pos}{EH:Pos}{src iI cV:Internal.E}{sk:SK}{p p2:cD}{x:Str}
  (Lj:∀env,bl env sc→swapsWith (.ListComp elt [⟨t1,i1,[],0⟩,⟨t2,i2,[],0⟩] scope pos) (some (.Name x px)) EH.line env=pure true) (hx:sc.lookup x=some .local)
  (HI:fH prog w base P call n sc i1 (some t1) sk src) (hf:∀env x,foldedSetIterable i1 env x=pure x) (ck:dD sc scope)
  (HP:gw prog w base scope.names t1 p) (VM:fH prog w base P call n scope.names i2 (some t2) .seq iI) (Az:∀env x,foldedSetIterable i2 env x=pure x) (VN:gw prog w base scope.names t2 p2) (HE:av prog w base P call n scope.names elt cV):
  df prog w base P call n sc (.Assign [.Name x px] (.ListComp elt [⟨t1,i1,[],0⟩,⟨t2,i2,[],0⟩] scope pos) EH) (.asg (.var (aU sc x)) (.iu (cH sc scope.names) p sk src p2 iI cV)):=
 fun {env A Z σ s loc bB st af fl Q E} ok eo R F h hq=>by
 refine bP h fun v st1 h1 h=>mO h fun l1 h2 e=>?_;clear h;cases e;refine(exec_Assign_Name_used _ _ _ _ (Lj env eo)).symm▸?_;refine wpAny_bind (wpAny_standAt (wpAny_bind ?_))
 haveI e:evalThenUse (.ListComp elt [⟨t1,i1,[],0⟩,⟨t2,i2,[],0⟩] scope pos) env (assign (.Name x px) env)=(do
   let _ ←comprehension (.ListComp elt [⟨t1,i1,[],0⟩,⟨t2,i2,[],0⟩] scope pos) scope env (firstIterPos [⟨t1,i1,[],0⟩,⟨t2,i2,[],0⟩] pos) (newList []) (firstAsync [⟨t1,i1,[],0⟩,⟨t2,i2,[],0⟩]) (firstIter [⟨t1,i1,[],0⟩,⟨t2,i2,[],0⟩] env) (some (assign (.Name x px) env))):=rfl
 refine wpAny_bind ?_;replace h1:=aE h1;refine bP h1 fun vs ak k1 h1=>bO h1 fun itx k2 h1=>bP h1 fun total cO k3 k4=>?_;dsimp only at k4
 split at k4
 ·refine gP fun GP HK=>?_
  rename_i dn
  (haveI pO:=(DL k4).1;haveI Jn:=(DL k4).2;subst pO;subst Jn)
  refine HK ?_;refine mA HI hf ck ok eo R F k1 k2 fun σ1 s4 it new S D jk VJ R4 F4 I H4 a4 ed kN yc X4=>?_
  refine uw (Z0:=Z) (s₀:=s) (σ₀:=σ) ok VJ I (fun a ha=>List.mem_cons_of_mem _ (List.mem_append_left _ ha)) (List.mem_cons_self ..) kN (fun a ha=>List.mem_cons_of_mem _ (List.mem_append_right _ ha))
   (fun a ha q=>R.alive a q (ed a (List.mem_append_right _ (List.mem_append_left _ ha)))) HP VM Az VN HE yc dn ed (fun σ' s' W R' a' uv hn Ay hW X'=>?_) k3 (List.nil_append _) R4 F4 H4 a4 X4.ek
  obtain⟨m,hn⟩:=hn;have gd:s.heap.get? jk.locals=none:=ed _ (List.mem_append_left _ (List.mem_cons_self ..));haveI hD:s.heap.get? D=none:=ed _ (List.mem_append_right _ (List.mem_append_right _ (List.mem_cons_self ..)));refine jZ (oH R R' a' uv hn Ay gd hD X' hW dn) fun g1 g2 g3=>?_;haveI gz:=(R.free gd).2.1;haveI gb:=(R.free gd).2.2;haveI F':=F.ext R g2;haveI gl:=R'.len;refine fi hx (.inl rfl) ok.1 eo g1 F' (.lst (by refine gl▸?_;simp)) h2 fun s2 R2 F2 X2=>?_;obtain⟨o,es,ep,e,hh⟩:=hn;have VL:jk.locals∉aq env sc:=fun q=>F.alive q gd;have HY:s2.heap.Ns jk.locals m:=⟨o,es,ep,X2.keep _ _ e g3 VL,hh⟩;refine⟨m,HY,fun h' sb=>wpAny_pure (wpAny_pure ?_)⟩;haveI R3:=(hO (tk:=s2.toks) R2 HY g3 gz gb sb).1;haveI X3:=(hO (tk:=s2.toks) R2 HY g3 gz gb sb).2;refine hq _ _ {s2 with heap:=h'} rfl R3 (F2.sd R2 HY (fun q=>F.alive (List.mem_cons_self ..) (q▸gd)) sb) ?_
  exact((g2.ek (W:=aq env sc++[jk.locals])).trans ((X2.aN fun a ha=>List.mem_append_left _ ha).trans (X3.aN fun a ha=>List.mem_append_right _ ha))).sub fun a ha=>
   (List.mem_append.mp ha).imp id fun q=>by simp at q;subst q;exact gd
 ·(exact bX k4)
end
section
open PyProof.Rows PySem PySem.Calls PySem.W
theorem fJ{β:Type}:∀{xs:List Str} {vs:List β} {i:Nat} {x:Str} {v:β},xs.Nodup→xs[i]? =some x→vs[i]? =some v→(xs.zip vs).lookup x=some v
 |[],_,i,_,_,_,h,_=>by injection h
 |_::_,[],i,_,_,_,_,h=>by injection h
 |y::xs,u::vs,i,x,v,hn,h1,h2=>by
  rw[List.nodup_cons]at hn;cases i with
  |zero=>simp at h1 h2;subst h1 h2;simp[List.lookup_cons]
  |succ i=>
   simp at h1 h2;have jK:(x==y)=false:=by simpa using fun e:x=y=>hn.1 (e▸List.mem_of_getElem? h1)
   simp only[List.zip_cons_cons,List.lookup_cons,jK];exact fJ hn.2 h1 h2
theorem fW{β:Type}:∀{xs:List Str} {vs:List β} {x:Str},x∉xs→(xs.zip vs).lookup x=none
 |[],_,_,_=>rfl
 |_::_,[],_,_=>rfl
 |y::xs,u::vs,x,h=>by
  simp only[List.zip_cons_cons,List.lookup_cons,show(x==y)=false by simpa using fun e:x=y=>h (e▸List.mem_cons_self ..)];exact fW fun q=>h (List.mem_cons_of_mem _ q)
theorem lookup_append{β:Type}{x:Str}:∀{l r:List (Str×β)},(l++r).lookup x=(l.lookup x).or (r.lookup x)
 |[],r=>by simp
 |(y,v)::l,r=>by
  dsimp only[List.cons_append,List.lookup_cons,List.lookup_cons];cases hx:x==y with
  |true=>rfl
  |false=>exact lookup_append
noncomputable def fK{β:Type}:List (Str×β)→List (Str×β)→List (Str×β)
 |slots,[]=>slots
 |slots,(n,d)::r=>fK (if(slots.lookup n).isNone then slots++[(n,d)]else slots) r
theorem eG{β:Type}{x:Str}:∀(l slots:List (Str×β)),(fK slots l).lookup x=(slots.lookup x).or (l.lookup x)
 |[],slots=>(Option.or_none ..).symm
 |(n,d)::r,slots=>by
  refine(eG r _).trans ?_;rw[List.lookup_cons]
  by_cases hs:(slots.lookup n).isNone=true
  ·rw[if_pos hs,lookup_append]
   by_cases hx:x=n
   ·subst hx
    haveI:slots.lookup x=none:=by simpa using hs
    simp[this,List.lookup_cons]
   ·have M7:(x==n)=false:=by simpa using hx
    simp[M7,List.lookup_cons]
  ·rw[if_neg hs]
   by_cases hx:x=n
   ·subst hx
    cases q:slots.lookup x with
    |none=>haveI hs:=q▸hs;simp at hs
    |some u=>rfl
   ·have M7:(x==n)=false:=by simpa using hx
    simp[M7]
theorem dE(f:Str×Value→List (Str×Value)→Sem (ForInStep (List (Str×Value))))(hf:∀x l,f x l=if(l.lookup x.1).isNone=true then pure (ForInStep.yield (l++[(x.1,x.2)]))else pure (ForInStep.yield l)):
  ∀(l slots:List (Str×Value)),forIn l slots f=(pure (fK slots l):Sem (List (Str×Value)))
 |[],slots=>by simp only[List.forIn_nil];rfl
 |(n,d)::r,slots=>by
  simp only[List.forIn_cons,hf];show _=(pure (fK (if(slots.lookup n).isNone then slots++[(n,d)]else slots) r):Sem (List (Str×Value)));rcases Classical.em ((slots.lookup n).isNone=true)with hs|hs
  ·simp only[hs,pure_bind];exact dE f hf r _
  ·simp only[hs,if_false,pure_bind];exact dE f hf r _
theorem kD{β:Type}:∀(ys:List Str) (us:List β) (f:Str→Option β),ys.length=us.length→(∀(i:Nat) y u,ys[i]? =some y→us[i]? =some u→f y=some u)→ys.filterMap (fun n=>(f n).map (n,·))=ys.zip us:=by
 intro ys
 induction ys with
 |nil=>intro us f h _;rfl
 |cons y ys ih=>
  intro us f h hf;cases us with
  |nil=>injection h
  |cons u us=>
   rw[List.filterMap_cons,hf 0 y u rfl rfl];simp only[Option.map_some,List.zip_cons_cons];rw[ih us f (by simpa using h) fun i a b e1 e2=>hf (i+1) a b (e1) (e2)]
theorem ye{fd:FuncData}{as:List Arg}{kd:List (Option Expr)}{ds:List Expr}{vals dl:List Value}{s:Shared}(hp:fd.params=⟨[],as,none,[],kd,none,ds⟩)(hn:(as.map (·.arg)).Nodup)(h1:vals.length≤as.length)(h2:as.length≤vals.length+dl.length)(h3:dl.length≤as.length)
  (hd:(fd.defaults=.none∧dl=[])∨∃T o n,fd.defaults=.ref T∧s.heap.get? T=some o∧o.data=.seq dl.toArray n):
  BindsTo s fd ⟨vals,[]⟩ ((as.map (·.arg)).zip (vals++dl.drop (dl.length+vals.length - as.length))):=by
 intro M A E Q hq;unfold bindArgs;refine hp.symm▸?_
 haveI hz:∀(k:Option (Array Value)→Sem (List (Str×Value))),wpAny M A (k (if dl=[]∧fd.defaults=.none then none else some dl.toArray)) Q E s→wpAny M A (seqItems? fd.defaults >>= k) Q E s:=fun k hk=>by
  rcases hd with⟨e1,e2⟩|⟨T,o,n,e1,e2,e3⟩
  ·refine e1.symm▸?_
   rw[if_pos ⟨e2,e1⟩]at hk;exact wpAny_bind (wpAny_of_eq (a:=none) rfl hk)
  ·refine e1.symm▸?_
   rw[if_neg (e1.symm▸(fun q=>nomatch q.2))]at hk;exact wpAny_bind (wpAny_seqItems e2 e3 hk)
 dsimp only[List.map_nil,List.nil_append];refine hz _ ?_
 have Jc:((if dl=[]∧fd.defaults=.none then none else some dl.toArray:Option (Array Value)).getD #[]).toList=dl:=by
  split
  ·rename_i h;simp only[h.1];rfl
  ·rfl
 refine Jc.symm▸?_;simp only[List.map_nil,List.nil_append,List.append_nil,List.length_map,List.forIn_nil,pure_bind,List.isEmpty_nil,Bool.not_true,Bool.false_eq_true,if_false,Option.isNone_none,Bool.and_true];generalize hxs:as.map (fun x=>x.arg)=xs at hn hq⊢;haveI hlen:xs.length=as.length:=by refine hxs▸?_;simp
 haveI Nj:dl.drop (dl.length - as.length)=dl:=by refine(show dl.length - as.length=0 by exact aO 0x21212021111021211021111010020102000221020060100220101671201001 rt h3 (bE _ _)).symm▸?_;rfl
 refine Nj.symm▸?_;rw[if_neg (by simp;exact aC 0x22100000100001 rt h1)]
 haveI Nk:(List.take (as.length - dl.length) xs).filter (fun n=>((xs.zip vals).lookup n).isNone)=[]:=by
  rw[List.filter_eq_nil_iff];intro x hx;obtain⟨i,hi⟩:=List.mem_iff_getElem?.mp hx;rw[List.getElem?_take]at hi;refine dk hi fun dB hi=>?_;have hv:i<vals.length:=yZ 0x21212202121100010203040222030060140230201671400011301022001 rt h2 dB (bE _ _);refine(fJ hn hi (show vals[i]? =some vals[i] by simp[hv])).symm▸?_;simp
 refine Nk.symm▸?_;rw[dE _ (fun _ _=>rfl)];refine wpAny_bind (wpAny_pure (wpAny_pure ?_));rw[kD xs (vals++dl.drop (dl.length+vals.length - as.length)) _ (by simp;exact y7 0x212121112110221112121110211111210211111210212111212110211121112021111121021111121201020020104023050221040230060150230104021671405020224050060120250401671300021401023001301001 rt h1 h2 hlen (bE _ _) (bE _ _)) fun i x u e1 e2=>?_]
 ·exact hq
 ·rw[eG]
  by_cases hi:i<vals.length
  ·rw[List.getElem?_append_left hi]at e2
   refine(fJ hn e1 e2).symm▸?_;rfl
  ·haveI fE:vals.length≤i:=Nat.le_of_not_lt hi
   simp only[List.getElem?_append_right fE,List.getElem?_drop]at e2
   haveI Nm:(xs.zip vals).lookup x=none:=by
    haveI:(xs.zip vals)=((xs.take vals.length).zip vals):=by
     rw[List.zip_eq_zip_take_min];simp only[List.zip_eq_zip_take_min (l₁:=xs.take vals.length)];simp[List.take_take,Nat.min_comm]
    refine this.symm▸?_;refine fW fun q=>?_;obtain⟨j,hj⟩:=List.mem_iff_getElem?.mp q;rw[List.getElem?_take]at hj;refine dk hj fun VP hj=>?_;haveI:=(List.getElem?_inj (cN e1) hn).mp (e1.trans hj.symm);exact hi (this▸VP)
   refine Nm.symm▸?_;refine fJ (i:=i - (as.length - dl.length)) (hn.sublist (List.drop_sublist _ _)) ?_ ?_
   ·simp only[List.getElem?_drop,←e1];congr 1;exact y7 0x2111121110211121111021111211102111211110211122202111112110211121102111112112010002203050002230500601002503016712000102220000601102002016714020181504023001 rt h2 hi (bE _ _) (bE _ _)
   ·simp only[←e2];congr 1;exact nS h2 h3 fE
def AA(v:Value)(d:V):Prop:=∀(Z σ:List Addr) (hp:Heap),VR Z σ hp v d
inductive sg(prog:Program)(w:World)(K:Frag)(base:Heap)(P:Pg)(a:Addr)(f:FI):Prop
 |mk(o)(fd)(as)(kd)(ds)(body)(dl)(p1:K.lookup a=some o)(p2:o.data=.func fd)(p3:fd.scope.isCoroutine=false)(p4:fd.scope.isGenerator=false)(p5:fd.scope.kind=.function)(p6:fd.body=.stmts body)(p7:codeIn K fd.code fd.qualname=true)(p8:fd.closure=[])(p9:fd.globals=mainGlobals)(EK:fd.builtins=builtinsNs)(Lk:fd.params=⟨[],as,none,[],kd,none,ds⟩)(Nn:(fd.scope.names.map (·.1)).Nodup)(Ln:(∀x,(x,NameKind.free)∉fd.scope.names))(p14:f.n=fd.scope.names.length)(p15:f.np=as.length)(p16:(fd.scope.names.take f.np).map (·.1)=as.map (·.arg))(p17:(∀p∈fd.scope.names.take f.np,p.2=.local∨p.2=.cell))(p18:f.defaults.length≤f.np)(p19:dl.length=f.defaults.length)(p20:(∀(i:Nat) v d,dl[i]? =some v→f.defaults[i]? =some d→AA v d))(p21:((fd.defaults=.none∧dl=[])∨∃T o n,fd.defaults=.ref T∧K.lookup T=some o∧o.data=.seq dl.toArray n))(p22:∀(call:bj) (n:Nat),lR prog w base call n→(∀a vs st r,call a vs st=some r→keepIn K (.ref a)=true)→kz prog w base P call n fd.scope.names body f.body)(keep:keepIn K (.ref a)=true):sg prog w K base P a f
theorem sg.keep{prog:Program}{w:World}{K:Frag}{base:Heap}{P:Pg}{a:Addr}{f:FI}(H:sg prog w K base P a f):keepIn K (.ref a)=true:=match H with|.mk _ _ _ _ _ _ _ _ _ _ _ _ _ _ _ _ _ _ _ _ _ _ _ _ _ _ _ _ _ k=>k
theorem AA.vr(h:AA v d)(Z σ) hp:VR Z σ hp v d:=h Z σ hp
theorem mC{kindOf:Str→Option NameKind}{x:Str}:∀{binds:List (Str×Value)} {m:Str→Option Value},x∉binds.map (·.1)→bindL kindOf binds m x=m x
 |[],m,_=>rfl
 |(y,v)::r,m,h=>by
  dsimp only[bindL];rw[mC fun q=>h (List.mem_cons_of_mem _ q)];have xF:x≠y:=fun e=>h (by rw[e];exact List.mem_cons_self ..)
  split
  ·simp[xF]
  ·rfl
theorem mD{kindOf:Str→Option NameKind}{x:Str}:∀{binds:List (Str×Value)} {m:Str→Option Value},x∉binds.map (·.1)→bindC kindOf binds m x=m x
 |[],m,_=>rfl
 |(y,v)::r,m,h=>by
  dsimp only[bindC];rw[mD fun q=>h (List.mem_cons_of_mem _ q)];have xF:x≠y:=fun e=>h (by rw[e];exact List.mem_cons_self ..)
  split
  ·rfl
  ·simp[xF]
theorem oJ{kindOf:Str→Option NameKind}{x:Str}{v:Value}:∀{binds:List (Str×Value)} {m:Str→Option Value},(binds.map (·.1)).Nodup→(x,v)∈binds→kindOf x=some .local→bindL kindOf binds m x=some v
 |(y,u)::r,m,hn,h,hk=>by
  rw[List.map_cons,List.nodup_cons]at hn;dsimp only[bindL];rcases List.mem_cons.mp h with e|e
  ·cases e
   rw[mC hn.1,if_pos hk];simp
  ·exact oJ hn.2 e hk
theorem oK{kindOf:Str→Option NameKind}{x:Str}{v:Value}:∀{binds:List (Str×Value)} {m:Str→Option Value},(binds.map (·.1)).Nodup→(x,v)∈binds→kindOf x≠some .local→bindC kindOf binds m x=some v
 |(y,u)::r,m,hn,h,hk=>by
  rw[List.map_cons,List.nodup_cons]at hn;dsimp only[bindC];rcases List.mem_cons.mp h with e|e
  ·cases e
   rw[mD hn.1,if_neg hk];simp
  ·exact oK hn.2 e hk
end
section
open PyProof.Rows PySem PySem.Calls PySem.W
variable{prog:Program}{w:World}{K:Frag}{base:Heap}{P:Pg}{call:bj}{n:Nat}{sc:List (Str×NameKind)}
variable{Z σ:List Addr}{st:St}{s:Shared}{env:Env}{loc:Loc}
theorem kE{cs:List (Str×Addr)}(h:cs.Pairwise fun x y=>x.2≠y.2){x y:Str}{c:Addr}(h1:cs.lookup x=some c)(h2:cs.lookup y=some c):x=y:=by
 refine gP fun GP kQ=>?_
 induction cs with
 |nil=>(exact bX h1)
 |cons p r ih=>
  obtain⟨z,a⟩:=p;rw[List.pairwise_cons]at h;rw[List.lookup_cons]at h1 h2;have mem:∀{u:Str} {b:Addr},r.lookup u=some b→(u,b)∈r:=fun e=>mem_of_lookup e
  by_cases hx:x=z
  ·by_cases hy:y=z
   ·refine kQ ?_;simp only[hx,hy]
   ·subst hx
    simp at h1;subst h1;rw[show(y==x)=false by simpa using hy]at h2;exact absurd rfl (h.1 (y,a) (mem (by simpa using h2)))
  ·rw[show(x==z)=false by simpa using hx]at h1
   by_cases hy:y=z
   ·subst hy
    simp at h2;subst h2;exact absurd rfl (h.1 (x,a) (mem (by simpa using h1)))
   ·rw[show(y==z)=false by simpa using hy]at h2
    exact ih h.2 h1 h2
theorem EL(g:Gd K base)(H:sg prog w K base P a f)(SC:lR prog w base call n)(cx:∀a vs st r,call a vs st=some r→keepIn K (.ref a)=true){args:List Value}{Q:Value→Shared→Prop}{E:Value→Shared→Prop}
  (h:f.run P call vs st=some (v,af)) (ok:Ok A (n+1)) (R:Rel base Z σ st s.heap) (hA:aj Z σ s.heap args vs)
  (hq:∀σ' v' s',Rel base Z σ' af s'.heap→VR Z σ' s'.heap v' v→Ext [] σ s σ' s'→Q v' s'):
  codeAny (model prog w) A (.call (.ref a) ⟨args,[]⟩) (fun r s'=>match r with|.ok (.ret v)=>Q v s'|.ok _=>False|.error e=>E e s') s:=by
 obtain⟨o,fd,as,kd,ds,body,dl,h1,h2,h3,h4,h5,h6,h7,h8,h9,h10,h11,Np,Nq,h13,Lp,Ub,Zf,h17,Nr,h19,h20,h21,_⟩:=H;have X:K.In s.heap:=g.X.keeps R.keep;refine vg (g.T) fun p loose mg mb T=>?_;have ux:s.heap.NoLimit:=T.nolimit.keeps R.keep;refine tX h fun Zg h=>?_
 ·have EP:vs.length≤f.np:=aO 0x2121000001020002100101781 rt Zg
  have ER:f.np≤vs.length+f.defaults.length:=aO 0x2212010200000020102110001781 rt Zg;refine bT h fun fl bB st1 VQ pY=>?_;clear h;refine codeAny_call_function (by have:=ok.2.1;exact aO 0x2210001010411120223002211 rt this) (X _ _ h1) h2 h3 h4 h6 (codeRec_of X h7) ?_
  have Nt:(as.map (·.arg)).Nodup:=by
   rw[←Ub];exact Np.sublist ((List.take_sublist _ _).map _)
  have hb:=ye (fd:=fd) (as:=as) (kd:=kd) (ds:=ds) (vals:=args) (dl:=dl) (s:=s) h11 Nt (by rw[hA.1,←Lp];exact EP) (by rw[hA.1,←Lp,Nr];exact ER) (by rw[Nr,←Lp];exact h17) (h20.imp id fun⟨T,o,n,e1,e2,e3⟩=>⟨T,o,n,e1,X _ _ e2,e3⟩);refine hb _ _ _ _ ?_;rw[h8];generalize HZ:args++dl.drop (dl.length+args.length - as.length)=full;have VS:full.length=as.length:=by rw[←HZ,List.length_append,List.length_drop,hA.1,Nr,←Lp];exact nL EP ER
  have hFA:aj Z σ s.heap full (vs++f.defaults.drop (f.defaults.length+vs.length - f.np)):=by
   rw[←HZ,hA.1,Nr,←Lp];refine hA.append (aj.drop ⟨Nr,fun i v d e1 e2=>(h19 i v d e1 e2).vr _ _ _⟩ _)
  generalize AB:(as.map (·.arg)).zip full=binds;have Zh:binds.map (·.1)=as.map (·.arg):=by rw[←AB,List.map_fst_zip];simp[VS]
  have Lq:(binds.map (·.1)).Nodup:=by rw[Zh];exact Nt
  have vJ:∀(j:Nat) x jQ,fd.scope.names[j]? =some (x,jQ)→j<f.np→(as.map (·.arg))[j]? =some x∧(jQ=.local∨jQ=.cell):=fun j x jQ e hj=>by
   have e':(fd.scope.names.take f.np)[j]? =some (x,jQ):=by rw[List.getElem?_take,if_pos hj];exact e
   refine⟨?_,Zf _ (List.mem_of_getElem? e')⟩;rw[←Ub,List.getElem?_map,e'];rfl
  have Nu:∀y∈binds,fd.scope.names.lookup y.1=some .local∨fd.scope.names.lookup y.1=some .cell:=fun y hy=>by
   have hm:y.1∈as.map (·.arg):=by rw[←Zh];exact List.mem_map.mpr ⟨y,hy,rfl⟩
   rw[←Ub]at hm;refine gP fun GP kP=>?_;refine b9 (List.mem_map.mp hm) fun q Jv Zi=>?_;obtain⟨j,hj⟩:=List.mem_iff_getElem?.mp (List.mem_of_mem_take Jv);have hk:=Zf q Jv;obtain⟨x,k⟩:=q;have:=(bq Np hj).1;simp only at Zi hk;refine kP ?_;rw[←Zi,this];rcases hk with rfl|rfl
   ·exact .inl rfl
   ·exact .inr rfl
  refine wpAny_newFunctionEnv_cells h5 (fun y hy=>?_) fun env he s1 IC=>⟨ux.keeps IC.toInCall.keep,?_⟩
  ·rcases Nu y hy with q|q
   ·exact .inl q
   ·exact .inr ⟨q,cellsFrom_some _ _ _ (.inl q)⟩
  refine codeAny_func ?_;have Jw:∀x,env.kindOf x=fd.scope.names.lookup x:=fun x=>by rw[he];rfl
  have EV:env.locals=s.heap.objs.size:=by rw[he];rfl
  have uy:env.cells=cellsFrom (s.heap.objs.size+1) fd.scope.names []:=by rw[he];rfl
  have eo:bl env fd.scope.names:=⟨by rw[he];exact h5,by rw[he];exact h9,by rw[he];exact h10,fun x jQ e=>.inl (by rw[Jw];exact e),Np⟩;have k:=IC.toInCall.keep;refine Hq (IC.toInCall.same) fun hh tk qi=>?_;have R1:Rel base Z σ st s1.heap:=by rw[qi]at k⊢;exact R.of_keep k
  have X1:Ext [] σ s σ s1:=by rw[qi]at k⊢;exact .of_keep k
  have dead:∀c,s.heap.objs.size≤c→s.heap.get? c=none:=fun c hc=>by
   cases q:s.heap.get? c with
   |none=>rfl
   |some o=>exact absurd (Heap.lt_size q) (Nat.not_lt.mpr hc)
  have rZ:∀(j:Nat) x jQ d,fd.scope.names[j]? =some (x,jQ)→(((vs++f.defaults.drop (f.defaults.length+vs.length - f.np)).map some)++List.replicate (f.n - f.np) none)[j]? =some (some d)→
    (jQ=.local∨jQ=.cell)∧∃v,(x,v)∈binds∧VR Z σ s.heap v d:=fun j x jQ d e1 e2=>by
   have hl:(vs++f.defaults.drop (f.defaults.length+vs.length - f.np)).length=f.np:=by rw[List.length_append,List.length_drop];exact nL EP ER
   by_cases hj:j<f.np
   ·rw[List.getElem?_append_left (by rw[List.length_map,hl];exact hj),List.getElem?_map]at e2
    obtain⟨n1,n2⟩:=vJ j x jQ e1 hj;refine iG ((vs++f.defaults.drop (f.defaults.length+vs.length - f.np))[j]?) (fun q=>?_) fun d' q=>?_
    ·rw[q]at e2;(exact bX e2)
    ·rw[q]at e2;simp at e2;subst e2
     refine b9 (hFA.get q) fun v Nv Jx=>?_;refine⟨n2,v,?_,Jx⟩;rw[←AB];refine List.mem_of_getElem? (i:=j) ?_;rw[List.getElem?_zip_eq_some];exact⟨n1,Nv⟩
   ·rw[List.getElem?_append_right (by rw[List.length_map,hl];exact aC 0x221000000010181 rt hj),List.getElem?_replicate]at e2
    split at e2<;>cases e2
  have ap:=IC.apart;have cf:=fun x=>cM fd.scope.names [] (s.heap.push {cls:=.type "dict",data:=.dict #[]}) x (fun y c e=>by(exact bX e));have i5:(s.heap.push {cls:=.type "dict",data:=.dict #[]}).objs.size=s.heap.objs.size+1:=Heap.size_push ..;rw[i5]at cf
  have F1:FS base Z σ s1.heap env fd.scope.names (((vs++f.defaults.drop (f.defaults.length+vs.length - f.np)).map some)++List.replicate (f.n - f.np) none):=by
   have hd:=R.free (dead _ (Nat.le_refl s.heap.objs.size));refine⟨?_,⟨_,IC.toInCall.ns,fun j x d e1 e2=>?_⟩,fun j x jQ e1 e2=>?_,fun x y c e1 e2=>kE ap e1 e2,by rw[EV];exact hd.2.2,by rw[EV];exact hd.1,by rw[EV];exact hd.2.1,fun j x jQ d e1 e2=>(rZ j x jQ d e1 e2).1.imp id .inl⟩
   ·have Y9:f.np≤fd.scope.names.length:=by
     have:=congrArg List.length Ub;rw[List.length_map,List.length_map,List.length_take]at this;exact Nat.le_trans (Nat.le_of_eq (Lp.trans this.symm)) (Nat.min_le_right _ _)
    rw[List.length_append,List.length_map,List.length_replicate,List.length_append,List.length_drop,nL EP ER,h13];exact Nat.add_sub_cancel' Y9
   ·refine Mj (rZ j x _ d e1 e2) fun _ v Nv Jx=>?_
    exact⟨v,oJ Lq Nv (by rw[Jw];exact(bq Np e1).1),Jx.of_keep k⟩
   ·refine gP fun GP kQ7=>?_
    rcases e2 with rfl|rfl
    ·refine gP fun GP VU=>?_
     have hm:(x,NameKind.cell)∈fd.scope.names:=List.mem_of_getElem? e1;refine b9 ((cf x).2.1 hm) fun c c1 c2=>?_;have hd:=R.free (dead c (aC 0x22100000101100201 rt c2));refine VU ?_;refine kQ7 ?_;refine⟨c,_,by rw[uy];exact c1,IC.cell x c (by rw[uy];exact c1),hd.2.2,hd.2.1,fun d e=>?_⟩;refine Mj (rZ j x _ d e1 e) fun _ v Nv Jx=>?_;exact⟨v,oK Lq Nv (by rw[Jw,(bq Np e1).1];exact fun q=>nomatch q),Jx.of_keep k⟩
    ·exact absurd (List.mem_of_getElem? e1) (Nq x)
  refine h21 call n SC cx (ok.deeper (env:=env)) eo R1 F1 VQ fun σ2 fw s2 Y2 R2 F2 X2=>?_
  have hW:∀c∈aq env fd.scope.names,c∈([]:List Addr)∨s.heap.get? c=none:=fun c hc=>.inr (by
   rcases iP hc with rfl|⟨x,hx,Zj⟩
   ·rw[EV];exact dead _ (Nat.le_refl _)
   ·refine dead c ?_
    rw[uy]at Zj;rcases(cf x).1 c Zj with⟨q,_⟩|⟨q,_⟩
    ·(exact bX q)
    ·exact aC 0x22100000101100201 rt q)
  have XX:Ext [] σ s σ2 s2:=(X1.ek.trans X2).sub hW;cases fl with
  |next=>(obtain⟨rfl,rfl⟩:=t5 pY);cases Y2;exact hq σ2 _ s2 R2 .zK XX
  |cont=>(exact bX pY)
  |ret d=>(obtain⟨rfl,rfl⟩:=t5 pY);obtain⟨v',rfl,hv⟩:=Y2;exact hq σ2 _ s2 R2 hv XX
structure Jy(prog:Program)(w:World)(K:Frag)(base:Heap)(P:Pg):Prop where
 fns:∀a f,P.fns.lookup a=some f→sg prog w K base P a f
 cls:∀C c,P.cls.lookup C=some c→dd K C c
theorem uz(H:Jy prog w K base P):∀n a vs st r,ae P n a vs st=some r→keepIn K (.ref a)=true
 |0,a,vs,st,r,h=>bX h
 |n+1,a,vs,st,r,h=>HH h (fun f hf _=>(H.fns a f hf).keep) fun c _ hc _ _=>(H.cls a c hc).keep
theorem AF(g:Gd K base)(H:Jy prog w K base P):∀n,lR prog w base (ae P n) n:=by
 intro n
 induction n with
 |zero=>intro a vs st v af A Z σ s args Q E h;exact bX h
 |succ n IH=>
  intro a vs st v af A Z σ s args Q E h ok R hA hq;refine HH h (fun f hf h=>?_) fun c st1 hc hi h=>?_
  ·exact EL g (H.fns a f hf) IH (uz H n) h ok R hA hq
  ·refine gP fun GP kQ9=>?_
   ·refine gP fun GP kQ8=>?_
    ·(obtain⟨rfl,rfl⟩:=t5 h)
     have ck:=H.cls a c hc;have X:K.In s.heap:=g.X.keeps R.keep;obtain⟨hp,gg,d,t,os⟩:=s;refine kQ8 ?_;refine kQ9 ?_;refine make_core (makes_of X ck.make) (looks_findIn X ck.init.1) (fun self=>bind_fn X self (by have:=ck.init.2;unfold isFn at this;simpa using this)) (.inl rfl) ?_;have hn:hp.get? hp.objs.size=none:=bo hp;have R1:Rel base Z (σ++[hp.objs.size]) (st++[.inst []]) (hp.push emptyDict):=Rel.cJ (s:=⟨hp,gg,d,t,os⟩) R rfl fun σ' Nw=>⟨[],0,Heap.get?_push_size _ rfl,⟨rfl,fun i e f h=>by simp at h⟩,Nat.zero_le _⟩;have X1:Ext [] σ ⟨hp,gg,d,t,os⟩ (σ++[hp.objs.size]) ⟨hp.push emptyDict,gg,d,t,os⟩:=.cJ (s:=⟨hp,gg,d,t,os⟩) emptyDict (k:=t);have R2:Rel base Z (σ++[hp.objs.size]) (st++[.inst []]) ((hp.push emptyDict).push (instObj a hp.objs.size)):=Rel.push (s:=⟨hp.push emptyDict,gg,d,t,os⟩) R1 _;have X2:Ext [] (σ++[hp.objs.size]) ⟨hp.push emptyDict,gg,d,t,os⟩ (σ++[hp.objs.size]) ⟨(hp.push emptyDict).push (instObj a hp.objs.size),gg,d,t,os⟩:=.push (s:=⟨hp.push emptyDict,gg,d,t,os⟩) _ (k:=t);have i5:(hp.push emptyDict).objs.size=hp.objs.size+1:=Heap.size_push ..;have hx:hp.objs.size+1∉Z:=by rw[←i5];exact(R1.cQ).2.1
     have vQ:((hp.push emptyDict).push (instObj a hp.objs.size)).get? (hp.objs.size+1)=some (instObj a hp.objs.size):=by rw[←i5];exact Heap.get?_push_size _ rfl
     have hv:VR Z (σ++[hp.objs.size]) ((hp.push emptyDict).push (instObj a hp.objs.size)) (.ref (hp.objs.size+1)) (.obj a st.length):=.obj hx (by rw[←R.len];simp) vQ;have Nx:aj Z (σ++[hp.objs.size]) ((hp.push emptyDict).push (instObj a hp.objs.size)) args vs:=hA.imp fun v d0 h=>VR.ext (s':=⟨(hp.push emptyDict).push (instObj a hp.objs.size),gg,d,t,os⟩) R (X1.trans X2) jM h
     have ok':Ok (A.under (.builtin "type.__call__" ⟨.ref a::args,[]⟩)) n:=by
      refine⟨ok.1,?_,?_⟩
      ·rw[depth_under_make];have:=ok.2.1;exact aO 0x222041102311002221020411110223002211 rt this
      ·rw[units_under_make];have:=ok.2.2;exact aO 0x22206a8110183110022210206a8111102183002211 rt this
     refine codeAny_mono (IH (s:=⟨(hp.push emptyDict).push (instObj a hp.objs.size),gg,d,t,os⟩) hi ok' R2 (.cons hv Nx) (Q:=fun v' s'=>v'=.none∧Q (.ref (hp.objs.size+1)) s') (E:=E) fun σ3 v3 s3 R3 V3 X3=>?_) fun r s' hr=>?_
     ·(obtain rfl:=T6 V3)
      exact⟨rfl,hq σ3 _ s3 R3 (VR.ext R2 X3 jM hv) ((X1.trans X2).trans X3)⟩
     ·cases r with
      |ok fl=>cases fl<;>first|exact hr.elim|exact hr
      |error e=>exact hr
end
section
open PyProof.Rows PySem PySem.Calls PySem.W
noncomputable def atIdx(x:Str):Option Nat:=let k:=bw.findIdx (· ==x);if k<bw.length then some k else none
theorem mE(h:atIdx x=some k):atName k=x∧k<bw.length:=by
 refine xm h (fun hk h=>?_) fun _ h=>?_
 ·(obtain rfl:=cU h)
  refine⟨?_,hk⟩;unfold atName;refine(List.getD_eq_getElem?_getD).symm▸?_;refine(List.getElem?_eq_getElem hk).symm▸?_;haveI:=List.findIdx_getElem (w:=hk);simpa using this
 ·(exact bX h)
noncomputable def dU(e:Expr):Bool:= !(e.ctorIdx==7)
theorem bM(h:dU e=true):∀env x,foldedSetIterable e env x=pure x:=by
 intro env x;cases e<;>first|rfl|cases h
noncomputable def vR:List Expr→Option (Str×List Expr)
 |[a,b]=>(ky a).bind fun n=>(z8 b).map fun t=>(n.1,t.1)
 |_=>none
theorem uA(h:vR l=some (x,es)){GG:Prop}(kk:∀p k q,l=[.Name x p,.Tuple es k q]→GG):GG:=by
 rcases l with _|⟨a,_|⟨b,_|⟨c,r⟩⟩⟩<;>first|exact f9 h|skip
 refine b9 (Option.bind_eq_some_iff.mp (show(ky a).bind _=_ from h)) fun n h1 h2=>?_;refine b9 (Option.map_eq_some_iff.mp h2) fun t h3 h4=>?_;haveI M3:=(Prod.mk.inj h4).1;haveI rH:=(Prod.mk.inj h4).2;subst M3;subst rH;exact kk _ _ _ (by rw[jg h1,pT h3])
theorem AG(h:vR l=some (x,es)):∃p k q,l=[.Name x p,.Tuple es k q]:=uA h fun x1 x2 x3 x4=>⟨x1,x2,x3,x4⟩
noncomputable def Ny(sc:List (Str×NameKind))(es:List Expr):Option cD:=match vR es with
 |some y=>(match de sc y.1,(namesOf y.2).bind (slotsOf sc)with
  |some k,some ks=>some (.nest k ks)
  |_,_=>none)
 |none=>((namesOf es).bind (slotsOf sc)).map .vars
noncomputable def cP(sc:List (Str×NameKind)):Expr→Option cD
 |.Name x _=>(de sc x).map .var
 |.Tuple es _ _=>Ny sc es
 |_=>none
noncomputable def mF(sc:List (Str×NameKind))(scope:Scope):Bool:=
 scope.kind== .function&&decide ((scope.names.map (·.1)).Nodup)&&scope.names.all fun p=>if p.2=.free then sc.lookup p.1==some .cell ||sc.lookup p.1==some .free else true
theorem fk(h:mF sc scope=true):dD sc scope:=by
 unfold mF at h;simp only[Bool.and_eq_true]at h;obtain⟨⟨h1,h2⟩,h3⟩:=h;refine⟨by simpa using h1,of_decide_eq_true h2,fun x hx=>?_⟩;haveI:=List.all_eq_true.mp h3 _ hx;simpa using this
noncomputable abbrev GT:=Str→Option GV
set_option genSizeOf false in
set_option genInjectivity false in
inductive CK where
 |nm(x:Str)
 |at(o:Expr)(attr:Str)(apos:Pos)
 |no
noncomputable def kf(f:Expr)(ks:List Keyword):CK:=match ks with
 |[]=>match ky f with
  |some n=>.nm n.1
  |none=>match xK f with
   |some a=>.at a.1 a.2.1 a.2.2
   |none=>.no
 |_::_=>.no
theorem sl{f:Expr}{ks:List Keyword}{x:Str}(h:kf f ks=.nm x):(∃p,f=.Name x p)∧ks=[]:=by
 cases ks with
 |cons k r=>nomatch h
 |nil=>
  refine⟨?_,rfl⟩;dsimp only[kf]at h;refine iG (ky f) (fun h1=>?_) fun n h1=>?_
  ·replace h:=h1▸h;cases h2:xK f with
   |some n=>simp only[h2]at h;nomatch h
   |none=>simp only[h2]at h;nomatch h
  ·replace h:=h1▸h;cases h;exact⟨_,jg h1⟩
theorem AH{f:Expr}{ks:List Keyword}{o:Expr}{attr:Str}{apos:Pos}(h:kf f ks=.at o attr apos):f=.Attribute o attr apos∧ks=[]:=by
 cases ks with
 |cons k r=>nomatch h
 |nil=>
  refine⟨?_,rfl⟩;dsimp only[kf]at h;refine iG (ky f) (fun h1=>?_) fun n h1=>?_
  ·replace h:=h1▸h;cases h2:xK f with
   |some n=>replace h:=h2▸h;cases h;exact vG h2
   |none=>haveI h:=h2▸h;nomatch h
  ·simp only[h1]at h;nomatch h
noncomputable def Jz(b:Bi)(args:List Expr):Option (Str×List Expr):=match args with
 |[a]=>(ug a).bind fun c=>(ky c.1).bind fun n=>if b=.list∧c.2.2.1.isEmpty then some (n.1,c.2.1)else none
 |_=>none
theorem EW(h:Jz b args=some (y,vU)):b=.list∧∃p q,args=[.Call (.Name y p) vU [] q]:=by
 rcases args with _|⟨a,_|⟨c,r⟩⟩<;>first|exact f9 h|skip
 refine b9 (Option.bind_eq_some_iff.mp (show(ug a).bind _=_ from h)) fun c h1 h2=>?_;refine b9 (Option.bind_eq_some_iff.mp h2) fun n h3 h4=>?_;rcases Classical.em (b=.list∧c.2.2.1.isEmpty)with hb|hb
 ·rw[if_pos hb]at h4
  haveI z7:=(Prod.mk.inj (Option.some.inj h4)).1;haveI uf:=(Prod.mk.inj (Option.some.inj h4)).2;subst z7;subst uf;refine⟨hb.1,n.2,c.2.2.2,?_⟩;haveI e1:=pU h1;rw[jg h3,List.isEmpty_iff.mp hb.2]at e1;rw[e1]
 ·rw[if_neg hb]at h4;exact f9 h4
noncomputable def yf(a:Expr):Option Int:=(M8 a).bind fun c=>match c.1 with
 |.int i=>some i
 |_=>none
theorem jU(h:yf a=some i){GG:Prop}(kk:∀k p,a=.Constant (.int i) k p→GG):GG:=by
 obtain⟨⟨c,k,p⟩,h1,h2⟩:=Option.bind_eq_some_iff.mp h;cases c<;>first|exact f9 h2|(obtain rfl:=Option.some.inj h2;exact kk _ _ (Eg h1))
noncomputable def VV(e:Expr):Option (Sl×Int):=(M9 e).bind fun s=>match s.1,s.2.1,s.2.2.1 with
 |some a,none,none=>(yf a).map fun i=>(.dZ,i)
 |none,some a,none=>(yf a).map fun i=>(.gm,i)
 |none,none,some u=>(Ji u).bind fun v=>if v.1=.USub then(yf v.2.1).map fun i=>(.rev,i)else none
 |_,_,_=>none
theorem JA(h:VV e=some (k,i)):(k=.dZ∧∃a b c,e=.Slice (some (.Constant (.int i) a b)) none none c)∨(k=.gm∧∃a b c,e=.Slice none (some (.Constant (.int i) a b)) none c)∨
  (k=.rev∧∃a b c d,e=.Slice none none (some (.UnaryOp .USub (.Constant (.int i) a b) c)) d):=by
 refine gP fun GP kQ=>?_;obtain⟨⟨lo,hi,st,p⟩,h1,h2⟩:=Option.bind_eq_some_iff.mp h;haveI e1:=Eh h1;rcases lo with _|lo<;>rcases hi with _|hi<;>rcases st with _|st<;>first|exact f9 h2|skip
 ·obtain⟨⟨op,x,q⟩,h3,h4⟩:=Option.bind_eq_some_iff.mp (show(Ji st).bind _=_ from h2)
  rcases Classical.em (op=.USub)with ho|ho
  ·subst ho
   refine b9 (Option.map_eq_some_iff.mp h4) fun j h5 h6=>?_;haveI VW:=(Prod.mk.inj h6).1;haveI VX:=(Prod.mk.inj h6).2;subst VW;subst VX;refine jU h5 fun a b eq2=>?_;obtain rfl:=eq2;refine kQ ?_;exact .inr (.inr ⟨rfl,a,b,_,_,by rw[e1,Ei h3]⟩)
  ·rw[if_neg ho]at h4;exact f9 h4
 ·refine b9 (Option.map_eq_some_iff.mp (show(yf hi).map _=_ from h2)) fun j h5 h6=>?_
  obtain⟨rfl,rfl⟩:=Prod.mk.inj h6;refine jU h5 fun a b eq2=>?_;obtain rfl:=eq2;refine kQ ?_;exact .inr (.inl ⟨rfl,a,b,_,e1⟩)
 ·refine b9 (Option.map_eq_some_iff.mp (show(yf lo).map _=_ from h2)) fun j h5 h6=>?_
  obtain⟨rfl,rfl⟩:=Prod.mk.inj h6;refine jU h5 fun a b eq2=>?_;obtain rfl:=eq2;refine kQ ?_;exact .inl ⟨rfl,a,b,_,e1⟩
noncomputable def VY:Const→E
 |.int i=>.cst (.int i)
 |.str x=>.cst (.str x)
 |.bool b=>.cst (.bool b)
 |.none=>.cst .none
 |_=>.stuck
noncomputable def k3{β:Type}(o:Option NameKind)(a b c:β):β:=match o with
 |some .local=>a
 |some .cell=>a
 |some .free=>a
 |some .globalImplicit=>b
 |_=>c
@[elab_as_elim] theorem k3E {β:Type}{o:Option NameKind}{a b c:β}{M:β→Prop}(h1:∀kd,o=some kd→M a)(h2:o=some .globalImplicit→M b)(h3:M c):M (k3 o a b c):=by
 rcases o with _|kd
 ·exact h3
 ·cases kd with
  |«local»=>exact h1 _ rfl
  |cell=>exact h1 _ rfl
  |free=>exact h1 _ rfl
  |globalImplicit=>exact h2 rfl
  |_=>exact h3
noncomputable def kG{β:Type}(o:Option NameKind)(a b:β):β:=match o with
 |some .globalImplicit=>a
 |_=>b
@[elab_as_elim] theorem VZ {β:Type}{o:Option NameKind}{a b:β}{M:β→Prop}(h1:o=some .globalImplicit→M a)(h2:M b):M (kG o a b):=by
 rcases o with _|kd
 ·exact h2
 ·cases kd with
  |globalImplicit=>exact h1 rfl
  |_=>exact h2
noncomputable def Nz{β:Type}(o:Option GV)(f:V→β)(g:Bi→β)(x y z c:β):β:=match o with
 |some (.val v)=>f v
 |some (.bi b)=>g b
 |some .dY=>x
 |some .zip=>y
 |some .enum=>z
 |none=>c
@[elab_as_elim] theorem EX {β:Type}{o:Option GV}{f:V→β}{g:Bi→β}{x y z c:β}{M:β→Prop}(h1:∀v,o=some (.val v)→M (f v))(h2:∀b,o=some (.bi b)→M (g b))(h3:o=some .dY→M x)(h4:o=some .zip→M y)(h5:o=some .enum→M z)(h6:M c):M (Nz o f g x y z c):=by
 rcases o with _|gv
 ·exact h6
 ·cases gv with
  |val v=>exact h1 v rfl
  |bi b=>exact h2 b rfl
  |dY=>exact h3 rfl
  |zip=>exact h4 rfl
  |enum=>exact h5 rfl
noncomputable def V0{β:Type}(o:Option cD)(l:List Expr)(f:cD→β)(g:cD→Expr→β)(z:β):β:=match o with
 |some p=>match l with
  |[]=>f p
  |c::r=>match r with
   |[]=>g p c
   |_::_=>z
 |none=>z
theorem NA{β:Type}{o:Option cD}{l:List Expr}{f:cD→β}{g:cD→Expr→β}{z:β}{M:β→Prop}(h1:∀p,o=some p→l=[]→M (f p))(h2:∀p c,o=some p→l=[c]→M (g p c))(h3:M z):M (V0 o l f g z):=by
 rcases o with _|p
 ·exact h3
 ·rcases l with _|⟨c,_|⟨d,r⟩⟩
  ·exact h1 p rfl rfl
  ·exact h2 p c rfl rfl
  ·exact h3
noncomputable def V5(G:GT)(sc:List (Str×NameKind))(x:Str):E:=if(x==("__debug__":Str)) ||(x==("__classdict__":Str))then .stuck else k3 (sc.lookup x) (.loc (aU sc x)) (Nz (G x) .cst (fun _=>.stuck) .stuck .stuck .stuck .stuck) .stuck
noncomputable def qj(e:Expr):Bool:=(z8 e).isSome
theorem sr(h:qj e=true){GG:Prop}(kk:∀es k p,e=.Tuple es k p→GG):GG:=by
 obtain⟨y,hy⟩:=Option.isSome_iff_exists.mp h;exact kk _ _ _ (pT hy)
theorem oL(h:qj e=true):∃es k p,e=.Tuple es k p:=sr h fun x1 x2 x3 x4=>⟨x1,x2,x3,x4⟩
noncomputable def Zk(r:Expr→E)(op:PySem.UnaryOp)(a:Expr):E:=match op with
 |.USub=>.neg (r a)
 |.Not=>.not (r a)
 |_=>.stuck
noncomputable def Zm(r:Expr→E)(l:Expr)(ops:List CmpOp)(cs:List Expr):E:=match ops,cs with
 |[op],[c]=>if behindInMarks op c then .stuck else .cmp op (r l) (r c)
 |[o1,o2],[m,c]=>if lastMarks [o1,o2] [m,c]then .stuck else .chain o1 o2 (r l) (r m) (r c)
 |_,_=>.stuck
noncomputable def Zn(r:Expr→E)(op:PySem.BoolOp)(vs:List Expr)(p:Pos):E:=match vs with
 |[]=>.stuck
 |[a]=>r a
 |a::b::rest=>match op with
  |.And=>.and (r a) (r (.BoolOp .And (b::rest) p))
  |.Or=>.or (r a) (r (.BoolOp .Or (b::rest) p))
noncomputable def V6(r:Expr→E)(a i:Expr):E:=match VV i with
 |some (k,j)=>if j=1 then .slice k (r a)else .stuck
 |none=>if gu i then .sub (r a) (r i)else .stuck
noncomputable def V8(r:Expr→E)(o:Expr)(attr:Str):E:=if ou o then .stuck else match atIdx attr with
 |some k=>.attr (r o) k
 |none=>.stuck
noncomputable def V9(G:GT)(sc:List (Str×NameKind))(rl:List Expr→E)(b:Bi)(args:List Expr):E:=match Jz b args with
 |some (y,vU)=>if(y==("__debug__":Str)) || !vU.all notStar then .stuck else
   kG (sc.lookup y) (Nz (G y) (fun _=>.az b (rl args)) (fun _=>.az b (rl args)) (.az b (rl args)) (.dK (rl vU)) (.az b (rl args)) (.az b (rl args))) .stuck
 |none=>.az b (rl args)
noncomputable def Wa(G:GT)(sc:List (Str×NameKind))(r:Expr→E)(rl:List Expr→E)(f:Expr)(x:Str)(args:List Expr):E:=if(x==("__debug__":Str)) || !args.all notStar then .stuck else
 kG (sc.lookup x) (Nz (G x) (fun _=>.call (r f) (rl args)) (fun b=>V9 G sc rl b args) .stuck .stuck .stuck .stuck) (.call (r f) (rl args))
noncomputable def Wb(r:Expr→E)(rl:List Expr→E)(o:Expr)(attr:Str)(apos:Pos)(args:List Expr)(pos:Pos):E:=if ou o || !(apos.endLine==pos.line) || !args.all notStar || !decide (args.length<30)then .stuck else match atIdx attr with
 |some k=>.aF (r o) k (rl args)
 |none=>.stuck
noncomputable def Wc(G:GT)(sc:List (Str×NameKind))(r:Expr→E)(rl:List Expr→E)(f:Expr)(args:List Expr)(ks:List Keyword)(pos:Pos):E:=match kf f ks with
 |.nm x=>Wa G sc r rl f x args
 |.at o attr apos=>Wb r rl o attr apos args pos
 |.no=>.stuck
noncomputable def qLc(rc:Expr→Expr→Expr→List Expr→Scope→E)(elt:Expr)(gens:List Comprehension)(scope:Scope):E:=match gens with
 |[g]=>if g.is_async=0 then rc elt g.target g.iter g.ifs scope else .stuck
 |_=>.stuck
noncomputable def qI(G:GT)(sc:List (Str×NameKind))(rl:List Expr→E)(t:Expr)(x:Str)(args:List Expr)(Lr:SK×E):SK×E:=
 if(x==("__debug__":Str)) || !args.all notStar then(.seq,.stuck)else
 kG (sc.lookup x) (Nz (G x) (fun _=>Lr) (fun _=>Lr) (.dY,rl args) (if qj t then(.zip,rl args)else Lr) (if qj t then(.enum,rl args)else Lr) Lr) Lr
mutual
noncomputable def cE(G:GT):Nat→List (Str×NameKind)→Expr→E
 |0,_,_=>.stuck
 |n+1,sc,e=>match e with
  |.Constant c _ _=>VY c
  |.Name x _=>V5 G sc x
  |.List es _=>.lst (cL G n sc es)
  |.Tuple es _ _=>.tup (cL G n sc es)
  |.BinOp l op r _=>.bin op (cE G n sc l) (cE G n sc r)
  |.UnaryOp op a _=>Zk (cE G n sc) op a
  |.Compare l ops cs _=>Zm (cE G n sc) l ops cs
  |.BoolOp op vs p=>Zn (cE G n sc) op vs p
  |.IfExp c a b _=>.ite (cE G n sc c) (cE G n sc a) (cE G n sc b)
  |.Subscript a i _=>V6 (cE G n sc) a i
  |.Attribute o attr _=>V8 (cE G n sc) o attr
  |.Call f args ks pos=>Wc G sc (cE G n sc) (cL G n sc) f args ks pos
  |.ListComp elt gens scope _=>qLc (iz G n sc) elt gens scope
  |_=>.stuck
noncomputable def cL(G:GT):Nat→List (Str×NameKind)→List Expr→E
 |0,_,_=>.stuck
 |_+1,_,[]=>.nil
 |n+1,sc,e::es=>if notStar e then .cons (cE G n sc e) (cL G n sc es)else .stuck
noncomputable def cI(G:GT):Nat→List (Str×NameKind)→Expr→Expr→SK×E
 |0,_,_,_=>(.seq,.stuck)
 |n+1,sc,t,e=>match ug e with
  |some c=>match kf c.1 c.2.2.1 with
   |.nm x=>qI G sc (cL G n sc) t x c.2.1 (.seq,cE G n sc e)
   |_=>(.seq,cE G n sc e)
  |none=>(.seq,cE G n sc e)
noncomputable def iz(G:GT):Nat→List (Str×NameKind)→Expr→Expr→Expr→List Expr→Scope→E
 |0,_,_,_,_,_,_=>.stuck
 |n+1,sc,elt,t,iter,ifs,scope=>if dU iter&&mF sc scope then V0 (cP scope.names t) ifs
   (fun p=>.comp (cH sc scope.names) p (cI G n sc t iter).1 (cI G n sc t iter).2 (.cst (.bool true)) (cE G n scope.names elt))
   (fun p c=>.comp (cH sc scope.names) p (cI G n sc t iter).1 (cI G n sc t iter).2 (cE G n scope.names c) (cE G n scope.names elt)) .stuck
  else .stuck
end
theorem vV:(if dU iter&&mF sc scope then V0 (cP scope.names t) ifs
   (fun p=>.comp (cH sc scope.names) p (cI G m sc t iter).1 (cI G m sc t iter).2 (.cst (.bool true)) (cE G m scope.names elt))
   (fun p c=>.comp (cH sc scope.names) p (cI G m sc t iter).1 (cI G m sc t iter).2 (cE G m scope.names c) (cE G m scope.names elt)) .stuck
  else .stuck)=iz G (m+1) sc elt t iter ifs scope:=rfl
noncomputable def Wd(sc:List (Str×NameKind)):Expr→Bool
 |.Name id _=>(sc.lookup id).isSome
 |_=>true
noncomputable def Wf(sc:List (Str×NameKind))(line:Nat):Expr→Option Str
 |.Name id pos=>if sc.lookup id==some .local&&pos.line==line then some id else none
 |_=>none
noncomputable def swS:Expr→Bool
 |.Starred ..=>true
 |_=>false
noncomputable def Wg(ts vs:List Expr)(names:List Str):Option (Option (List Str)):=
 if !(ts.length==2 ||ts.length==3) ||vs.length != ts.length then some none else
 if(vs.any swS)then some none else
 if names.length != ts.length ||names.eraseDups.length != names.length then some none else
 if vs.all (foldedForSure 8)then some none else
 if vs.all (constantsAlone 8)then none else
 some (some names)
noncomputable def uB(sc:List (Str×NameKind))(ts:List Expr)(value:Expr):Option (Option (List Str)):=match value with
 |.Tuple vs _ _=>
  if !(ts.all (Wd sc))then none else Wg ts vs (ts.filterMap (Wf sc ((ts.head?.map (·.pos.line)).getD 0)))
 |_=>some none
noncomputable def AI(e:Expr):Bool:=e.ctorIdx==8 ||e.ctorIdx==9 ||e.ctorIdx==10
noncomputable def dW(sc:List (Str×NameKind))(x:Str)(px:Pos)(pos:Pos)(scope:Scope):Bool:=
 sc.lookup x==some .local&&px.line==pos.line&& !(scope.names.any fun(n,k)=>n==x&&(k== .local ||k== .cell))
set_option genSizeOf false in
set_option genInjectivity false in
inductive TK where
 |attr(o:Expr)(a:Str)
 |sub(o i:Expr)
 |tup(es:List Expr)(k:Nat)(p:Pos)
 |nm(x:Str)(p:Pos)
 |no
noncomputable def Wh:List Expr→TK
 |[t]=>match xK t with
  |some a=>.attr a.1 a.2.1
  |none=>match Jk t with
   |some a=>.sub a.1 a.2.1
   |none=>match z8 t with
    |some a=>.tup a.1 a.2.1 a.2.2
    |none=>match ky t with
     |some a=>.nm a.1 a.2
     |none=>.no
 |_=>.no
theorem JB{l:List Expr}{r:TK}(h:Wh l=r):(∃o a p,r=.attr o a∧l=[.Attribute o a p])∨(∃o i p,r=.sub o i∧l=[.Subscript o i p])∨(∃es k p,r=.tup es k p∧l=[.Tuple es k p])∨(∃x p,r=.nm x p∧l=[.Name x p])∨r=.no:=by
 subst h;rcases l with _|⟨t,_|⟨c,r⟩⟩
 ·exact .inr (.inr (.inr (.inr rfl)))
 ·unfold Wh
  dsimp only;cases h1:xK t with
  |some a=>exact .inl ⟨_,_,_,rfl,by rw[vG h1]⟩
  |none=>dsimp only;cases h2:Jk t with
   |some a=>exact .inr (.inl ⟨_,_,_,rfl,by rw[Ek h2]⟩)
   |none=>dsimp only;cases h3:z8 t with
    |some a=>exact .inr (.inr (.inl ⟨_,_,_,rfl,by rw[pT h3]⟩))
    |none=>dsimp only;cases h4:ky t with
     |some a=>exact .inr (.inr (.inr (.inl ⟨_,_,rfl,by rw[jg h4]⟩)))
     |none=>exact .inr (.inr (.inr (.inr rfl)))
 ·exact .inr (.inr (.inr (.inr rfl)))
set_option genSizeOf false in
set_option genInjectivity false in
inductive VK where
 |one(elt t iter:Expr)(ifs:List Expr)(scope:Scope)(p:Pos)
 |two(elt t1 i1 t2 i2:Expr)(scope:Scope)(p:Pos)
 |no
noncomputable def vK(e:Expr):VK:=match Jj e with
 |some c=>match c.2.1 with
  |[g]=>if g.is_async=0 then .one c.1 g.target g.iter g.ifs c.2.2.1 c.2.2.2 else .no
  |[g1,g2]=>if(g1.is_async=0∧g1.ifs=[])∧(g2.is_async=0∧g2.ifs=[])then .two c.1 g1.target g1.iter g2.target g2.iter c.2.2.1 c.2.2.2 else .no
  |_=>.no
 |none=>.no
theorem NB{e:Expr}{r:VK}(h:vK e=r):(∃elt t iter ifs scope p,r=.one elt t iter ifs scope p∧e=.ListComp elt [⟨t,iter,ifs,0⟩] scope p)∨
  (∃elt t1 i1 t2 i2 scope p,r=.two elt t1 i1 t2 i2 scope p∧e=.ListComp elt [⟨t1,i1,[],0⟩,⟨t2,i2,[],0⟩] scope p)∨r=.no:=by
 subst h;unfold vK;cases h1:Jj e with
 |none=>exact .inr (.inr rfl)
 |some c=>
  obtain⟨elt,gens,scope,p⟩:=c;haveI e1:=Ej h1;rcases gens with _|⟨⟨t,i,ifs,k⟩,_|⟨⟨t2,i2,Wi,k2⟩,_|⟨g3,r⟩⟩⟩
  ·exact .inr (.inr rfl)
  ·dsimp only
   rcases Classical.em (k=0)with hk|hk
   ·subst hk;exact((if_pos rfl).symm▸(.inl ⟨_,_,_,_,_,_,rfl,e1⟩))
   ·exact((if_neg hk).symm▸(.inr (.inr rfl)))
  ·dsimp only
   rcases Classical.em ((k=0∧ifs=[])∧(k2=0∧Wi=[]))with hk|hk
   ·rw[if_pos hk]
    obtain⟨⟨rfl,rfl⟩,rfl,rfl⟩:=hk;exact .inr (.inl ⟨_,_,_,_,_,_,_,rfl,e1⟩)
   ·rw[if_neg hk];exact .inr (.inr rfl)
  ·exact .inr (.inr rfl)
noncomputable def jl(e:Expr):Bool:=(ug e).isSome
theorem qk(h:jl e=true){GG:Prop}(kk:∀f as ks p,e=.Call f as ks p→GG):GG:=by
 obtain⟨y,hy⟩:=Option.isSome_iff_exists.mp h;exact kk _ _ _ _ (pU hy)
theorem uC(h:jl e=true):∃f as ks p,e=.Call f as ks p:=qk h fun x1 x2 x3 x4 x5=>⟨x1,x2,x3,x4,x5⟩
noncomputable def JC(sc:List (Str×NameKind))(r:Expr→E)(es:List Expr)(e:Expr):S:=match uB sc es e with
 |some (some xs)=>match slotsOf sc xs.reverse with
  |some kr=>.asg (.du kr.reverse) (r e)
  |none=>.stuck
 |some none=>match Ny sc es with
  |some p=>.asg p (r e)
  |none=>.stuck
 |none=>.stuck
noncomputable def JD(sc:List (Str×NameKind))(r:List (Str×NameKind)→Expr→E)(rc:Expr→Expr→Expr→List Expr→Scope→E)(ri:Expr→Expr→SK×E)(x:Str)(px:Pos)(e:Expr):S:=match vK e with
 |.one elt t iter ifs scope _=>match de sc x with
  |some k=>.asg (.var k) (rc elt t iter ifs scope)
  |none=>.stuck
 |.two elt t1 i1 t2 i2 scope p=>
  if dW sc x px p scope&&dU i1&&dU i2&&mF sc scope then match cP scope.names t1,cP scope.names t2 with
   |some p1,some p2=>.asg (.var (aU sc x)) (.iu (cH sc scope.names) p1 (ri t1 i1).1 (ri t1 i1).2 p2 (r scope.names i2) (r scope.names elt))
   |_,_=>.stuck
  else .stuck
 |.no=>if AI e then .stuck else match de sc x with
  |some k=>.asg (.var k) (r sc e)
  |none=>.stuck
noncomputable def JE(sc:List (Str×NameKind))(r:List (Str×NameKind)→Expr→E)(rc:Expr→Expr→Expr→List Expr→Scope→E)(ri:Expr→Expr→SK×E)(ts:List Expr)(e:Expr):S:=match Wh ts with
 |.attr o attr=>match atIdx attr with
  |some k=>.setattr (r sc o) k (r sc e)
  |none=>.stuck
 |.sub o i=>if gu i then .setitem (r sc o) (r sc i) (r sc e)else .stuck
 |.tup es _ _=>JC sc (r sc) es e
 |.nm x px=>JD sc r rc ri x px e
 |.no=>.stuck
noncomputable def JF(sc:List (Str×NameKind))(ri:Expr→Expr→SK×E)(t iter:Expr)(b:S):S:=if dU iter then match cP sc t with
 |some p=>.loop p (ri t iter).1 (ri t iter).2 b
 |none=>.stuck
 else .stuck
mutual
noncomputable def cS(G:GT):Nat→List (Str×NameKind)→Stmt→S
 |0,_,_=>.stuck
 |n+1,sc,b=>match b with
  |.Pass _=>.skip
  |.Continue _=>.cont
  |.Expr e _=>if jl e then .expr (cE G n sc e)else .stuck
  |.Return o _=>match o with
   |some e=>.ret (cE G n sc e)
   |none=>.ret (.cst .none)
  |.If t b r _=>.ite (cE G n sc t) (cB G n sc b) (cB G n sc r)
  |.While t b r _=>match r with
   |[]=>.pJ (cE G n sc t) (cB G n sc b)
   |_::_=>.stuck
  |.For t iter b r _=>match r with
   |[]=>JF sc (cI G n sc) t iter (cB G n sc b)
   |_::_=>.stuck
  |.Assign ts e _=>JE sc (cE G n) (iz G n sc) (cI G n sc) ts e
  |_=>.stuck
noncomputable def cB(G:GT):Nat→List (Str×NameKind)→List Stmt→S
 |0,_,_=>.stuck
 |_+1,_,[]=>.skip
 |n+1,sc,b::r=>.seq (cS G n sc b) (cB G n sc r)
end
end
section
open PyProof.Rows PySem PySem.Calls PySem.W
set_option maxRecDepth 100000
variable{prog:Program}{w:World}{K:Frag}{base:Heap}{P:Pg}{call:bj}{n:Nat}{sc:List (Str×NameKind)}
variable{Z σ:List Addr}{st:St}{s:Shared}{env:Env}{loc:Loc}
inductive EY(own:Bool)(xs ys:List V)(z TI TO i1 i2:Addr)(Z:List Addr)(rem:List V)(σ:List Addr)(h:Heap):Prop
 |mk (t1) (t2) (l1) (l2) (f0) (f1) (k) (p1:bY h z TI TO f0 (.bool f1)) (p2:cj h z TI TO i1 i2 t1 t2 k (List.toArray l1) (List.toArray l2)) (p3:lG z TI TO i1 i2 t1 t2) (p4:VR Z σ h (.ref t1) (.tup xs)) (p5:VR Z σ h (.ref t2) (.tup ys)) (p6:aj Z σ h l1 xs) (p7:aj Z σ h l2 ys) (p8:rem=((xs.zip ys).map fun(a,b)=>V.tup [a,b]).drop k) (p9:(f0=.none∨(own=false∧∃(T:Addr) (ds:List V),f0=rawInt T∧VR Z σ h (.ref T) (.tup ds)))):EY own xs ys z TI TO i1 i2 Z rem σ h
theorem yg{xs ys:List V}{k:Nat}(h:((xs.zip ys).map fun(a,b)=>V.tup [a,b])[k]? =some d){GG:Prop}(kk:∀a b,xs[k]? =some a→ys[k]? =some b→d=.tup [a,b]→GG):GG:=by
 replace h:=(List.getElem?_map)▸h;refine iG ((xs.zip ys)[k]?) (fun q=>?_) fun p q=>?_
 ·rw[q]at h;(exact bX h)
 ·obtain⟨a,b⟩:=p
  rw[q]at h;simp at h;rw[List.getElem?_zip_eq_some]at q;exact kk a b q.1 q.2 h.symm
theorem EZ{tgt:Option Expr}(ht:own=true→∃es k p,tgt=some (.Tuple es k p))(Uc:own=false→tgt=none):
  za prog w base (.ref z) tgt [] [z,TI,TO,i1,i2] (EY own xs ys z TI TO i1 i2) where
 keep:=fun {Z rem σ σ' W s s' st} hI H R X hW hk=>by
  refine gP fun GP kQ=>?_;obtain⟨t1,t2,l1,l2,f0,f1,k,h1,⟨p1,⟨a,b,p2⟩,⟨o3,p3,Wj⟩,⟨o4,p4,Wk⟩,p5,p6⟩,D,v1,v2,A1,A2,hr,hf⟩:=H;haveI kk:∀a∈[z,TI,TO,i1,i2],∀o,s.heap.get? a=some o→s'.heap.get? a=some o:=fun a ha o e=>X.keep _ _ e (fun q=>R.apart _ q (hI a ha)) (fun q=>hW _ q ha);refine kQ ?_;refine⟨t1,t2,l1,l2,f0,f1,k,kk z (List.mem_cons_self ..) _ h1,⟨kk TI (.tail _ (.head _)) _ p1,⟨a,b,kk TO (.tail _ (.tail _ (.head _))) _ p2⟩,⟨o3,kk i1 (.tail _ (.tail _ (.tail _ (.head _)))) _ p3,Wj⟩,⟨o4,kk i2 (.tail _ (.tail _ (.tail _ (.tail _ (.head _))))) _ p4,Wk⟩,IsTup.ext R X hk v1 p5,IsTup.ext R X hk v2 p6⟩,D,v1.ext R X hk,v2.ext R X hk,A1.imp fun v d x=>x.ext R X hk,A2.imp fun v d x=>x.ext R X hk,hr,?_⟩;exact hf.imp id fun⟨q,T,ds,e,v⟩=>⟨q,T,ds,e,v.ext R X hk⟩
 widen:=fun {Z more rem σ h h'} H k hd=>by
  obtain⟨t1,t2,l1,l2,f0,f1,kk,h1,⟨p1,⟨a,b,p2⟩,⟨o3,p3,Wj⟩,⟨o4,p4,Wk⟩,⟨o5,p5,p5'⟩,⟨o6,p6,p6'⟩⟩,D,v1,v2,A1,A2,hr,hf⟩:=H
  exact⟨t1,t2,l1,l2,f0,f1,kk,k _ _ h1,⟨k _ _ p1,⟨a,b,k _ _ p2⟩,⟨o3,k _ _ p3,Wj⟩,⟨o4,k _ _ p4,Wk⟩,⟨o5,k _ _ p5,p5'⟩,⟨o6,k _ _ p6,p6'⟩⟩,D,v1.enter k hd,v2.enter k hd,A1.imp fun v d x=>x.enter k hd,A2.imp fun v d x=>x.enter k hd,hr,
   hf.imp id fun⟨q,T,ds,e,v⟩=>⟨q,T,ds,e,v.enter k hd⟩⟩
 next:=fun {Z A rem d σ s st Q E} hI hA H R gk hq=>by
  obtain⟨t1,t2,l1,l2,f0,f1,k,h1,hP,D,v1,v2,A1,A2,hr,hf⟩:=H;haveI NC:=(drop_cons hr).1;haveI r8:=(drop_cons hr).2;refine yg NC fun a b ga gb eq4=>?_;obtain rfl:=eq4;refine A1.jb ga fun va ea ra=>?_;refine A2.jb gb fun vb eb rb=>?_;haveI hT:=R.cQ;have vW:∀a∈[z,TI,TO,i1,i2],s.heap.get? a≠none:=fun a ha=>R.alive a (hI a ha)
  have fin:∀h' Ls Wl (Q':Unit→Shared→Prop),bY h' z TI TO Ls (.bool Wl)→cj h' z TI TO i1 i2 t1 t2 (k+1) (List.toArray l1) (List.toArray l2)→IsPair h' s.heap.objs.size va vb→
    (∀c o,c≠z→c≠TO→c≠i1→c≠i2→s.heap.get? c=some o→h'.get? c=some o)→(Ls=.none∨(own=false∧Ls=rawInt s.heap.objs.size)∨(own=false∧Ls=f0∧f0≠.none))→
    (∀s2,Rel base Z σ st s2.heap→VR Z σ s2.heap (.ref s.heap.objs.size) (.tup [a,b])→EY own xs ys z TI TO i1 i2 Z rem σ s2.heap→Ext [z,TI,TO,i1,i2] σ s σ s2→Q' () s2)→Q' () {s with heap:=h'}:=by
   intro h' Ls Wl Q' Hz ND NF hk oM tO;have hb:dO [z,TI,TO,i1,i2] s.heap h':=fun c o hc e=>hk c o (fun q=>hc (by simp[q])) (fun q=>hc (by simp[q])) (fun q=>hc (by simp[q])) (fun q=>hc (by simp[q])) e
   have kK:∀c∈[z,TI,TO,i1,i2],h'.get? c≠none:=fun c hc=>by
    simp at hc;rcases hc with rfl|rfl|rfl|rfl|rfl
    ·rw[Hz];exact fun q=>nomatch q
    ·rw[ND.ti];exact fun q=>nomatch q
    ·obtain⟨_,_,e⟩:=ND.to;rw[e];exact fun q=>nomatch q
    ·obtain⟨o,e,_⟩:=ND.a1;rw[e];exact fun q=>nomatch q
    ·obtain⟨o,e,_⟩:=ND.a2;rw[e];exact fun q=>nomatch q
   haveI R':=(R.d9 (tk:=s.toks) hI kK hb).1;haveI X':=(R.d9 (tk:=s.toks) hI kK hb).2;have vr:∀v d,VR Z σ s.heap v d→VR Z σ h' v d:=fun v d x=>x.d9 R hI hb
   have vT:VR Z σ h' (.ref s.heap.objs.size) (.tup [a,b]):=.tup (l:=[va,vb]) hT.2.1 ⟨_,NF,rfl,0,rfl⟩ rfl (show(2:Nat)≤ah by decide) fun i v d e1 e2=>by
    rcases i with _|_|i
    ·simp at e1 e2;subst e1 e2;exact vr _ _ ra
    ·simp at e1 e2;subst e1 e2;exact vr _ _ rb
    ·injection e1
   refine tO {s with heap:=h'} R' vT ⟨t1,t2,l1,l2,Ls,Wl,k+1,Hz,ND,D,vr _ _ v1,vr _ _ v2,A1.imp vr,A2.imp vr,r8,?_⟩ X';rcases oM with e|⟨q,e⟩|⟨q,e,ne⟩
   ·exact .inl e
   ·exact .inr ⟨q,_,_,e,vT⟩
   ·refine gP fun GP xD=>?_
    rcases hf with e'|⟨_,T,ds,e',v⟩
    ·exact absurd e' ne
    ·refine xD ?_;exact .inr ⟨q,T,ds,e.trans e',vr _ _ v⟩
  refine lJ h1 fun _=>?_;rcases hf with rfl|⟨ho,T,ds,rfl,vT⟩
  ·refine xq (Q:=fun v s'=>Q (some v) s') D h1 hP (by simpa using ea) (by simpa using eb) fun h' z1 z2 z3 z4 z5=>hq _ _ fun {Q' E'} tO=>?_
   cases own with
   |false=>
    simp only[Uc rfl];exact fin h' _ _ Q' z1 z2 z3 z5 (.inr (.inl ⟨rfl,rfl⟩)) tO
   |true=>
    refine UP (ht rfl) fun es kk p eq3=>?_;obtain rfl:=eq3;refine xx z1 fun JG z6 sb=>?_;have nz:s.heap.objs.size≠z:=fun q=>vW z (List.mem_cons_self ..) ((q▸(bo _)))
    haveI Wm:cj JG z TI TO i1 i2 t1 t2 (k+1) (List.toArray l1) (List.toArray l2):=by
     obtain⟨q1,⟨a',b',q2⟩,q3,q4,⟨o5,q5,q5'⟩,⟨o6,q6,q6'⟩⟩:=z2;exact⟨sb.extBut _ _ D.TIz q1,⟨a',b',sb.extBut _ _ D.TOz q2⟩,aV q3 sb.extBut D.i1z,aV q4 sb.extBut D.i2z,⟨o5,sb.extBut _ _ D.DJ q5,q5'⟩,⟨o6,sb.extBut _ _ D.Hs q6,q6'⟩⟩
    exact fin JG _ _ Q' z6 Wm (sb.extBut _ _ nz z3) (fun c o c1 c2 c3 c4 e=>sb.extBut _ _ c1 (z5 c o c1 c2 c3 c4 e)) (.inl rfl) tO
  ·haveI hq:=(Uc ho)▸hq
   obtain⟨oT,Wn⟩:∃oT,s.heap.get? T=some oT:=by
    cases vT with|tup _ h _ _ _=>exact⟨_,h.choose_spec.1⟩
   refine tY (Q:=fun v s'=>Q (some v) s') D h1 Wn hP (by simpa using ea) (by simpa using eb) fun h' z1 z2 z3 z4 z5=>hq _ _ fun {Q' E'} tO=>?_;exact fin h' _ _ Q' z1 z2 z3 z5 (.inr (.inr ⟨ho,rfl,fun q=>nomatch q⟩)) tO
 stop:=fun {Z Z' A σ s st Q E} hI hs hd hA H R gk hq=>by
  obtain⟨t1,t2,l1,l2,f0,f1,k,h1,hP,D,v1,v2,A1,A2,hr,hf⟩:=H;have hi:=drop_nil hr
  have rC:(List.toArray l1)[k]? =none∨(List.toArray l2)[k]? =none:=by
   simp at hi;have e1:=A1.1;haveI e2:=A2.1;rcases Nat.le_total xs.length ys.length with q|q
   ·left;simp;simp_all
   ·right;simp;simp_all
  have fin:∀h',(∀c o,c≠z→c≠TO→c≠i1→c≠i2→s.heap.get? c=some o→h'.get? c=some o)→Q none {s with heap:=h'}:=fun h' hk=>by
   haveI hb:dO [z,TI,TO,i1,i2] s.heap h':=fun c o hc e=>hk c o (fun q=>hc (by simp[q])) (fun q=>hc (by simp[q])) (fun q=>hc (by simp[q])) (fun q=>hc (by simp[q])) e;refine jZ (R.leave (tk:=s.toks) hI hs hd hb) fun R' tr X'=>?_;exact hq {s with heap:=h'} R' tr X'
  refine lJ h1 fun _=>?_;rcases hf with rfl|⟨ho,T,ds,rfl,vT⟩
  ·exact zG hA D h1 hP rC fun h' e hk he=>⟨e,he,rfl,fin h' hk⟩
  ·obtain⟨oT,Wn⟩:∃oT,s.heap.get? T=some oT:=by
    cases vT with|tup _ h _ _ _=>exact⟨_,h.choose_spec.1⟩
   exact xu hA D h1 Wn hP rC fun h' e hk he=>⟨e,he,rfl,fin h' hk⟩
 again:=fun {Z A rem σ s Q E} H hq=>by
  obtain⟨t1,t2,l1,l2,f0,f1,k,h1,_⟩:=H;exact rD h1 hq
theorem vX{own:Bool}{A:Around}{tgt:Option Expr}(ht:own=true→∃es k p,tgt=some (.Tuple es k p))(Uc:own=false→tgt=none)(R:Rel base Z σ st s.heap){u v:Value}{xs ys:List V}(hu:VR Z σ s.heap u (.tup xs))(hv:VR Z σ s.heap v (.tup ys))
  {Q:Value→Shared→Prop} {E:Value→Shared→Prop}
  (hq:∀s' z new S,Rel base (new++Z) σ st s'.heap→Ext [] σ s σ s'→(∀a∈new,s.heap.get? a=none)→z∈new→za prog w base (.ref z) tgt [] new S→S (new++Z) ((xs.zip ys).map fun(a,b)=>V.tup [a,b]) σ s'.heap→(∃TI TO f0 f1,bY s'.heap z TI TO f0 f1)→Q (.ref z) s'):
  wpAny (model prog w) A (PySem.call (.type "zip") [u,v]) Q E s:=by
 haveI hu':=hu;haveI Lv:=hv;refine hu.cC fun t1 l1 eq2 ht1 A1 _=>?_;obtain rfl:=eq2;refine hv.cC fun t2 l2 eq2 Wo A2 _=>?_;obtain rfl:=eq2;refine xA ht1 Wo fun h' hz hP D i5 k=>?_
 have dead:∀a∈[s.heap.objs.size+4,s.heap.objs.size+2,s.heap.objs.size+3,s.heap.objs.size,s.heap.objs.size+1],s.heap.get? a=none:=fun a ha=>by
  cases q:s.heap.get? a with
  |none=>rfl
  |some o=>
   haveI dB:=Heap.lt_size q;simp at ha;generalize s.heap.objs.size=N at ha dB;rcases ha with rfl|rfl|rfl|rfl|rfl
   ·exact absurd dB (Nat.not_lt.mpr (Nat.le_add_right _ _))
   ·exact absurd dB (Nat.not_lt.mpr (Nat.le_add_right _ _))
   ·exact absurd dB (Nat.not_lt.mpr (Nat.le_add_right _ _))
   ·exact absurd dB (Nat.lt_irrefl _)
   ·exact absurd dB (Nat.not_lt.mpr (Nat.le_add_right _ _))
 haveI alive:∀a∈[s.heap.objs.size+4,s.heap.objs.size+2,s.heap.objs.size+3,s.heap.objs.size,s.heap.objs.size+1],h'.get? a≠none:=fun a ha=>by
  simp at ha;rcases ha with rfl|rfl|rfl|rfl|rfl
  ·exact(hz.symm▸(fun q=>nomatch q))
  ·exact((hP.ti).symm▸(fun q=>nomatch q))
  ·obtain⟨_,_,e⟩:=hP.to;exact(e.symm▸(fun q=>nomatch q))
  ·obtain⟨o,e,_⟩:=hP.a1;rw[e];exact fun q=>nomatch q
  ·obtain⟨o,e,_⟩:=hP.a2;rw[e];exact fun q=>nomatch q
 refine hq {s with heap:=h'} (s.heap.objs.size+4) [s.heap.objs.size+4,s.heap.objs.size+2,s.heap.objs.size+3,s.heap.objs.size,s.heap.objs.size+1] (EY own xs ys _ _ _ _ _) (R.enter k dead alive) (.of_keep k) dead (List.mem_cons_self ..) (EZ ht Uc) ?_ ⟨_,_,_,_,hz⟩;exact⟨t1,t2,l1,l2,.none,false,0,hz,hP,D,hu'.enter k dead,Lv.enter k dead,A1.imp fun v d h=>h.enter k dead,A2.imp fun v d h=>h.enter k dead,rfl,.inl rfl⟩
theorem AJ(g:Gd K base)(fb:rq K base G)(hk:sc.lookup x=some .globalImplicit)(hg:G x=some .zip)(hd:(x==("__debug__":Str))=false)
  (hs:es.all notStar=true) (H:ej prog w base P call n sc es kb):fH prog w base P call n sc (.Call (.Name x p) es [] pos) (some (.Tuple Wq tk tp)) .zip kb:=
 fun {env A Z σ s loc st vs st1 itx Q E} ok eo R F h hi hq=>by
 revert h hq;refine rF hi ?_;intro xs ys h hq;refine Call_ (cA g fb hk hg (bv:=.type "zip") rfl hd eo R ?_) rfl;refine callWith_of (P:=fun _=>True) (by refine(dw hs).symm▸?_;rfl) (fun h X=>cR (fun _ e=>nomatch e)) (bL hs (H ok eo R F h fun σ1 z' s1 R1 V1 X1=>⟨trivial,?_⟩));refine V1.aW fun v l' eq2 hx hr=>?_;obtain rfl:=eq2;obtain⟨v2,l',rfl,xJ,hr⟩:=hr.lN;obtain rfl:=hr.da;refine vX (own:=true) (tgt:=some (.Tuple Wq tk tp)) (fun _=>⟨_,_,_,rfl⟩) (fun q=>nomatch q) R1 hx xJ fun s2 z new S R2 X2 ed _ I H2 ⟨TI,TO,f0,f1,hz⟩=>?_;refine rD hz (hq σ1 s2 _ new S R2 (X1.trans X2) (fun a ha=>X1.dead (ed a ha) (fun h=>nomatch h)) I H2)
inductive AK(l:Nat)(vs:List V)(e it:Addr)(Z:List Addr)(rem:List V)(σ:List Addr)(h:Heap):Prop
 |mk(a)(i)(old)(p1:σ[l]? =some a)(p2:IsEnum h e it ((i:Nat):Int) old)(p3:h.IsListIter it a i)(p4:rem=ey i (vs.drop i)):AK l vs e it Z rem σ h
theorem ql{k:Int}{vs:List V}{d:V}{rem:List V}(h:d::rem=ey k vs){GG:Prop}(kk:∀v r,vs=v::r→d=.tup [.int k,v]→rem=ey (k+1) r→GG):GG:=by
 cases vs with
 |nil=>cases h
 |cons v r=>cases h;exact kk v r rfl rfl rfl
theorem AO{e it:Addr}(Ud:e≠it):za prog w base (.ref e) (some (.Tuple Wq tk tp)) [(l,vs)] [e,it] (AK l vs e it) where
 keep:=fun {Z rem σ σ' W s s' st} hI H R X hW hk=>by
  obtain⟨a,i,old,h1,h2,⟨o,h3,y8⟩,h4⟩:=H;haveI kk:∀a∈[e,it],∀o,s.heap.get? a=some o→s'.heap.get? a=some o:=fun a ha o q=>X.keep _ _ q (fun q=>R.apart _ q (hI a ha)) (fun q=>hW _ q ha);exact⟨a,i,old,cq X.pre h1,kk e (List.mem_cons_self ..) _ h2,⟨o,kk it (.tail _ (.head _)) _ h3,y8⟩,h4⟩
 widen:=fun {Z more rem σ h h'} H k hd=>by
  obtain⟨a,i,old,h1,h2,⟨o,h3,y8⟩,h4⟩:=H;exact⟨a,i,old,h1,k _ _ h2,⟨o,k _ _ h3,y8⟩,h4⟩
 next:=fun {Z A rem d σ s st Q E} hI hA H R gk hq=>by
  obtain⟨a,i,old,h1,h2,h3,h4⟩:=H;refine ql h4 fun v r e1 eq3 e2=>?_;obtain rfl:=eq3;haveI g1:=(drop_cons e1.symm).1;haveI g2:=(drop_cons e1.symm).2;haveI fV:st[l]? =some (.list vs):=gk (l,vs) (List.mem_cons_self ..);refine gP fun GP kP=>?_;obtain⟨ll,m,g,rJ,hl⟩:=R.cell _ _ _ fV h1;refine rJ.jb g1 fun x ex hx=>?_;haveI hT:=R.cQ;refine kP ?_;refine wpAny_pyNext_enum_item h2 h3 (aL g) (by simpa using ex) Ud fun h' z1 z2 z3 z4 z5=>hq _ _ fun {Q' E'} tO=>?_;refine wpAny_letOwnedTupleGo_enum z1 fun JG z6 sb=>?_;have ne:s.heap.objs.size≠e:=fun q=>R.alive e (hI e (List.mem_cons_self ..)) ((q▸(bo _)));have hb:dO [e,it] s.heap JG:=fun c o hc q=>sb.extBut _ _ (fun q=>hc (by simp[q])) (z5 c o (fun q=>hc (by simp[q])) (fun q=>hc (by simp[q])) q);haveI Zo:JG.IsListIter it a (i+1):=z2.extBut sb.extBut (Ne.symm Ud)
  haveI kK:∀c∈[e,it],JG.get? c≠none:=fun c hc=>by
   simp at hc;rcases hc with rfl|rfl
   ·rw[z6];exact fun q=>nomatch q
   ·obtain⟨o,q,_⟩:=Zo;rw[q];exact fun q=>nomatch q
  haveI R':=(R.d9 (tk:=s.toks+1) hI kK hb).1;haveI X':=(R.d9 (tk:=s.toks+1) hI kK hb).2;refine tO {s with heap:=JG,toks:=s.toks+1} R' (.tup (l:=[.int i s.toks,x]) hT.2.1 ⟨_,sb.extBut _ _ ne z3,rfl,0,rfl⟩ rfl (show(2:Nat)≤ah by decide) fun j u d e1 e2=>?_) ⟨a,i+1,_,h1,z6,Zo,?_⟩ X'
  ·rcases j with _|_|j
   ·simp at e1 e2;subst e1 e2;exact .int _ _
   ·simp at e1 e2;subst e1 e2;exact hx.d9 R hI hb
   ·injection e1
  ·simp only[e2,g2];rfl
 stop:=fun {Z Z' A σ s st Q E} hI hs hd hA H R gk hq=>by
  refine gP fun GP kP=>?_;obtain⟨a,i,old,h1,h2,h3,h4⟩:=H;haveI fV:st[l]? =some (.list vs):=gk (l,vs) (List.mem_cons_self ..);obtain⟨ll,m,g,rJ,hl⟩:=R.cell _ _ _ fV h1
  haveI hi:vs.length≤i:=by
   cases q:vs.drop i with
   |nil=>exact drop_nil q.symm
   |cons v r=>replace h4:=q▸h4;cases h4
  refine kP ?_;refine wpAny_pyNext_enum_end hA h2 h3 (aL g) (by simpa [rJ.1]using hi) fun h' sb=>?_;haveI hb:dO [e,it] s.heap h':=fun c o hc q=>sb c o (fun q=>hc (by simp[q])) q;refine jZ (R.leave (tk:=s.toks) hI hs hd hb) fun R' tr X'=>?_;exact hq {s with heap:=h'} R' tr X'
 again:=fun {Z A rem σ s Q E} H hq=>by
  obtain⟨a,i,old,h1,h2,h3,h4⟩:=H;exact wpAny_pyIter_enum h2 hq
theorem yh(g:Gd K base)(fb:rq K base G)(hk:sc.lookup x=some .globalImplicit)(hg:G x=some .enum)(hd:(x==("__debug__":Str))=false)
  (hs:es.all notStar=true) (H:ej prog w base P call n sc es kb):fH prog w base P call n sc (.Call (.Name x p) es [] pos) (some (.Tuple Wq tk tp)) .enum kb:=
 fun {env A Z σ s loc st vs st1 itx Q E} ok eo R F h hi hq=>by
 revert h hq;refine xC hi ?_;intro l us fV h hq;refine Call_ (cA g fb hk hg (bv:=.type "enumerate") rfl hd eo R ?_) rfl;refine callWith_of (P:=fun _=>True) (by refine(dw hs).symm▸?_;rfl) (fun h X=>cR (fun _ e=>nomatch e)) (bL hs (H ok eo R F h fun σ1 z' s1 R1 V1 X1=>⟨trivial,?_⟩));refine V1.aW fun v l' eq2 hx hr=>?_;obtain rfl:=eq2;obtain rfl:=hr.da;refine R1.cw hx fV fun a ll m Wr ha g' hA hl=>?_;subst Wr;refine call_enumerate_list (aL g') fun h' z1 z2 z3 k=>?_;haveI Ud:s1.heap.objs.size+1≠s1.heap.objs.size:=Nat.succ_ne_self _
 have dead:∀a∈[s1.heap.objs.size+1,s1.heap.objs.size],s1.heap.get? a=none:=fun a ha=>by
  cases q:s1.heap.get? a with
  |none=>rfl
  |some o=>
   haveI dB:=Heap.lt_size q;simp at ha;generalize s1.heap.objs.size=N at ha dB;rcases ha with rfl|rfl
   ·exact absurd dB (Nat.not_lt.mpr (Nat.le_add_right _ _))
   ·exact absurd dB (Nat.lt_irrefl _)
 haveI alive:∀a∈[s1.heap.objs.size+1,s1.heap.objs.size],h'.get? a≠none:=fun a ha=>by
  simp at ha;rcases ha with rfl|rfl
  ·exact(z1.symm▸(fun q=>nomatch q))
  ·obtain⟨o,q,_⟩:=z2;rw[q];exact fun q=>nomatch q
 refine wpAny_pyIter_enum (s:={s1 with heap:=h'}) z1 ?_;refine hq σ1 {s1 with heap:=h'} _ [s1.heap.objs.size+1,s1.heap.objs.size] (AK l us _ _) (R1.enter k dead alive) (X1.trans (.of_keep (tk:=s1.toks) k)) (fun a ha=>X1.dead (dead a ha) (fun h=>nomatch h)) (AO Ud) ?_;exact⟨a,0,_,ha,z1,z2,rfl⟩
end
section
open PyProof.Rows PySem PySem.Calls PySem.W
set_option maxRecDepth 100000
theorem uD:typeLookup (.type "zip") "__len__"=pure none:=by rw[typeLookup_type,builtinLookup_eq_fast];kernel_rfl
theorem su:typeLookup (.type "zip") "__length_hint__"=pure none:=by rw[typeLookup_type,builtinLookup_eq_fast];kernel_rfl
end
section
open PyProof.Rows PySem PySem.Calls PySem.W
set_option maxRecDepth 100000
variable{prog:Program}{w:World}{K:Frag}{base:Heap}{P:Pg}{call:bj}{n:Nat}{sc:List (Str×NameKind)}
variable{Z σ:List Addr}{st:St}{s:Shared}{env:Env}{loc:Loc}
theorem AP{E:Value→Shared→Prop}(hT:s.TypeIs (.ref z) "zip")(h:Q true s):wpAny (model prog w) A (Builtin.List.listLengthHint (.ref z)) Q E s:=by
 refine wpAny_bind (wpAny_specialOf hT uD ?_);refine wpAny_ite_split (fun nK=>absurd nK (by decide)) (fun _=>?_);refine wpAny_ite_split (fun nK=>absurd nK (by decide)) (fun _=>?_);refine wpAny_bind (wpAny_specialOf hT su ?_);exact wpAny_pure h
theorem Acc.upd{A:Around}{D:Addr}{ds ds':List V}{f:Array Value→Array Value}{g:List Value→List Value}(a:Acc Z σ s.heap D ds)(R:Rel base Z σ st s.heap)(hD:D∈Z)(hf:∀l,f (List.toArray l)=List.toArray (g l))
  (hv:∀l,aj Z σ s.heap l ds→aj Z σ s.heap (g l) ds') (hl:ds.length≤ah) (kK:ds'.length≤ah+1) {Q:Unit→Shared→Prop} {E:Value→Shared→Prop}
  (hq:∀s1,Rel base Z σ st s1.heap→Acc Z σ s1.heap D ds'→Ext [D] σ s σ s1→Q () s1):wpAny (model prog w) A (updateSeq D f) Q E s:=by
 refine gP fun GP kQ=>?_;obtain⟨l,m,g0,H⟩:=a;haveI nO:=bJ;haveI H':=hv l H;refine kQ ?_;refine wpAny_updateSeq g0 rfl ?_ (by simp only[List.size_toArray,H.1];exact Nat.le_trans ‹_› bJ) (by simp only[hf,List.size_toArray,H'.1];exact Nat.le_trans (by assumption) (by decide));obtain⟨m4,e4⟩:=eD f (List.toArray l) m;haveI sb:Heap.SameBut D s.heap (s.heap.update D (Obj.mapSeq f)):=Heap.SameBut.update ..;haveI g1:(s.heap.update D (Obj.mapSeq f)).get? D=some (W.listOf (List.toArray (g l)) m4):=by rw[Heap.get?_update_self _ g0 (by rw[e4];rfl),e4,hf]
 haveI hI:∀a∈[D],a∈Z:=fY hD;haveI R':=(R.d9 (tk:=s.toks) hI (fY ((g1.symm▸(fun q=>nomatch q)))) (bC sb.extBut)).1;haveI X':=(R.d9 (tk:=s.toks) hI (fY ((g1.symm▸(fun q=>nomatch q)))) (bC sb.extBut)).2;exact hq {s with heap:=s.heap.update D (Obj.mapSeq f)} R' ⟨_,m4,g1,H'.imp fun v d x=>x.d9 R hI (bC sb.extBut)⟩ X'
theorem kg{A:Around}{it:Value}{D:Addr}{Z0 new:List Addr}{S:List Addr→List V→List Addr→Heap→Prop}{gs:List (Nat×List V)}{res:Value}{σ₀:List Addr}{s₀:Shared}{total:List V}{R:Result→Shared→Prop}
  (I:za prog w base it none gs new S) (bu:∀a∈new,a∈Z) (hD:D∈Z) (kN:D∉new) (kA:∀a∈Z0,a∈Z) (r7:∀a∈new,a∉Z0) (hA:A.handled=none) (gk:au gs st) (dn:total.length≤ah)
  (fin:∀s',Rel base Z0 σ st s'.heap→Acc Z0 σ s'.heap D total→D∉σ→Ext (new++[D]) σ₀ s₀ σ s'→R (.ok (.ret res)) s'):
  ∀(rem ds:List V) (s:Shared),ds++rem=total→Rel base Z σ st s.heap→S Z rem σ s.heap→Acc Z σ s.heap D ds→Ext (new++[D]) σ₀ s₀ σ s→
   codeAny (model prog w) A (.builtin "list.extend.loop" ⟨[.ref D,it,res],[]⟩) R s
 |[],ds,s,hr,mz,qe,qf,qg=>by
  refine codeAny_builtin PySem.F.entry_extend_loop ?_;refine wpAny_bind (I.stop (A:=A.in1) bu kA r7 hA qe mz gk fun s1 R2 tr X2=>wpAny_pure ?_);refine gP fun GP kP=>?_;obtain⟨l,m,g,H⟩:=qf;haveI DN:D∉σ:=fun q=>mz.apart _ q hD;simp at hr;subst hr;refine kP ?_;exact fin s1 R2 ⟨l,m,X2.keep _ _ g DN kN,H.imp tr⟩ DN (qg.trans (X2.aN fun a ha=>List.mem_append_left _ ha))
 |d::rem,ds,s,hr,mz,qe,qf,qg=>by
  refine codeAny_builtin PySem.F.entry_extend_loop ?_;haveI zk:∀{s:Shared} {W:List Addr},(∀a∈W,a∈Z)→∀a∈W,a∈Z∨(∃c,s.heap.IsCell a c)∨(∃m,s.heap.Ns a m)∨s.heap.get? a=none:=fun h a ha=>.inl (h a ha);haveI zD:∀a∈[D],a∈Z:=fY hD;refine wpAny_bind (I.next (A:=A.in1) bu hA qe mz gk fun v s1 Aq=>?_)
  haveI Aq:=@Aq (fun _ s=>wpAny (model prog w) A.in1 (updateSeq D (·.push v) >>= fun _=>again (.builtin "list.extend.loop" ⟨[.ref D,it,res],[]⟩)) (fun fin s'=>match fin with
   |.done f=>R (.ok f) s'
   |.again c'=>c'.quiet=true∧codeAny (model prog w) A c' R s') (fun e s'=>R (.error e) s') s) (fun _ _=>True)
  refine Aq fun s2 R2 V2 H2 X2=>wpAny_bind ?_;haveI a2:=qf.ext mz hD X2 kN (zk bu);haveI hlen:ds.length+1≤ah:=by rw[←hr]at dn;simp at dn;exact aO 0x22101100200101120200201 rt dn
  refine a2.upd (g:=fun l=>l++[v]) (ds':=ds++[d]) R2 hD (fun l=>by simp) (fun l h=>h.append (.cons V2 .nil)) (aC 0x22100000101100201 rt hlen) (by simp;exact aC 0x22100000101100201 rt hlen) fun s3 R3 a3 X3=>wpAny_pure ⟨plainId_quiet PySem.F.plain_extend_loop _,?_⟩;refine kg I bu hD kN kA r7 hA gk dn fin rem (ds++[d]) s3 (by simp only[←hr];simp) R3 (I.keep bu H2 R2 X3 (fun a ha q=>?_) (zk zD)) a3 ((qg.trans (X2.aN fun a ha=>List.mem_append_left _ ha)).trans (X3.aN fun a ha=>List.mem_append_right _ ha));simp at ha;cases ha;exact kN q
theorem sv(g:Gd K base)(fb:rq K base G)(hk:sc.lookup x=some .globalImplicit)(hg:G x=some (.bi .list))(hd:(x==("__debug__":Str))=false)
  (Ws:sc.lookup y=some .globalImplicit) (Wt:G y=some .zip) (hd2:(y==("__debug__":Str))=false) (hs:zs.all notStar=true) (H:ej prog w base P call n sc zs zs'):
  av prog w base P call n sc (.Call (.Name x p) [.Call (.Name y q) zs [] p2] [] pos) (.dK zs'):=fun {env A Z σ s loc st v af Q E} ok eo R F h hQ=>by
 refine gP fun GP kQ=>?_;replace h:=aE h;refine bP h fun vs st1 h1 h=>bO h fun itx h2 h3=>?_;clear h;refine dk h3 fun dn h3=>?_;revert hQ;refine nN h3 ?_;clear h3;revert h1 dn;refine rF h2 ?_;intro xs ys h1 dn hQ;refine kQ ?_;refine Call_ (cA g fb hk hg (bv:=.type "list") rfl hd eo R ?_) rfl;refine callWith_of (P:=fun _=>True) (by rfl) (fun h X=>cR (fun _ e=>nomatch e)) (bL (by rfl) ?_);refine PySem.wpAny_items_cons (Call_ (cA g fb Ws Wt (bv:=.type "zip") rfl hd2 eo R ?_) rfl) (dv (by rfl) [] env);refine callWith_of (P:=fun _=>True) (by refine(dw hs).symm▸?_;rfl) (fun h X=>cR (fun _ e=>nomatch e)) (bL hs (H ok eo R F h1 fun σ1 z' s1 R1 V1 X1=>⟨trivial,?_⟩));refine V1.aW fun v l' eq2 hx hr=>?_;obtain rfl:=eq2;obtain⟨v2,l',rfl,xJ,hr⟩:=hr.lN;obtain rfl:=hr.da;refine vX (own:=false) (tgt:=none) (fun q=>nomatch q) (fun _=>rfl) R1 hx xJ fun s2 z new S R2 X2 ed Zq I H2 ⟨TI,TO,f0,f1,hz⟩=>?_;refine PySem.wpAny_items_nil ⟨trivial,?_⟩;show wpAny _ _ (PySem.call (.type "list") [.ref z] []) _ _ _
 refine callType_codes (Q₁:=fun obj iK=>obj=.ref s2.heap.objs.size∧iK={s2 with heap:=s2.heap.push {cls:=.type "list",data:=.seq #[]}}) PySem.F.called_list (PySem.F.typeCall_list_1 _) PySem.F.entry_list_init
  (code_list_new _ ⟨rfl,rfl⟩) fun obj iK kv=>?_
 haveI Ee:=kv.1;haveI z7:=kv.2;subst Ee;subst z7;have hS:(s2.heap.push {cls:=.type "list",data:=.seq #[]}).get? s2.heap.objs.size=some {cls:=.type "list",data:=.seq #[]}:=Heap.get?_push_size _ rfl;refine⟨⟨_,hS,rfl⟩,PySem.F.args_list_init_2 _ _,?_⟩;haveI Ua:s2.heap.get? s2.heap.objs.size=none:=bo _;have k3:∀b o,s2.heap.get? b=some o→(s2.heap.push {cls:=.type "list",data:=.seq #[]}).get? b=some o:=fun b o e=>Heap.get?_push_of_some _ e;have R3:Rel base ([s2.heap.objs.size]++(new++Z)) σ1 st1 (s2.heap.push {cls:=.type "list",data:=.seq #[]}):=R2.enter k3 (dz _) (fj _ _ rfl);haveI H3:=I.widen (more:=[s2.heap.objs.size]) H2 k3 (dz _);haveI a3:Acc ([s2.heap.objs.size]++(new++Z)) σ1 (s2.heap.push {cls:=.type "list",data:=.seq #[]}) s2.heap.objs.size []:=⟨[],0,hS,.nil⟩;have Ue:s2.heap.objs.size∈[s2.heap.objs.size]++(new++Z):=List.mem_append_left _ (List.mem_cons_self ..);have bu:∀a∈new,a∈[s2.heap.objs.size]++(new++Z):=fun a ha=>List.mem_append_right _ (List.mem_append_left _ ha);have kN:s2.heap.objs.size∉new:=fun q=>R2.alive _ (List.mem_append_left _ q) Ua;have NI:s2.heap.objs.size≠z:=fun q=>kN (q▸Zq);haveI zD:∀a∈[s2.heap.objs.size],a∈[s2.heap.objs.size]++(new++Z):=fun a ha=>List.mem_append_left _ ha;have zk:∀{s:Shared},∀a∈[s2.heap.objs.size],a∈[s2.heap.objs.size]++(new++Z)∨(∃c,s.heap.IsCell a c)∨(∃m,s.heap.Ns a m)∨s.heap.get? a=none:=fun a ha=>.inl (zD a ha);have nD:∀a∈[s2.heap.objs.size],a∉new:=fun a ha q=>by simp at ha;subst ha;exact kN q
 haveI X3:Ext [] σ1 s2 σ1 {s2 with heap:=s2.heap.push {cls:=.type "list",data:=.seq #[]}}:=.of_keep (tk:=s2.toks) k3;show wpAny _ _ (do let old ←Builtin.List.listItems (.ref s2.heap.objs.size);Builtin.List.listUpdate (.ref s2.heap.objs.size) (fun _=>#[]);letGo old.toList.reverse;Builtin.List.listExtendWith (.ref s2.heap.objs.size) (.ref z) .none) _ _ _;refine wpAny_bind ?_;refine wpAny_bind (wpAny_seqItems hS rfl (wpAny_pure ?_));refine wpAny_bind (a3.upd (s:={s2 with heap:=s2.heap.push {cls:=.type "list",data:=.seq #[]}}) (g:=fun _=>[]) (ds':=[]) R3 Ue (fun l=>rfl) (fun l _=>.nil) (Nat.zero_le _) (Nat.zero_le _) fun s4 R4 a4 X4=>?_);haveI H4:=I.keep (s:={s2 with heap:=s2.heap.push {cls:=.type "list",data:=.seq #[]}}) bu H3 R3 X4 nD zk;refine wpAny_bind (wpAny_letGo ?_)
 haveI hz4:bY s4.heap z TI TO f0 f1:=by
  refine X4.keep _ _ (k3 _ _ hz) (fun q=>R3.apart _ q (bu _ Zq)) (fun q=>by simp at q;exact NI q.symm)
 haveI Zr:s4.TypeIs (.ref z) "zip":=⟨_,hz4,rfl⟩;refine wpAny_bind (wpAny_typeOf (T:="zip") Zr ?_);haveI h1:Builtin.List.listSameRef (.ref s2.heap.objs.size) (.ref z)=false:=by simp[Builtin.List.listSameRef,NI]
 haveI HV:(Value.type "zip"==Value.type "list")=false:=by decide
 haveI y8:(Value.type "zip"==Value.type "tuple")=false:=by decide
 simp only[h1,y8,Bool.false_eq_true,if_false];refine wpAny_bind (I.again H4 ?_);refine wpAny_bind (wpAny_holding (AP Zr ?_))
 have key:∀s5,Rel base ([s2.heap.objs.size]++(new++Z)) σ1 st1 s5.heap→S ([s2.heap.objs.size]++(new++Z)) ((xs.zip ys).map fun(a,b)=>V.tup [a,b]) σ1 s5.heap→Acc ([s2.heap.objs.size]++(new++Z)) σ1 s5.heap s2.heap.objs.size []→
   Ext (new++[s2.heap.objs.size]) σ s σ1 s5→∀{R:Result→Shared→Prop},(∀s',Q (.ref s2.heap.objs.size) s'→R (.ok (.ret .none)) s')→codeAny (model prog w) A.in1 (.builtin "list.extend.loop" ⟨[.ref s2.heap.objs.size,.ref z,.none],[]⟩) R s5:=by
  intro s5 R5 H5 a5 X5 Rr hR
  have dead:∀a∈new++[s2.heap.objs.size],s.heap.get? a=none:=fun a ha=>by
   rcases List.mem_append.mp ha with q|q
   ·exact X1.dead (ed a q) (fun h=>nomatch h)
   ·simp at q;subst q;exact(X1.trans X2).dead Ua (fun h=>nomatch h)
  refine kg (A:=A.in1) (Z0:=Z) (σ₀:=σ) (s₀:=s) I bu Ue kN (fun a ha=>List.mem_append_right _ (List.mem_append_right _ ha)) (fun a ha q=>R.alive a q (dead a (List.mem_append_left _ ha))) ok.1 jM dn (fun s' R' a' uv X'=>hR s' ?_) _ [] s5 (List.nil_append _) R5 H5 a5 X5;haveI f:=R.free (dead _ (List.mem_append_right _ (List.mem_cons_self ..)));exact hQ _ _ s' (R'.adopt a' uv f.2.1 f.2.2 dn) (.lst (by refine(R'.len)▸?_;simp)) ((X'.adopt (dead _ (List.mem_append_right _ (List.mem_cons_self ..)))).sub fun a ha=>.inr (dead a ha))
 haveI XX:Ext (new++[s2.heap.objs.size]) σ s σ1 s4:=(((X1.trans X2).trans X3).ek).trans (X4.aN fun a ha=>List.mem_append_right _ ha);refine wpAny_ite_split (fun _=>?_) (fun q=>absurd rfl q);refine wpAny_bind (wpAny_rule ?_);refine wpAny_bind ?_;refine wpAny_bind (a4.upd (g:=fun l=>l++[.none]) (ds':=[.none]) R4 Ue (fun l=>by simp) (fun l h=>h.append (.cons .zK .nil)) (Nat.zero_le _) (show 1≤ah+1 by decide) fun s5 R5 a5 X5=>?_);haveI H5:=I.keep bu H4 R4 X5 nD zk;refine a5.upd (g:=fun l=>l.dropLast) (ds':=[]) R5 Ue (fun l=>by exact rfl) (fun l h=>h.dropLast) (show 1≤ah by decide) (Nat.zero_le _) fun s6 R6 a6 X6=>?_;haveI H6:=I.keep bu H5 R5 X6 nD zk;refine wpAny_pure ⟨plainId_quiet PySem.F.plain_extend_loop _,key s6 R6 H6 a6 ((XX.trans (X5.aN fun a ha=>List.mem_append_right _ ha)).trans (X6.aN fun a ha=>List.mem_append_right _ ha)) fun s' q=>⟨rfl,q⟩⟩
end
section
open PyProof.Rows PySem PySem.Calls PySem.W
set_option maxRecDepth 100000
variable{prog:Program}{w:World}{K:Frag}{base:Heap}{P:Pg}{call:bj}{n:Nat}{sc:List (Str×NameKind)}
theorem sx(H:av prog w base P call n sc a a'):av prog w base P call n sc (.BoolOp op [a] pos) a':=
 fun {env A Z σ s loc st v af Q E} ok eo R F h hQ=>BoolOp_one (H ok eo R F h hQ)
theorem AQ{a b:Expr}{rest:List Expr}{a' r':E}{pos:Pos}(HA:av prog w base P call n sc a a')(HB:av prog w base P call n sc (.BoolOp .And (b::rest) pos) r'):av prog w base P call n sc (.BoolOp .And (a::b::rest) pos) (.and a' r'):=
 fun {env A Z σ s loc st v af Q E} ok eo R F h hQ=>by
 replace h:=aE h;refine bP h fun c st1 h1 h2=>?_;clear h;refine BoolOp_and (HA ok eo R F (bN h1) fun σ1 v1 s1 R1 V1 X1=>?_)
 (obtain rfl:=MU V1)
 refine wpAny_truthy_bool ?_;cases c with
 |false=>simp at h2⊢;obtain⟨rfl,rfl⟩:=h2;exact hQ σ1 _ s1 R1 (.bool _) X1
 |true=>
  refine gP fun GP pI=>?_;refine mP h2 fun c2 ak h3 e=>?_;dsimp only at e;cases e;refine pI ?_;exact HB ok eo R1 (F.ext R X1) (bN h3) fun σ2 v2 s2 R2 V2 X2=>hQ σ2 v2 s2 R2 V2 (X1.trans X2)
theorem E0{a b:Expr}{rest:List Expr}{a' r':E}{pos:Pos}(HA:av prog w base P call n sc a a')(HB:av prog w base P call n sc (.BoolOp .Or (b::rest) pos) r'):av prog w base P call n sc (.BoolOp .Or (a::b::rest) pos) (.or a' r'):=
 fun {env A Z σ s loc st v af Q E} ok eo R F h hQ=>by
 replace h:=aE h;refine bP h fun c st1 h1 h2=>?_;clear h;refine BoolOp_or (HA ok eo R F (bN h1) fun σ1 v1 s1 R1 V1 X1=>?_)
 (obtain rfl:=MU V1)
 refine wpAny_truthy_bool ?_;cases c with
 |true=>simp at h2⊢;obtain⟨rfl,rfl⟩:=h2;exact hQ σ1 _ s1 R1 (.bool _) X1
 |false=>
  refine gP fun GP pI=>?_;refine mP h2 fun c2 ak h3 e=>?_;dsimp only at e;cases e;refine pI ?_;exact HB ok eo R1 (F.ext R X1) (bN h3) fun σ2 v2 s2 R2 V2 X2=>hQ σ2 v2 s2 R2 V2 (X1.trans X2)
theorem qm{op:PySem.BoolOp}{a:Expr}{a':E}{pos:Pos}(H:cu prog w base P call n sc a a'):cu prog w base P call n sc (.BoolOp op [a] pos) a':=
 fun {env A Z σ s loc st b af Q E} ok eo R F h hQ=>by
 cases op with
 |And=>
  refine isTrue_and (H ok eo R F h fun σ1 s1 R1 X1=>?_);cases b with
  |false=>exact hQ σ1 s1 R1 X1
  |true=>exact isTrue_and_nil (E:=E) (M:=model prog w) (A:=A) (env:=env) (pos:=pos) (whole:=eval (.BoolOp .And [a] pos) env) (hQ σ1 s1 R1 X1)
 |Or=>
  refine isTrue_or (H ok eo R F h fun σ1 s1 R1 X1=>?_);cases b with
  |true=>exact hQ σ1 s1 R1 X1
  |false=>exact isTrue_or_nil (E:=E) (M:=model prog w) (A:=A) (env:=env) (pos:=pos) (whole:=eval (.BoolOp .Or [a] pos) env) (hQ σ1 s1 R1 X1)
theorem yi{a b:Expr}{rest:List Expr}{a' r':E}{pos:Pos}(HA:cu prog w base P call n sc a a')(HB:cu prog w base P call n sc (.BoolOp .And (b::rest) pos) r'):cu prog w base P call n sc (.BoolOp .And (a::b::rest) pos) (.and a' r'):=
 fun {env A Z σ s loc st v af Q E} ok eo R F h hQ=>by
 replace h:=aE (bN h);refine bP h fun c st1 h1 h2=>?_;clear h;refine isTrue_and (HA ok eo R F h1 fun σ1 s1 R1 X1=>?_);cases c with
 |false=>simp at h2⊢;obtain⟨rfl,rfl⟩:=h2;exact hQ σ1 s1 R1 X1
 |true=>
  refine gP fun GP pI=>?_;refine mP h2 fun c2 ak h3 e=>?_;dsimp only at e;cases e;refine pI ?_;exact HB ok eo R1 (F.ext R X1) h3 fun σ2 s2 R2 X2=>hQ σ2 s2 R2 (X1.trans X2)
theorem AU{a b:Expr}{rest:List Expr}{a' r':E}{pos:Pos}(HA:cu prog w base P call n sc a a')(HB:cu prog w base P call n sc (.BoolOp .Or (b::rest) pos) r'):cu prog w base P call n sc (.BoolOp .Or (a::b::rest) pos) (.or a' r'):=
 fun {env A Z σ s loc st v af Q E} ok eo R F h hQ=>by
 replace h:=aE (bN h);refine bP h fun c st1 h1 h2=>?_;clear h;refine isTrue_or (HA ok eo R F h1 fun σ1 s1 R1 X1=>?_);cases c with
 |true=>simp at h2⊢;obtain⟨rfl,rfl⟩:=h2;exact hQ σ1 s1 R1 X1
 |false=>
  refine gP fun GP pI=>?_;refine mP h2 fun c2 ak h3 e=>?_;dsimp only at e;cases e;refine pI ?_;exact HB ok eo R1 (F.ext R X1) h3 fun σ2 s2 R2 X2=>hQ σ2 s2 R2 (X1.trans X2)
def SI2(prog:Program)(w:World)(base:Heap)(P:Pg)(call:bj)(n:Nat)(sc:List (Str×NameKind))(e t:Expr)(x:SK×E):Prop:=fH prog w base P call n sc e (some t) x.1 x.2
theorem mG(e:Expr)(t:Option Expr)(sk:SK):fH prog w base P call n sc e t sk .stuck:=fun _ _ _ _ h _=>by injection h
theorem eH{t:Expr}{p:cD}(h:cP sc t=some p):gw prog w base sc t p:=by
 cases t with
 |Name x q=>
  obtain⟨k,e,rfl⟩:=Option.map_eq_some_iff.mp h;obtain⟨kd,a,b,rfl⟩:=fF e;exact fun {env A Z σ s loc bB st v d Q E} hA eo R F hv h hq=>fi a b hA eo R F hv h hq
 |Tuple es k q=>
  have h:Ny sc es=some p:=h;unfold Ny at h;cases hn:vR es with
  |some y=>
   obtain⟨x,kb⟩:=y;replace h:=hn▸h;obtain⟨p1,k1,q1,rfl⟩:=AG hn;dsimp only at h;cases e1:de sc x with
   |none=>haveI h:=e1▸h;exfalso;exact f9 h
   |some k=>
    cases e2:(namesOf kb).bind (slotsOf sc)with
    |none=>simp only[e1,e2]at h;exfalso;exact f9 h
    |some ks=>
     simp only[e1,e2]at h;obtain rfl:=cU h;obtain⟨kd,a,b,rfl⟩:=fF e1;obtain⟨xs,e3,e4⟩:=Option.bind_eq_some_iff.mp e2;exact fun {env A Z σ s loc bB st v d Q E} hA eo R F hv h hq=>xV a b e3 e4 hA eo R F hv h hq
  |none=>
   replace h:=hn▸h;obtain⟨ks,e2,rfl⟩:=Option.map_eq_some_iff.mp (show((namesOf es).bind (slotsOf sc)).map cD.vars=some p from h);obtain⟨xs,e3,e4⟩:=Option.bind_eq_some_iff.mp e2;exact fun {env A Z σ s loc bB st v d Q E} hA eo R F hv h hq=>oz e3 e4 hA eo R F hv h hq
 |_=>exfalso;exact f9 (show(none:Option cD)=some p from h)
structure vY(prog:Program)(w:World)(base:Heap)(P:Pg)(call:bj)(n:Nat)(G:GT)(m:Nat):Prop where
 e:∀sc e,av prog w base P call n sc e (cE G m sc e)
 t:∀sc e,cu prog w base P call n sc e (cE G m sc e)
 l:∀sc es,ej prog w base P call n sc es (cL G m sc es)
 i:∀sc t e,fH prog w base P call n sc e (some t) (cI G m sc t e).1 (cI G m sc t e).2
 c:∀sc elt t iter ifs scope pos,av prog w base P call n sc (.ListComp elt [⟨t,iter,ifs,0⟩] scope pos) (iz G m sc elt t iter ifs scope)
theorem AV{G:GT}(g:Gd K base)(fb:rq K base G)(x:Str)(p:Pos):av prog w base P call n sc (.Name x p) (V5 G sc x):=by
 delta V5;apply nU
 ·intro _;exact @aI prog w base P call n sc _
 ·intro hd
  simp only[Bool.or_eq_true,not_or,Bool.not_eq_true]at hd;apply k3E
  ·intro kd hk;exact @zQ prog w base P call n sc _ _ _ hk hd.1 hd.2
  ·intro hk
   apply EX
   ·intro v hg;exact t7 g fb hk hg hd.1
   all_goals intros;exact @aI prog w base P call n sc _
  ·exact @aI prog w base P call n sc _
theorem E3{r:Expr→E}(H:∀e,av prog w base P call n sc e (r e))(l:Expr)(ops:List CmpOp)(cs:List Expr)(p:Pos):av prog w base P call n sc (.Compare l ops cs p) (Zm r l ops cs):=by
 have stuck:∀e,av prog w base P call n sc e .stuck:=fun e=>@aI prog w base P call n sc e;rcases ops with _|⟨o1,_|⟨o2,_|⟨o3,ro⟩⟩⟩<;>rcases cs with _|⟨c1,_|⟨c2,_|⟨c3,rc⟩⟩⟩<;>try exact @stuck _
 ·show av prog w base P call n sc _ (if behindInMarks o1 c1 then .stuck else .cmp o1 (r l) (r c1))
  split
  ·exact @stuck _
  ·rename_i hb;exact Er (by simpa using hb) (H _) (H _)
 ·show av prog w base P call n sc _ (if lastMarks [o1,o2] [c1,c2]then .stuck else .chain o1 o2 (r l) (r c1) (r c2))
  split
  ·exact @stuck _
  ·rename_i hb;exact xN (by simpa using hb) (H _) (H _) (H _)
theorem E4{r:Expr→E}(H:∀e,av prog w base P call n sc e (r e))(op:PySem.BoolOp)(vs:List Expr)(p:Pos):av prog w base P call n sc (.BoolOp op vs p) (Zn r op vs p):=by
 rcases vs with _|⟨a,_|⟨b,rr⟩⟩
 ·exact @aI prog w base P call n sc _
 ·exact sx (H _)
 ·cases op with
  |And=>exact AQ (H _) (H _)
  |Or=>exact E0 (H _) (H _)
theorem E5{r:Expr→E}(H:∀e,av prog w base P call n sc e (r e))(op:PySem.UnaryOp)(a:Expr)(p:Pos):av prog w base P call n sc (.UnaryOp op a p) (Zk r op a):=by
 cases op with
 |USub=>exact Eo (H _)
 |Not=>exact Ep (H _)
 |_=>exact @aI prog w base P call n sc _
theorem E6{r:Expr→E}(H:∀e,av prog w base P call n sc e (r e))(a i:Expr)(p:Pos):av prog w base P call n sc (.Subscript a i p) (V6 r a i):=by
 haveI stuck:∀e,av prog w base P call n sc e .stuck:=fun e=>@aI prog w base P call n sc e;unfold V6;cases hs:VV i with
 |none=>
  show av prog w base P call n sc _ (if gu i then .sub (r a) (r i)else .stuck);rcases Classical.em (gu i=true)with hn|hn
  ·rw[if_pos hn];exact Et hn (H _) (H _)
  ·rw[if_neg hn];exact stuck _
 |some y=>
  obtain⟨k,j⟩:=y;show av prog w base P call n sc _ (if j=1 then .slice k (r a)else .stuck);rcases Classical.em (j=1)with hj|hj
  ·subst hj
   rcases JA hs with⟨rfl,x,y,z,rfl⟩|⟨rfl,x,y,z,rfl⟩|⟨rfl,x,y,z,u,rfl⟩
   ·exact xR (H _)
   ·exact xS (H _)
   ·exact Eu (H _)
  ·exact((if_neg hj).symm▸(stuck _))
theorem E7(g:Gd K base)(hc:∀C c,P.cls.lookup C=some c→dd K C c){r:Expr→E}(H:∀e,av prog w base P call n sc e (r e))(o:Expr)(attr:Str)(p:Pos):av prog w base P call n sc (.Attribute o attr p) (V8 r o attr):=by
 unfold V8
 split
 ·exact @aI prog w base P call n sc _
 ·rename_i ho
  cases hk:atIdx attr with
  |none=>exact @aI prog w base P call n sc _
  |some k=>
   obtain⟨rfl,_⟩:=mE hk;exact Ad g hc (by simpa using ho) (H _)
theorem E8{G:GT}(g:Gd K base)(fb:rq K base G){r:Expr→E}{rl:List Expr→E}(L:∀es,ej prog w base P call n sc es (rl es)){x:Str}{b:Bi}{p:Pos}{args:List Expr}{pos:Pos}
  (hk:sc.lookup x=some .globalImplicit) (hg:G x=some (.bi b)) (hd:(x==("__debug__":Str))=false) (hs:args.all notStar=true):av prog w base P call n sc (.Call (.Name x p) args [] pos) (V9 G sc rl b args):=by
 unfold V9;cases hz:Jz b args with
 |none=>exact dT g fb hk hg hd hs (L _)
 |some y=>
  obtain⟨rfl,p2,q2,rfl⟩:=EW hz;dsimp only;apply nU
  ·intro _;exact @aI prog w base P call n sc _
  ·intro hd2
   simp only[Bool.or_eq_true,not_or,Bool.not_eq_true]at hd2;obtain⟨hd2,qn⟩:=hd2;apply VZ
   ·intro Ws
    apply EX
    ·intro _ _;exact dT g fb hk hg hd hs (L _)
    ·intro _ _;exact dT g fb hk hg hd hs (L _)
    ·intro _;exact dT g fb hk hg hd hs (L _)
    ·intro Wt;exact sv g fb hk hg hd Ws Wt hd2 (by simpa using qn) (L _)
    ·intro _;exact dT g fb hk hg hd hs (L _)
    ·exact dT g fb hk hg hd hs (L _)
   ·exact @aI prog w base P call n sc _
theorem E9(g:Gd K base)(fb:rq K base G)(SC:lR prog w base call n)(cx:∀a vs st r,call a vs st=some r→keepIn K (.ref a)=true)(H:∀e,av prog w base P call n sc e (r e))(L:∀es,ej prog w base P call n sc es (rl es)) x p args pos:
  av prog w base P call n sc (.Call (.Name x p) args [] pos) (Wa G sc r rl (.Name x p) x args):=by
 delta Wa;apply nU
 ·intro _;exact @aI prog w base P call n sc _
 ·intro hd
  simp only[Bool.or_eq_true,not_or,Bool.not_eq_true,Bool.not_eq_true']at hd;obtain⟨hd,hs⟩:=hd;simp only[Bool.not_eq_false]at hs;apply VZ
  ·intro hk
   apply EX
   ·intro _ _;exact rS g SC cx ⟨_,_,rfl⟩ hs (H _) (L _)
   ·intro b hg;exact E8 (r:=r) g fb L hk hg hd hs
   all_goals intros;exact @aI prog w base P call n sc _
  ·exact rS g SC cx ⟨_,_,rfl⟩ hs (H _) (L _)
theorem Fb(g:Gd K base)(SC:lR prog w base call n)(cx:∀a vs st r,call a vs st=some r→keepIn K (.ref a)=true)
  (hc:∀C c,P.cls.lookup C=some c→dd K C c) (H:∀e,av prog w base P call n sc e (r e)) (L:∀es,ej prog w base P call n sc es (rl es)) (o:Expr) (attr:Str) (apos:Pos) (args:List Expr) (pos:Pos):
  av prog w base P call n sc (.Call (.Attribute o attr apos) args [] pos) (Wb r rl o attr apos args pos):=by
 unfold Wb
 split
 ·exact @aI prog w base P call n sc _
 ·rename_i hd
  simp only[Bool.or_eq_true,not_or,Bool.not_eq_true]at hd;obtain⟨⟨⟨h1,h2⟩,h3⟩,h4⟩:=hd;cases hk:atIdx attr with
  |none=>exact @aI prog w base P call n sc _
  |some k=>
   obtain⟨rfl,_⟩:=mE hk;exact Af g SC cx hc h1 (by simpa using h2) (by simpa using h3) (by simpa using h4) (H _) (L _)
theorem Fc{G:GT}(g:Gd K base)(fb:rq K base G)(SC:lR prog w base call n)(cx:∀a vs st r,call a vs st=some r→keepIn K (.ref a)=true)
  (hc:∀C c,P.cls.lookup C=some c→dd K C c) {r:Expr→E} {rl:List Expr→E} (H:∀e,av prog w base P call n sc e (r e)) (L:∀es,ej prog w base P call n sc es (rl es)) (f:Expr) (args:List Expr) (ks:List Keyword) (pos:Pos):
  av prog w base P call n sc (.Call f args ks pos) (Wc G sc r rl f args ks pos):=by
 unfold Wc;cases hf:kf f ks with
 |nm x=>
  obtain⟨⟨p,rfl⟩,rfl⟩:=sl hf;exact E9 g fb SC cx H L x p args pos
 |«at» o attr apos=>
  obtain⟨rfl,rfl⟩:=AH hf;exact Fb g SC cx hc H L o attr apos args pos
 |no=>exact @aI prog w base P call n sc _
theorem AW{G:GT}(g:Gd K base)(fb:rq K base G)(SC:lR prog w base call n)(cx:∀a vs st r,call a vs st=some r→keepIn K (.ref a)=true)
  (hc:∀C c,P.cls.lookup C=some c→dd K C c) {m:Nat} (I:vY prog w base P call n G m):∀sc e,av prog w base P call n sc e (cE G (m+1) sc e):=by
 intro sc e;have stuck:∀e,av prog w base P call n sc e .stuck:=fun e=>@aI prog w base P call n sc e;cases e with
 |Constant c k p=>cases c with
  |int i=>exact @Eb prog w base P call n sc _ _ _
  |str x=>exact @Ec prog w base P call n sc _ _ _
  |bool b=>exact @zO prog w base P call n sc _ _ _
  |none=>exact @zP prog w base P call n sc _ _
  |_=>exact @stuck _
 |Name x p=>exact @AV prog w K base P call n sc G g fb x p
 |List es p=>exact @Em prog w base P call n sc _ _ _ (I.l _ _)
 |Tuple es k p=>exact @El prog w base P call n sc _ _ _ _ (I.l _ _)
 |BinOp l op r p=>exact @En prog w base P call n sc _ _ _ _ _ _ (I.e _ _) (I.e _ _)
 |UnaryOp op a p=>exact @E5 prog w base P call n sc _ (fun e=>I.e _ e) op a p
 |Compare l ops cs p=>exact @E3 prog w base P call n sc _ (fun e=>I.e _ e) l ops cs p
 |BoolOp op vs p=>exact @E4 prog w base P call n sc _ (fun e=>I.e _ e) op vs p
 |IfExp c a b p=>exact @Es prog w base P call n sc _ _ _ _ _ _ _ (I.t _ _) (I.e _ _) (I.e _ _)
 |Subscript a i p=>exact @E6 prog w base P call n sc _ (fun e=>I.e _ e) a i p
 |Attribute o attr p=>exact @E7 prog w K base P call n sc g hc _ (fun e=>I.e _ e) o attr p
 |Call f args ks pos=>exact @Fc prog w K base P call n sc G g fb SC cx hc _ _ (fun e=>I.e _ e) (fun e=>I.l _ e) f args ks pos
 |ListComp elt gens scope p=>
  rcases gens with _|⟨⟨t,iter,ifs,k⟩,_|⟨g2,r⟩⟩
  ·exact @stuck _
  ·rcases Decidable.em (k=0)with hk|hk
   ·subst hk;exact @vY.c prog w base P call n G m I _ _ _ _ _ _ _
   ·haveI e1:cE G (m+1) sc (.ListComp elt [⟨t,iter,ifs,k⟩] scope p)=.stuck:=by
     show(if k=0 then _ else E.stuck)=_;refine(if_neg hk).symm▸?_;try rfl
    simp only[e1];exact @stuck _
  ·exact @stuck _
 |_=>exact @stuck _
theorem yj{G:GT}{m:Nat}(I:vY prog w base P call n G m)(H:∀sc e,av prog w base P call n sc e (cE G (m+1) sc e)):∀sc e,cu prog w base P call n sc e (cE G (m+1) sc e):=by
 intro sc e;haveI h:av prog w base P call n sc e (cE G (m+1) sc e):=@H sc e;have stuck:∀e,cu prog w base P call n sc e .stuck:=fun e=>@lS prog w base P call n sc e;have plain:∀e' Ug,av prog w base P call n sc e' Ug→(∀env whole,isTrue e' env whole=(do let v ←whole;standAt e'.pos;holding [v] (truthy v)))→cu prog w base P call n sc e' Ug:=fun e' Ug hh he=>@t6 prog w base P call n sc e' Ug hh he;cases e with
 |BoolOp op vs pos=>
  cases vs with
  |nil=>show cu prog w base P call n sc _ .stuck;exact stuck _
  |cons a r=>
   cases r with
   |nil=>show cu prog w base P call n sc _ (cE G m sc a);exact qm (I.t _ _)
   |cons b r=>
    cases op with
    |And=>show cu prog w base P call n sc _ (.and (cE G m sc a) (cE G m sc (.BoolOp .And (b::r) pos)));exact yi (I.t _ _) (I.t _ _)
    |Or=>show cu prog w base P call n sc _ (.or (cE G m sc a) (cE G m sc (.BoolOp .Or (b::r) pos)));exact AU (I.t _ _) (I.t _ _)
 |UnaryOp op a pos=>
  cases op with
  |Not=>show cu prog w base P call n sc _ (.not (cE G m sc a));exact Aa (I.t _ _)
  |USub=>exact @plain _ _ (@h) (fun _ _=>rfl)
  |Invert=>exact @plain _ _ (@h) (fun _ _=>rfl)
  |UAdd=>exact @plain _ _ (@h) (fun _ _=>rfl)
 |IfExp c a b pos=>show cu prog w base P call n sc _ (.ite (cE G m sc c) (cE G m sc a) (cE G m sc b));exact Ac (I.t _ _) (I.t _ _) (I.t _ _)
 |Compare l ops cs pos=>
  rcases ops with _|⟨o1,_|⟨o2,_|⟨o3,ro⟩⟩⟩<;>rcases cs with _|⟨c1,_|⟨c2,_|⟨c3,rc⟩⟩⟩<;>try (show cu prog w base P call n sc _ .stuck;exact stuck _)
  ·show cu prog w base P call n sc _ (if behindInMarks o1 c1 then .stuck else .cmp o1 (cE G m sc l) (cE G m sc c1))
   split
   ·exact stuck _
   ·rename_i hb;exact Ab (by simpa using hb) (I.e _ _) (I.e _ _)
  ·show cu prog w base P call n sc _ (if lastMarks [o1,o2] [c1,c2]then .stuck else .chain o1 o2 (cE G m sc l) (cE G m sc c1) (cE G m sc c2))
   split
   ·exact stuck _
   ·rename_i hb;exact uh (by simpa using hb) (I.e _ _) (I.e _ _) (I.e _ _)
 |_=>exact @plain _ _ (@h) (fun _ _=>rfl)
theorem yk{G:GT}{m:Nat}(I:vY prog w base P call n G m):∀sc es,ej prog w base P call n sc es (cL G (m+1) sc es):=by
 intro sc es;cases es with
 |nil=>exact @z9 prog w base P call n sc
 |cons e r=>
  show ej prog w base P call n sc (e::r) (if notStar e then .cons (cE G m sc e) (cL G m sc r)else .stuck);apply nU
  ·intro h;exact xM h (I.e _ _) (I.l _ _)
  ·intro _;exact lT _
theorem yl{G:GT}(g:Gd K base)(fb:rq K base G){m:Nat}(I:vY prog w base P call n G m):∀sc t e,fH prog w base P call n sc e (some t) (cI G (m+1) sc t e).1 (cI G (m+1) sc t e).2:=by
 intro sc t e;have qo:fH prog w base P call n sc e (some t) .seq (cE G m sc e):=rW (I.e _ _);dsimp only[cI];cases hc:ug e with
 |none=>exact @qo
 |some c=>
  obtain⟨f,args,ks,pos⟩:=c;dsimp only;cases hf:kf f ks with
  |no=>exact @qo
  |«at» o a b=>exact @qo
  |nm x=>
   obtain⟨⟨p,rfl⟩,rfl⟩:=sl hf;obtain rfl:=pU hc;dsimp only;show SI2 prog w base P call n sc _ t (qI G sc (cL G m sc) t x args (.seq,cE G m sc (.Call (.Name x p) args [] pos)));delta qI;apply nU
   ·intro _;exact @mG prog w base P call n sc _ _ _
   ·intro hd
    simp only[Bool.or_eq_true,not_or,Bool.not_eq_true,Bool.not_eq_true']at hd;obtain⟨hd,hs⟩:=hd;simp only[Bool.not_eq_false]at hs;apply VZ
    rotate_left
    ·exact @qo
    intro hk;apply EX
    rotate_left 5
    ·exact @qo
    ·intros;exact @qo
    ·intros;exact @qo
    ·intro hg;exact Ao g fb hk hg hd hs (I.l _ _)
    ·intro hg
     apply nU
     rotate_left
     ·intro _;exact @qo
     intro ht;obtain⟨es,k,q,rfl⟩:=oL ht;exact AJ g fb hk hg hd hs (I.l _ _)
    ·intro hg
     apply nU
     rotate_left
     ·intro _;exact @qo
     intro ht;obtain⟨es,k,q,rfl⟩:=oL ht;exact yh g fb hk hg hd hs (I.l _ _)
theorem ym(I:vY prog w base P call n G m):∀sc elt t iter ifs scope pos,av prog w base P call n sc (.ListComp elt [⟨t,iter,ifs,0⟩] scope pos) (iz G (m+1) sc elt t iter ifs scope):=by
 intro sc elt t iter ifs scope pos;rw[←vV];apply nU
 ·intro h
  simp only[Bool.and_eq_true]at h;apply NA
  ·intro p hp hl;subst hl
   exact mB (I.i _ _ _) (bM h.1) (fk h.2) (eH hp) (.inl ⟨rfl,rfl⟩) (I.e _ _)
  ·intro p c hp hl;subst hl
   exact mB (I.i _ _ _) (bM h.1) (fk h.2) (eH hp) (.inr ⟨c,rfl,I.t _ _⟩) (I.e _ _)
  ·exact @aI prog w base P call n sc _
 ·intro _;exact @aI prog w base P call n sc _
theorem vZ{G:GT}(g:Gd K base)(fb:rq K base G)(SC:lR prog w base call n)(cx:∀a vs st r,call a vs st=some r→keepIn K (.ref a)=true)
  (hc:∀C c,P.cls.lookup C=some c→dd K C c):∀m,vY prog w base P call n G m
 |0=>⟨fun sc e=>@aI prog w base P call n sc e,fun sc e=>@lS prog w base P call n sc e,fun sc es=>@lT prog w base P call n sc es,fun sc t e=>@mG prog w base P call n sc e (some t) .seq,fun sc elt t iter ifs scope pos=>@aI prog w base P call n sc _⟩
 |m+1=>by
  haveI I:=vZ g fb SC cx hc m;haveI H:=AW g fb SC cx hc I;exact⟨H,yj I H,yk I,yl g fb I,ym I⟩
theorem jm(eo:bl env sc):env.blockKind=.function:=by
 unfold Env.blockKind;refine(eo.kind).symm▸?_;rfl
theorem jn(eo:bl env sc)(h:(sc.lookup x).isSome=true):(env.kindOf x==some .local)=(sc.lookup x==some .local):=by
 obtain⟨kd,hk⟩:=Option.isSome_iff_exists.mp h;rcases eo.kinds x kd hk with e|⟨e1,e2⟩
 ·refine e.symm▸?_;refine hk.symm▸?_;try rfl
 ·refine e2.symm▸?_;refine hk.symm▸?_;refine e1.symm▸?_;rfl
theorem gx{α β:Type}{f g:α→Option β}:∀{l:List α},(∀x∈l,f x=g x)→l.filterMap f=l.filterMap g
 |[],_=>rfl
 |a::r,h=>by
  rw[List.filterMap_cons,List.filterMap_cons,h a (List.mem_cons_self ..),gx fun x hx=>h x (List.mem_cons_of_mem _ hx)]
theorem mH{env:Env}(eo:bl env sc){ts:List Expr}{k:Nat}{tp:Pos}{value:Expr}{r:Option (List Str)}(h:uB sc ts value=some r):swappedStores [.Tuple ts k tp] value env=pure r:=by
 cases value with
 |Tuple vs kk vp=>
  haveI h:(if !(ts.all (Wd sc))then none else Wg ts vs (ts.filterMap (Wf sc ((ts.head?.map (·.pos.line)).getD 0))))=some r:=h;refine tX h fun hn h=>?_
  ·haveI hn:∀t∈ts,Wd sc t=true:=by
    simp only[Bool.not_eq_true',Bool.not_eq_false]at hn;exact List.all_eq_true.mp hn
   haveI hfm:∀(line:Nat),(ts.filterMap fun|.Name id pos=>if env.kindOf id==some .local&&pos.line==line then some id else none|_=>none)=ts.filterMap (Wf sc line):=fun line=>by
    apply gx;intro t ht;have:=hn t ht;cases t with
    |Name id pos=>exact congrArg (fun b=>if b&&pos.line==line then some id else none) (jn eo this)
    |_=>rfl
   dsimp only[swappedStores];rw[jm eo];haveI hbk:(ScopeKind.function != ScopeKind.function)=false:=by decide
   rw[hbk];rw[Bool.or_false];haveI hN:=hfm ((Option.map (fun(x:Expr)=>x.pos.line) ts.head?).getD 0);generalize hM:List.filterMap _ ts=M at h;delta Wg at h;generalize hA1:vs.any _=A1 at h;generalize uj:vs.any _=A2;generalize hL:List.filterMap _ ts=L;haveI e1:A1=A2:=hA1.symm.trans uj;haveI e2:L=M:=hL.symm.trans (hN.trans hM);subst e1 e2;rcases Classical.em ((!(ts.length==2 ||ts.length==3) ||vs.length != ts.length)=true)with hc|hc
   ·rw[if_pos hc]at h⊢;obtain rfl:=cU h;rfl
   ·rw[if_neg hc]at h⊢
    by_cases h2:A1=true
    ·rw[if_pos h2]at h⊢;obtain rfl:=cU h;rfl
    ·rw[if_neg h2]at h⊢
     by_cases h3:(L.length != ts.length ||L.eraseDups.length != L.length)=true
     ·rw[if_pos h3]at h⊢;obtain rfl:=cU h;rfl
     ·rw[if_neg h3]at h⊢
      by_cases h4:vs.all (foldedForSure 8)=true
      ·rw[if_pos h4]at h⊢;obtain rfl:=cU h;rfl
      ·rw[if_neg h4]at h⊢
       by_cases h5:vs.all (constantsAlone 8)=true
       ·rw[if_pos h5]at h;(exact bX h)
       ·rw[if_neg h5]at h⊢;obtain rfl:=cU h;rfl
 |_=>(obtain rfl:=cU (a:=none) h);rfl
theorem mI:swapsWithSole [.Tuple ts k tp] value line env=pure false:=by
 cases value<;>rfl
theorem uE(h:AI value=false):swapsWithSole [t] value line env=pure false:=by
 cases value<;>first|rfl|cases h
theorem iR{env:Env}(eo:bl env sc){x:Str}{px pos:Pos}{elt:Expr}{gens:List Comprehension}{scope:Scope}{line:Nat}(hx:(sc.lookup x).isSome=true):
  swapsWith (.ListComp elt gens scope pos) (some (.Name x px)) line env=pure (dW sc x px pos scope):=by
 dsimp only[swapsWith,dW];simp only[jm eo,jn eo hx];rfl
theorem yn{G:GT}(I:∀m,vY prog w base P call n G m)(m:Nat)(sc:List (Str×NameKind))(elt t iter:Expr)(ifs:List Expr)(scope:Scope):
  iz G m sc elt t iter ifs scope=.stuck∨∃p sk src cond cV,iz G m sc elt t iter ifs scope=.comp (cH sc scope.names) p sk src cond cV∧fH prog w base P call n sc iter (some t) sk src∧(∀env x,foldedSetIterable iter env x=pure x)∧
   dD sc scope∧gw prog w base scope.names t p∧r5 prog w base P call n scope.names ifs cond∧av prog w base P call n scope.names elt cV:=by
 cases m with
 |zero=>left;delta iz;rfl
 |succ m=>
  rw[←vV];refine nU ?_ ?_
  ·intro h
   simp only[Bool.and_eq_true]at h;refine NA (M:=fun x:E=>x=.stuck∨∃p sk src cond cV,x=.comp (cH sc scope.names) p sk src cond cV∧fH prog w base P call n sc iter (some t) sk src∧(∀env x,foldedSetIterable iter env x=pure x)∧dD sc scope∧gw prog w base scope.names t p∧r5 prog w base P call n scope.names ifs cond∧av prog w base P call n scope.names elt cV) ?_ ?_ ?_
   ·intro p hp hl;subst hl
    exact .inr ⟨_,_,_,_,_,rfl,(I m).i _ _ _,bM h.1,fk h.2,eH hp,.inl ⟨rfl,rfl⟩,(I m).e _ _⟩
   ·intro p c hp hl;subst hl
    exact .inr ⟨_,_,_,_,_,rfl,(I m).i _ _ _,bM h.1,fk h.2,eH hp,.inr ⟨c,rfl,(I m).t _ _⟩,(I m).e _ _⟩
   ·exact .inl rfl
  ·exact fun _=>.inl rfl
structure AX(prog:Program)(w:World)(base:Heap)(P:Pg)(call:bj)(n:Nat)(G:GT)(m:Nat):Prop where
 s:∀sc b,df prog w base P call n sc b (cS G m sc b)
 b:∀sc b,kz prog w base P call n sc b (cB G m sc b)
theorem yo(b:Stmt)(p:cD):df prog w base P call n sc b (.asg p .stuck):=fun {env A Z σ s loc bB st af fl Q E} ok eo R F h hq=>by injection h
theorem AY{G:GT}{m:Nat}(I:vY prog w base P call n G m)(es:List Expr)(k:Nat)(tp:Pos)(e:Expr)(pos:Pos):df prog w base P call n sc (.Assign [.Tuple es k tp] e pos) (JC sc (cE G m sc) es e):=by
 unfold JC;cases Lj:uB sc es e with
 |none=>exact @aP prog w base P call n sc _
 |some y=>
  cases y with
  |some xs=>
   dsimp only;cases Zt:slotsOf sc xs.reverse with
   |none=>exact @aP prog w base P call n sc _
   |some kr=>
    exact qb (fun env=>mI) (fun env eo=>mH eo Lj) (by simp only[List.reverse_reverse];exact Zt) (by haveI:=ke Zt;simpa using this) (I.e _ _)
  |none=>
   dsimp only;cases hp:Ny sc es with
   |none=>exact @aP prog w base P call n sc _
   |some p=>exact mq (fun env eo=>mI) (fun env eo=>mH eo Lj) (eH (show cP sc (.Tuple es k tp)=some p from hp)) (I.e _ _) (fun env=>rfl)
theorem AZ{G:GT}(I:∀m,vY prog w base P call n G m){m:Nat}(x:Str)(px:Pos)(e:Expr)(q:Pos):df prog w base P call n sc (.Assign [.Name x px] e q) (JD sc (cE G m) (iz G m sc) (cI G m sc) x px e):=by
 unfold JD;rcases NB (e:=e) rfl with⟨elt,t,iter,ifs,scope,p,h0,rfl⟩|⟨elt,t1,Wu,t2,i2',scope,p,h0,rfl⟩|h0
 ·rw[h0]
  dsimp only;cases hk:de sc x with
  |none=>exact @aP prog w base P call n sc _
  |some k=>
   obtain⟨kd,hx,Ai,rfl⟩:=fF hk;rcases yn I m sc elt t iter ifs scope with e|⟨pp,sk,src,cond,cV,e,h1,h2,h3,h4,h5,h6⟩
   ·dsimp only;simp only[e];exact @yo prog w base P call n sc _ _
   ·dsimp only;simp only[e]
    refine Mq (dW sc x px p scope) (fun hb=>?_) fun hb=>?_
    ·refine mq (fun env eo=>?_) (fun env eo=>by unfold swappedStores;rfl) (fi hx Ai) (mB h1 h2 h3 h4 h5 h6) (fun env=>rfl)
     haveI:=iR (px:=px) (pos:=p) (elt:=elt) (gens:=[⟨t,iter,ifs,0⟩]) (scope:=scope) (line:=q.line) eo (by rw[hx];rfl);simp only[hb]at this;exact this
    ·refine qh (fun env eo=>by rw[iR eo (by rw[hx];rfl),hb]) ?_ h1 h2 h3 h4 h5 h6
     dsimp only[dW]at hb;simp only[Bool.and_eq_true]at hb;simpa using hb.1.1
 ·rw[h0]
  dsimp only
  split
  ·rename_i hb
   simp only[Bool.and_eq_true]at hb;obtain⟨⟨⟨hb,i1⟩,i2⟩,hco⟩:=hb;cases hp1:cP scope.names t1 with
   |none=>exact @aP prog w base P call n sc _
   |some p1=>
    cases hp2:cP scope.names t2 with
    |none=>exact @aP prog w base P call n sc _
    |some p2=>
     haveI hx:=hb;dsimp only[dW]at hx;simp only[Bool.and_eq_true]at hx;have hx:=hx.1.1;rw[beq_iff_eq]at hx;exact @n7 prog w base P call n sc t1 Wu t2 i2' elt scope p px q _ _ _ _ _ _ x (fun env eo=>(iR eo (by rw[hx];rfl)).trans (by rw[hb])) hx ((I m).i _ _ _) (bM i1) (fk hco) (eH hp1) (rW ((I m).e _ _)) (bM i2) (eH hp2) ((I m).e _ _)
  ·exact @aP prog w base P call n sc _
 ·rw[h0]
  dsimp only
  split
  ·exact @aP prog w base P call n sc _
  ·rename_i Wv
   cases hk:de sc x with
   |none=>exact @aP prog w base P call n sc _
   |some k=>
    obtain⟨kd,hx,Ai,rfl⟩:=fF hk;exact mq (fun env eo=>uE (by simpa using Wv)) (fun env eo=>by unfold swappedStores;rfl) (fi hx Ai) ((I m).e _ _) (fun env=>rfl)
theorem A0{G:GT}(g:Gd K base)(hc:∀C c,P.cls.lookup C=some c→dd K C c)(I:∀m,vY prog w base P call n G m){m:Nat}(ts:List Expr)(e:Expr)(q:Pos):df prog w base P call n sc (.Assign ts e q) (JE sc (cE G m) (iz G m sc) (cI G m sc) ts e):=by
 unfold JE;rcases JB (l:=ts) rfl with⟨o,attr,p,h0,rfl⟩|⟨o,i,p,h0,rfl⟩|⟨es,k,p,h0,rfl⟩|⟨x,p,h0,rfl⟩|h0
 ·rw[h0]
  dsimp only;cases hk:atIdx attr with
  |none=>exact @aP prog w base P call n sc _
  |some k=>
   obtain⟨rfl,_⟩:=mE hk;exact qc g hc ((I m).e _ _) ((I m).e _ _)
 ·rw[h0]
  dsimp only
  split
  ·rename_i hs
   refine qd (fun a b c d e=>?_) ((I m).e _ _) ((I m).e _ _) ((I m).e _ _);subst e;cases hs
  ·exact @aP prog w base P call n sc _
 ·simp only[h0];exact @AY prog w base P call n sc G m (I m) es k p e q
 ·simp only[h0];exact @AZ prog w base P call n sc G I m x p e q
 ·simp only[h0];exact @aP prog w base P call n sc _
theorem A4{G:GT}(I:∀m,vY prog w base P call n G m){m:Nat}{b:List Stmt}{b':S}(J:kz prog w base P call n sc b b')(t iter:Expr)(q:Pos):df prog w base P call n sc (.For t iter b [] q) (JF sc (cI G m sc) t iter b'):=by
 unfold JF
 split
 ·rename_i hi
  cases hp:cP sc t with
  |none=>exact @aP prog w base P call n sc _
  |some p=>exact Ap (bM hi) ((I m).i _ _ _) (eH hp) J
 ·exact @aP prog w base P call n sc _
theorem yp{G:GT}(g:Gd K base)(hc:∀C c,P.cls.lookup C=some c→dd K C c)(I:∀m,vY prog w base P call n G m){m:Nat}(J:AX prog w base P call n G m):∀sc b,df prog w base P call n sc b (cS G (m+1) sc b):=by
 intro sc b;have stuck:∀b,df prog w base P call n sc b .stuck:=fun b=>@aP prog w base P call n sc b;cases b with
 |Pass p=>exact @xX prog w base P call n sc _
 |Continue p=>exact @xY prog w base P call n sc _
 |Expr e p=>
  show df prog w base P call n sc _ (if jl e then .expr (cE G m sc e)else .stuck);rcases Decidable.em (jl e=true)with h|h
  ·rw[if_pos h]
   obtain⟨f,as,ks,q,rfl⟩:=uC h;exact ya ⟨_,_,_,_,rfl⟩ ((I m).e _ _)
  ·rw[if_neg h];exact @stuck _
 |Return o p=>
  cases o with
  |some e=>show df prog w base P call n sc _ (.ret (cE G m sc e));exact Al ((I m).e _ _)
  |none=>show df prog w base P call n sc _ (.ret (.cst .none));exact yb
 |If t b r p=>show df prog w base P call n sc _ (.ite (cE G m sc t) (cB G m sc b) (cB G m sc r));exact EA ((I m).t _ _) (J.b _ _) (J.b _ _)
 |While t b r p=>
  cases r with
  |nil=>show df prog w base P call n sc _ (.pJ (cE G m sc t) (cB G m sc b));exact um ((I m).t _ _) (J.b _ _)
  |cons x r=>exact @stuck _
 |For t iter b r p=>
  cases r with
  |nil=>exact @A4 prog w base P call n sc G I m b _ (J.b _ _) t iter p
  |cons x r=>exact @stuck _
 |Assign ts e q=>exact @A0 prog w K base P call n sc G g hc I m ts e q
 |_=>exact @stuck _
theorem A7{G:GT}(g:Gd K base)(hc:∀C c,P.cls.lookup C=some c→dd K C c)(I:∀m,vY prog w base P call n G m):∀m,AX prog w base P call n G m
 |0=>⟨fun sc b=>@aP prog w base P call n sc b,fun sc b=>@uk prog w base P call n sc b⟩
 |m+1=>by
  haveI J:=A7 g hc I m;refine⟨yp g hc I J,fun sc b=>?_⟩;cases b with
  |nil=>exact @Ak prog w base P call n sc
  |cons b r=>show kz prog w base P call n sc _ (.seq (cS G m sc b) (cB G m sc r));exact xW (J.s _ _) (J.b _ _)
end
section
open PyProof.Rows PySem PySem.Calls PySem.W
theorem mem_lookup{β:Type}{l:List (Nat×β)}{a:Nat}{b:β}(h:l.lookup a=some b):(a,b)∈l:=by
 induction l with
 |nil=>(exact bX h)
 |cons p r ih=>
  obtain⟨x,y⟩:=p;rw[List.lookup_cons]at h;rcases Classical.em (a=x)with e|e
  ·subst e;simp at h;subst h;exact List.mem_cons_self ..
  ·haveI h:=(show(a==x)=false by simpa using e)▸h
   exact List.mem_cons_of_mem _ (ih (by simpa using h))
noncomputable def same{α:Type}[DecidableEq α](o o':Option α):Bool:=o.isSome&&decide (o=o')
theorem fm{α:Type}[DecidableEq α]{o o':Option α}(h:same o o'=true){GG:Prop}(kk:∀a,o=some a→o'=some a→GG):GG:=by
 obtain⟨h1,h2⟩:=Bool.and_eq_true_iff.mp h;cases o with
 |none=>exact Bool.noConfusion h1
 |some a=>exact kk a rfl ((of_decide_eq_true h2).symm)
theorem fq{α:Type}{o:Option α}{p:α→Bool}(h:o.any p=true){GG:Prop}(kk:∀a,o=some a→p a=true→GG):GG:=by
 cases o with
 |none=>exact Bool.noConfusion h
 |some a=>exact kk a rfl h
theorem sy{p:Prop}(h:(a ||b)=true)(f:a=true→p)(g:b=true→p):p:=(Bool.or_eq_true_iff.mp h).elim f g
noncomputable def wI:Value→Option Int
 |.int i _=>some i
 |_=>none
noncomputable def wB:Value→Option Bool
 |.bool i=>some i
 |_=>none
noncomputable def wT:Value→Option Str
 |.str i _=>some i
 |_=>none
noncomputable def wR:Value→Option Addr
 |.ref i=>some i
 |_=>none
noncomputable def vN:V→Bool
 |.none=>true
 |_=>false
noncomputable def vS:V→Option Str
 |.str i=>some i
 |_=>none
noncomputable def vT:V→Option (List V)
 |.tup i=>some i
 |_=>none
theorem v5(h:wI x=some i){GG:Prop}(kk:∀t,x=.int i t→GG):GG:=by cases x<;>cases h<;>exact kk _ rfl
theorem NK(h:wB x=some i):x=.bool i:=by cases x<;>cases h<;>rfl
theorem Fd(h:wT x=some i){GG:Prop}(kk:∀t,x=.str i t→GG):GG:=by cases x<;>cases h<;>exact kk _ rfl
theorem A9(h:wR x=some i):x=.ref i:=by cases x<;>cases h<;>rfl
theorem NM(h:vN x=true):x=.none:=by cases x<;>cases h<;>rfl
theorem NN(h:vS x=some i):x=.str i:=by cases x<;>cases h<;>rfl
theorem NP(h:vT x=some i):x=.tup i:=by cases x<;>cases h<;>rfl
noncomputable def NQ:Data→Option FuncData
 |.func fd=>some fd
 |_=>none
noncomputable def JH:Data→Option (Array Value×Nat)
 |.seq xs n=>some (xs,n)
 |_=>none
noncomputable def NR:FuncBody→Option (List Stmt)
 |.stmts b=>some b
 |_=>none
theorem Fe(h:NQ x=some i):x=.func i:=by cases x<;>cases h<;>rfl
theorem v8(h:JH x=some i):x=.seq i.1 i.2:=by cases x<;>cases h<;>rfl
theorem Ff(h:NR x=some i):x=.stmts i:=by cases x<;>cases h<;>rfl
noncomputable def JI(v:Value)(d:V):Bool:=same (wI v) (vI d) ||(same (wB v) (vB d) ||(decide (v=.none)&&vN d))
theorem Fg(h:JI v d=true):AA v d:=fun Z σ hp=>by
 refine sy h (fun h=>?_) fun h=>sy h (fun h=>?_) fun h=>?_
 ·refine fm h fun i h1 h2=>?_
  refine v5 h1 fun t Nb=>?_;subst Nb;obtain rfl:=oq h2;exact .int _ _
 ·refine fm h fun i h1 h2=>?_
  obtain rfl:=NK h1;obtain rfl:=rG h2;exact .bool _
 ·have h:=Bool.and_eq_true_iff.mp h
  have rH:=of_decide_eq_true h.1;subst rH;obtain rfl:=NM h.2;exact .zK
noncomputable def defsOf(K:Frag)(v:Value):Option (List Value):=if v=.none then some []else(wR v).bind fun T=>(K.lookup T).bind fun o=>(JH o.data).map fun x=>x.1.toList
noncomputable def qp:List Value→List V→Bool
 |v::l,ds=>(match ds with|d::ds=>JI v d&&qp l ds|[]=>false)
 |[],ds=>ds.isEmpty
theorem oN{l:List Value}:∀{ds:List V},qp l ds=true→l.length=ds.length∧∀(i:Nat) v d,l[i]? =some v→ds[i]? =some d→AA v d:=by
 induction l with
 |nil=>exact fun {ds} h=>by have xB:=List.isEmpty_iff.mp h;subst xB;exact⟨rfl,fun i v d e=>nomatch e⟩
 |cons v l ih=>
  intro ds h;cases ds with
  |nil=>exact Bool.noConfusion h
  |cons d ds=>
   have h:=Bool.and_eq_true_iff.mp (show(JI v d&&qp l ds)=true from h);haveI h1:=(ih h.2).1;haveI h2:=(ih h.2).2;refine⟨congrArg (· +1) h1,fun i u e e1 e2=>?_⟩;cases i with
   |zero=>cases e1;cases e2;exact Fg h.1
   |succ i=>exact h2 i u e e1 e2
noncomputable def H8(K:Frag)(a:Addr):Option (Obj×FuncData×List Stmt):=(K.lookup a).bind fun o=>(NQ o.data).bind fun fd=>(NR fd.body).map fun b=>(o,fd,b)
noncomputable def H9(p:Arguments):Bool:=p.posonlyargs.isEmpty&&(p.vararg.isNone&&(p.kwonlyargs.isEmpty&&p.kwarg.isNone))
theorem A'(h:H9 p=true):p=⟨[],p.args,none,[],p.kw_defaults,none,p.defaults⟩:=by
 obtain⟨a,b,c,d,e,f,g⟩:=p;haveI h1:=Bool.and_eq_true_iff.mp h;haveI h2:=Bool.and_eq_true_iff.mp h1.2;haveI h3:=Bool.and_eq_true_iff.mp h2.2;obtain rfl:a=[]:=List.isEmpty_iff.mp h1.1;obtain rfl:d=[]:=List.isEmpty_iff.mp h3.1;obtain rfl:c=none:=Option.isNone_iff_eq_none.mp h2.1;obtain rfl:f=none:=Option.isNone_iff_eq_none.mp h3.2;rfl
abbrev FnD(K:Frag)(a:Addr)(f:FI)(fd:FuncData)(dl:List Value):Prop:=
 fd.scope.isCoroutine=false∧fd.scope.isGenerator=false∧fd.scope.kind=.function∧codeIn K fd.code fd.qualname=true∧fd.closure=[]∧fd.globals=mainGlobals∧fd.builtins=builtinsNs∧H9 fd.params=true∧
 (fd.scope.names.map (·.1)).Nodup∧(∀p∈fd.scope.names,p.2≠.free)∧f.n=fd.scope.names.length∧f.np=fd.params.args.length∧(fd.scope.names.take f.np).map (·.1)=fd.params.args.map (·.arg)∧
 (∀p∈fd.scope.names.take f.np,p.2=.local∨p.2=.cell)∧f.defaults.length≤f.np∧qp dl f.defaults=true∧keepIn K (.ref a)=true
noncomputable def Bc(K:Frag)(a:Addr)(f:FI):Bool:=(H8 K a).any fun r=>(defsOf K r.2.1.defaults).any fun dl=>decide (FnD K a f r.2.1 dl)
noncomputable def mJ(K:Frag)(G:GT)(a:Addr):S:=match H8 K a with
 |some r=>cB G 60 r.2.1.scope.names r.2.2
 |none=>.stuck
end
section
open PyProof.Rows PySem PySem.Calls PySem.W
variable{prog:Program}{w:World}{K:Frag}{base:Heap}{P:Pg}
theorem yq{dl:List Value}(h:defsOf K v=some dl):(v=.none∧dl=[])∨∃T o n,v=.ref T∧K.lookup T=some o∧o.data=.seq dl.toArray n:=by
 refine gP fun GP kQ=>?_;unfold defsOf at h
 by_cases e:v=.none
 ·replace h:=(if_pos e)▸h;cases h;refine kQ ?_;exact .inl ⟨e,rfl⟩
 ·replace h:=(if_neg e)▸h
  obtain⟨T,h1,h⟩:=Option.bind_eq_some_iff.mp h;refine gP fun GP kP=>?_;obtain⟨o,h2,h⟩:=Option.bind_eq_some_iff.mp h;obtain⟨x,h3,rfl⟩:=Option.map_eq_some_iff.mp h;refine kP ?_;refine kQ ?_;exact .inr ⟨T,o,x.2,A9 h1,h2,v8 h3⟩
theorem sg.of(h:Bc K a f=true)(hb:mJ K G a=f.body)(g:Gd K base)(fb:rq K base G)(hc:∀C c,P.cls.lookup C=some c→dd K C c):sg prog w K base P a f:=by
 refine gP fun GP kP=>?_;refine fq h fun r hg h=>?_;refine fq h fun dl hd h=>?_;unfold mJ at hb;haveI hb:=hg▸hb;haveI q1:=(of_decide_eq_true h).1;haveI q2:=(of_decide_eq_true h).2.1;haveI q3:=(of_decide_eq_true h).2.2.1;haveI q4:=(of_decide_eq_true h).2.2.2.1;haveI q5:=(of_decide_eq_true h).2.2.2.2.1;haveI q6:=(of_decide_eq_true h).2.2.2.2.2.1;haveI q7:=(of_decide_eq_true h).2.2.2.2.2.2.1;haveI q8:=(of_decide_eq_true h).2.2.2.2.2.2.2.1;haveI q9:=(of_decide_eq_true h).2.2.2.2.2.2.2.2.1;haveI q10:=(of_decide_eq_true h).2.2.2.2.2.2.2.2.2.1;haveI q11:=(of_decide_eq_true h).2.2.2.2.2.2.2.2.2.2.1;haveI q12:=(of_decide_eq_true h).2.2.2.2.2.2.2.2.2.2.2.1;haveI q13:=(of_decide_eq_true h).2.2.2.2.2.2.2.2.2.2.2.2.1;haveI q14:=(of_decide_eq_true h).2.2.2.2.2.2.2.2.2.2.2.2.2.1;haveI q15:=(of_decide_eq_true h).2.2.2.2.2.2.2.2.2.2.2.2.2.2.1;haveI Zu:=(of_decide_eq_true h).2.2.2.2.2.2.2.2.2.2.2.2.2.2.2.1;haveI q17:=(of_decide_eq_true h).2.2.2.2.2.2.2.2.2.2.2.2.2.2.2.2;obtain⟨o,ho,hg⟩:=Option.bind_eq_some_iff.mp hg;refine kP ?_;refine gP fun GP kP=>?_;obtain⟨fd,hf,hg⟩:=Option.bind_eq_some_iff.mp hg;obtain⟨b,hs,rfl⟩:=Option.map_eq_some_iff.mp hg;haveI z1:=(oN Zu).1;haveI z2:=(oN Zu).2;refine kP ?_
 exact⟨o,fd,_,_,_,b,dl,ho,Fe hf,q1,q2,q3,Ff hs,q4,q5,q6,q7,A' q8,q9,fun x hx=>q10 _ hx rfl,q11,q12,q13,q14,q15,z1,z2,yq hd,
  fun call n SC hk=>by simp only[←hb];exact @AX.b prog w base P call n G 60 (A7 g hc (@vZ prog w K base P call n G g fb @SC hk hc) 60) fd.scope.names b,q17⟩
end
section
open PyProof.Rows PySem PySem.Calls PySem.W
abbrev Ww(K:Frag)(C:Addr)(c:CI):Prop:=
 keepIn K (.ref C)=true∧makesIn K C=true∧findIn K (.ref C) "__init__"=some (some (.ref c.init))∧isFn K (.ref c.init)=true∧hasDictIn K C=true∧plainOver K C=true∧
 findIn K (.ref C) "__setattr__"=some (some (.builtin "object.__setattr__"))∧
 (∀k∈c.attrs,k<bw.length∧plainGet K C (atName k)=true∧takerIn K C (atName k)=some none∧(findIn K (.ref C) (atName k)).any (noGet K)=true)∧
 (∀p∈c.meths,p.1<bw.length∧plainGet K C (atName p.1)=true∧findIn K (.ref C) (atName p.1)=some (some (.ref p.2))∧isFn K (.ref p.2)=true∧keepIn K (.ref p.2)=true)
noncomputable def uF(K:Frag)(C:Addr)(c:CI):Bool:=decide (Ww K C c)
theorem dd.of{K:Frag}{C:Addr}{c:CI}(h:uF K C c=true):dd K C c:=by
 haveI h1:=(of_decide_eq_true h).1;haveI h2:=(of_decide_eq_true h).2.1;haveI h3:=(of_decide_eq_true h).2.2.1;haveI h4:=(of_decide_eq_true h).2.2.2.1;haveI h5:=(of_decide_eq_true h).2.2.2.2.1;haveI h6:=(of_decide_eq_true h).2.2.2.2.2.1;haveI h7:=(of_decide_eq_true h).2.2.2.2.2.2.1;haveI h8:=(of_decide_eq_true h).2.2.2.2.2.2.2.1;haveI h9:=(of_decide_eq_true h).2.2.2.2.2.2.2.2;refine⟨h1,h2,⟨h3,h4⟩,h5,h6,h7,fun k hk=>?_,fun k f hk=>h9 (k,f) (mem_lookup hk)⟩;haveI a1:=(h8 k (List.contains_iff_mem.mp hk)).1;haveI a2:=(h8 k (List.contains_iff_mem.mp hk)).2.1;haveI a3:=(h8 k (List.contains_iff_mem.mp hk)).2.2.1;haveI a4:=(h8 k (List.contains_iff_mem.mp hk)).2.2.2;refine⟨a1,a2,a3,?_⟩;cases hf:findIn K (.ref C) (atName k)with
 |none=>haveI a4:=hf▸a4;exact Bool.noConfusion a4
 |some x=>haveI a4:=hf▸a4;exact⟨x,rfl,a4⟩
noncomputable def v9(v:Value)(d:V):Bool:=same (wI v) (vI d) ||(same (wT v) (vS d) ||same (wR v) (vF d))
noncomputable def kO:List Value→List V→Bool
 |v::l,ds=>(match ds with|d::ds=>v9 v d&&kO l ds|[]=>false)
 |[],ds=>ds.isEmpty
noncomputable def Wx(K:Frag)(v:Value)(d:V):Bool:=((wR v).bind fun a=>K.lookup a).any fun o=>(vT d).any fun ds=>decide (o.cls=.type "tuple")&&((JH o.data).any fun x=>kO x.1.toList ds&&decide (ds.length≤ah))
noncomputable def Ia(K:Frag)(x:Str)(v:V):Bool:=((nsIn K mainGlobals x).bind id).any fun v'=>v9 v' v ||Wx K v' v
noncomputable def NS(K:Frag)(x:Str)(g:GV):Bool:=decide (nsIn K mainGlobals x=some none)&&(!(x==("__name__":Str))&&((jc g).isSome&&decide (jc g=bootBuiltins x)))
noncomputable def NT(K:Frag)(x:Str)(g:GV):Bool:=match g with
 |.val v=>Ia K x v
 |g=>NS K x g
theorem sz(h:v9 v d=true)(Z σ) hp:VR Z σ hp v d:=by
 refine sy h (fun h=>?_) fun h=>sy h (fun h=>?_) fun h=>?_
 ·refine fm h fun i h1 h2=>?_
  refine v5 h1 fun t uf=>?_;subst uf;obtain rfl:=oq h2;exact .int _ _
 ·refine fm h fun i h1 h2=>?_
  refine Fd h1 fun t pR=>?_;subst pR;obtain rfl:=NN h2;exact .str _ _
 ·refine fm h fun i h1 h2=>?_
  obtain rfl:=A9 h1;obtain rfl:=HJ h2;exact .fn _
theorem uG{Z σ:List Addr}{hp:Heap}{l:List Value}:∀{ds:List V},kO l ds=true→aj Z σ hp l ds:=by
 induction l with
 |nil=>exact fun {ds} h=>by obtain rfl:=List.isEmpty_iff.mp h;exact aj.nil
 |cons v l ih=>
  intro ds h;cases ds with
  |nil=>exact Bool.noConfusion h
  |cons d ds=>
   haveI h:=Bool.and_eq_true_iff.mp (show(v9 v d&&kO l ds)=true from h);exact aj.cons (sz h.1 _ _ _) (ih h.2)
theorem Bd{β:Type}{l:List (Str×β)}{x:Str}{g:β}(e:l.lookup x=some g):(x,g)∈l:=by
 induction l with
 |nil=>exact bX e
 |cons p r ih=>
  obtain⟨y,z⟩:=p;rw[List.lookup_cons]at e;rcases Classical.em (x=y)with q|q
  ·subst q
   rw[beq_self_eq_true]at e;cases e;exact List.mem_cons_self ..
  ·haveI e:=(show(x==y)=false from beq_eq_false_iff_ne.mpr q)▸e
   exact List.mem_cons_of_mem _ (ih e)
theorem rq.of{K:Frag}{base:Heap}{GL:List (Str×GV)}(X:K.In base)(h:GL.all (fun p=>NT K p.1 p.2)=true):rq K base (fun x=>GL.lookup x):=by
 intro x g e;have h:=List.all_eq_true.mp h _ (Bd e)
 have qq:∀g':GV,NS K x g'=true→nsIn K mainGlobals x=some none∧x≠"__name__"∧∃v,jc g'=some v∧bootBuiltins x=some v:=fun g' H=>by
  haveI h1:=Bool.and_eq_true_iff.mp H;haveI h2:=Bool.and_eq_true_iff.mp h1.2;haveI h3:=Bool.and_eq_true_iff.mp h2.2;obtain⟨v,hv⟩:=Option.isSome_iff_exists.mp h3.1;exact⟨of_decide_eq_true h1.1,by simpa using h2.1,v,hv,(of_decide_eq_true h3.2).symm.trans hv⟩
 cases g with
 |val v=>
  refine gP fun GP kP=>?_;refine fq (show Ia K x v=true from h) fun v' h1 h2=>?_;obtain⟨y,h3,h4⟩:=Option.bind_eq_some_iff.mp h1;obtain rfl:y=some v':=h4;refine kP ?_;refine⟨v',h3,fun Z σ hp hk hz=>sy h2 (fun q=>sz q _ _ _) fun q=>?_⟩;refine fq q fun o q1 q2=>?_;obtain⟨a,q3,q4⟩:=Option.bind_eq_some_iff.mp q1;refine fq q2 fun ds q5 q6=>?_;haveI q6:=Bool.and_eq_true_iff.mp q6;refine fq q6.2 fun xs q7 q8=>?_;haveI q8:=Bool.and_eq_true_iff.mp q8;obtain rfl:=A9 q3;obtain rfl:=NP q5;haveI hb:=X _ _ q4;haveI A:=uG (Z:=Z) (σ:=σ) (hp:=hp) q8.1;exact .tup (fun hm=>nomatch (hb.symm.trans (hz _ hm))) ⟨o,hk _ _ hb,of_decide_eq_true q6.1,xs.2,v8 q7⟩ A.1 (of_decide_eq_true q8.2) A.2
 |bi b=>exact qq (.bi b) h
 |dY=>exact qq .dY h
 |zip=>exact qq .zip h
 |enum=>exact qq .enum h
end
section
open PySem
noncomputable def Zv:S:=(.seq (.ret (.bin .FloorDiv (.bin .Add (.bin .Mult (.cst (.int (2))) (.bin .Add (.bin .Mult (.loc 0) (.loc 1)) (.bin .Mult (.loc 2) (.loc 3)))) (.cst (.int (255)))) (.bin .Mult (.cst (.int (2))) (.cst (.int (255)))))) .skip)
noncomputable def Zw:FI:=⟨5,4,[],Zv⟩
noncomputable def JK:E:=(.call (.cst (.fn 28)) (.cons (.loc 1) (.cons (.cst (.int (255))) (.cons (.loc 2) (.cons (.loc 5) .nil)))))
noncomputable def Zx:S:=(.seq (.asg (.var 2) (.bin .Sub (.cst (.int (255))) (.sub (.loc 0) (.cst (.int (3)))))) (.seq (.ret (.az .tuple (.cons (.comp [none,none,none,none,none,some 2] (.vars [1,2]) .zip (.cons (.loc 0) (.cons (.loc 1) .nil)) (.cst (.bool true)) JK) .nil))) .skip))
noncomputable def Zy:FI:=⟨6,2,[],Zx⟩
noncomputable def mK:E:=(.sub (.loc 1) (.cst (.int (0))))
noncomputable def jV:E:=(.loc 2)
noncomputable def qt:E:=(.sub (.loc 1) (.cst (.int (0))))
noncomputable def qu:E:=(.sub (.loc 1) (.cst (.int (1))))
noncomputable def Wy:S:=(.seq (.asg (.var 1) (.iu [none,none,none] (.var 1) .seq (.loc 0) (.var 2) mK jV)) (.seq (.ite (.cmp .Eq (.loc 1) (.lst .nil)) (.seq (.ret (.cst (.none))) .skip) .skip) (.seq (.asg (.du [2,3]) (.tup (.cons (.comp [none,none] (.var 1) .seq (.loc 1) (.cst (.bool true)) qt) (.cons (.comp [none,none] (.var 1) .seq (.loc 1) (.cst (.bool true)) qu) .nil)))) (.seq (.ret (.tup (.cons (.az .gj (.cons (.loc 2) .nil)) (.cons (.az .gj (.cons (.loc 3) .nil)) (.cons (.az .ja (.cons (.loc 2) .nil)) (.cons (.az .ja (.cons (.loc 3) .nil)) .nil)))))) .skip))))
noncomputable def Zz:FI:=⟨6,1,[],Wy⟩
noncomputable def qv:E:=(.bin .Mult (.lst (.cons (.cst (.tup [.int (0),.int (0),.int (0),.int (0)])) .nil)) (.loc 3))
noncomputable def JL:S:=(.seq (.ite (.or (.cmp .Lt (.loc 1) (.cst (.int (1)))) (.cmp .Lt (.loc 2) (.cst (.int (1))))) (.seq .stuck .skip) .skip) (.seq (.setattr (.loc 0) 3 (.loc 1)) (.seq (.setattr (.loc 0) 4 (.loc 2)) (.seq (.setattr (.loc 0) 5 (.loc 3)) (.seq (.setattr (.loc 0) 6 (.loc 4)) (.seq (.setattr (.loc 0) 7 (.comp [none,none,none,some 1] (.var 1) .dY (.cons (.loc 2) .nil) (.cst (.bool true)) qv)) .skip))))))
noncomputable def NU:FI:=⟨7,5,[.int 0,.int 0],JL⟩
noncomputable def NV:S:=(.seq (.ret (.and (.chain .LtE .Lt (.cst (.int (0))) (.bin .Sub (.loc 1) (.attr (.loc 0) 5)) (.attr (.loc 0) 3)) (.chain .LtE .Lt (.cst (.int (0))) (.bin .Sub (.loc 2) (.attr (.loc 0) 6)) (.attr (.loc 0) 4)))) .skip)
noncomputable def NW:FI:=⟨3,3,[],NV⟩
noncomputable def NY:S:=(.seq (.ret (.ite (.aF (.loc 0) 8 (.cons (.loc 1) (.cons (.loc 2) .nil))) (.sub (.sub (.attr (.loc 0) 7) (.bin .Sub (.loc 2) (.attr (.loc 0) 6))) (.bin .Sub (.loc 1) (.attr (.loc 0) 5))) (.cst (.tup [.int (0),.int (0),.int (0),.int (0)])))) .skip)
noncomputable def NZ:FI:=⟨4,3,[],NY⟩
noncomputable def JM:S:=(.seq (.ite (.not (.aF (.loc 0) 8 (.cons (.loc 1) (.cons (.loc 2) .nil)))) (.seq .stuck .skip) .skip) (.seq (.setitem (.sub (.attr (.loc 0) 7) (.bin .Sub (.loc 2) (.attr (.loc 0) 6))) (.bin .Sub (.loc 1) (.attr (.loc 0) 5)) (.loc 3)) .skip))
noncomputable def N0:FI:=⟨5,4,[],JM⟩
noncomputable def Fh:E:=(.bin .Mult (.lst (.cons (.loc 2) .nil)) (.attr (.loc 3) 3))
noncomputable def Wz:S:=(.seq (.setattr (.loc 0) 7 (.comp [none,none,some 1,some 0] (.var 1) .dY (.cons (.attr (.loc 0) 4) .nil) (.cst (.bool true)) Fh)) .skip)
noncomputable def WB:FI:=⟨3,2,[],Wz⟩
noncomputable def qw:E:=(.az .list (.cons (.loc 1) .nil))
noncomputable def N1:S:=(.seq (.ret (.comp [none,none,none] (.var 1) .seq (.attr (.loc 0) 7) (.cst (.bool true)) qw)) .skip)
noncomputable def N2:FI:=⟨1,1,[],N1⟩
noncomputable def kR:E:=(.tup (.cons (.loc 1) (.cons (.loc 2) .nil)))
noncomputable def qx:S:=(.seq (.expr (.aF (.loc 1) 1 (.cons (.comp [none,none,some 2] (.var 1) .dY (.cons (.attr (.loc 0) 5) (.cons (.bin .Add (.attr (.loc 0) 5) (.attr (.loc 0) 3)) .nil)) (.cst (.bool true)) kR) .nil))) .skip)
noncomputable def N3:S:=(.seq (.asg (.var 1) (.lst .nil)) (.seq (.loop (.var 2) .dY (.cons (.attr (.loc 0) 6) (.cons (.bin .Add (.attr (.loc 0) 6) (.attr (.loc 0) 4)) .nil)) qx) (.seq (.ret (.loc 1)) .skip)))
noncomputable def N4:FI:=⟨4,1,[],N3⟩
noncomputable def N5:S:=(.seq (.ret (.call (.cst (.fn 161)) (.cons (.attr (.loc 0) 3) (.cons (.attr (.loc 0) 4) (.cons (.attr (.loc 0) 5) (.cons (.attr (.loc 0) 6) .nil)))))) .skip)
noncomputable def N6:FI:=⟨2,1,[],N5⟩
noncomputable def N7:S:=(.seq (.ret (.bin .FloorDiv (.bin .Add (.bin .Mult (.bin .Mult (.cst (.int (2))) (.loc 0)) (.loc 1)) (.cst (.int (255)))) (.bin .Mult (.cst (.int (2))) (.cst (.int (255)))))) .skip)
noncomputable def N8:FI:=⟨3,2,[],N7⟩
noncomputable def Fi:E:=(.call (.cst (.fn 172)) (.cons (.loc 1) (.cons (.loc 3) .nil)))
noncomputable def N9:S:=(.seq (.ret (.az .tuple (.cons (.comp [none,none,none,some 1] (.var 1) .seq (.loc 0) (.cst (.bool true)) Fi) .nil))) .skip)
noncomputable def N':FI:=⟨3,2,[],N9⟩
noncomputable def Oa:S:=(.seq (.setattr (.loc 0) 16 (.loc 1)) (.seq (.setattr (.loc 0) 17 (.loc 2)) (.seq (.setattr (.loc 0) 18 (.loc 3)) (.seq (.setattr (.loc 0) 19 (.loc 4)) .skip))))
noncomputable def Ob:FI:=⟨5,5,[],Oa⟩
noncomputable def Oc:S:=(.seq (.ret (.bin .Mult (.attr (.loc 0) 16) (.attr (.loc 0) 19))) .skip)
noncomputable def Od:FI:=⟨1,1,[],Oc⟩
noncomputable def WC:S:=(.seq (.ret (.bin .Mult (.attr (.loc 0) 18) (.attr (.loc 0) 17))) .skip)
noncomputable def WD:FI:=⟨1,1,[],WC⟩
noncomputable def WG:S:=(.seq (.ret (.bin .Mult (.attr (.loc 0) 16) (.attr (.loc 0) 18))) .skip)
noncomputable def WH:FI:=⟨1,1,[],WG⟩
noncomputable def WK:S:=(.seq (.ite (.cmp .LtE (.bin .Mult (.cst (.int (2))) (.attr (.loc 0) 16)) (.attr (.loc 0) 17)) (.seq (.ret (.bin .Mult (.cst (.int (2))) (.aF (.loc 0) 22 .nil))) .skip) .skip) (.seq (.ret (.bin .Sub (.bin .Mult (.attr (.loc 0) 17) (.attr (.loc 0) 19)) (.bin .Mult (.bin .Mult (.cst (.int (2))) (.bin .Sub (.attr (.loc 0) 17) (.attr (.loc 0) 16))) (.bin .Sub (.attr (.loc 0) 19) (.attr (.loc 0) 18))))) .skip))
noncomputable def WL:FI:=⟨1,1,[],WK⟩
noncomputable def WM:S:=(.seq (.ret (.call (.cst (.fn 229)) (.cons (.attr (.loc 0) 18) (.cons (.attr (.loc 0) 19) (.cons (.attr (.loc 0) 16) (.cons (.attr (.loc 0) 17) .nil)))))) .skip)
noncomputable def WN:FI:=⟨2,1,[],WM⟩
noncomputable def JN:S:=(.seq (.ite (.cmp .Eq (.loc 0) (.cst (.str (Str.ofString "normal")))) (.seq (.ret (.aF (.loc 1) 20 .nil)) .skip) .skip) (.seq (.ite (.cmp .Eq (.loc 0) (.cst (.str (Str.ofString "multiply")))) (.seq (.ret (.aF (.loc 1) 22 .nil)) .skip) .skip) (.seq (.ite (.cmp .Eq (.loc 0) (.cst (.str (Str.ofString "screen")))) (.seq (.ret (.bin .Sub (.bin .Add (.aF (.loc 1) 20 .nil) (.aF (.loc 1) 21 .nil)) (.aF (.loc 1) 22 .nil))) .skip) .skip) (.seq (.ite (.cmp .Eq (.loc 0) (.cst (.str (Str.ofString "darken")))) (.seq (.ret (.az .gj (.cons (.aF (.loc 1) 20 .nil) (.cons (.aF (.loc 1) 21 .nil) .nil)))) .skip) .skip) (.seq (.ite (.cmp .Eq (.loc 0) (.cst (.str (Str.ofString "lighten")))) (.seq (.ret (.az .ja (.cons (.aF (.loc 1) 20 .nil) (.cons (.aF (.loc 1) 21 .nil) .nil)))) .skip) .skip) (.seq (.ite (.cmp .Eq (.loc 0) (.cst (.str (Str.ofString "hard-light")))) (.seq (.ret (.aF (.loc 1) 23 .nil)) .skip) .skip) (.seq (.ite (.cmp .Eq (.loc 0) (.cst (.str (Str.ofString "overlay")))) (.seq (.ret (.aF (.aF (.loc 1) 24 .nil) 23 .nil)) .skip) .skip) (.seq (.ite (.cmp .Eq (.loc 0) (.cst (.str (Str.ofString "difference")))) (.seq (.ret .stuck) .skip) .skip) (.seq (.ite (.cmp .Eq (.loc 0) (.cst (.str (Str.ofString "exclusion")))) (.seq (.ret (.bin .Sub (.bin .Add (.aF (.loc 1) 20 .nil) (.aF (.loc 1) 21 .nil)) (.bin .Mult (.cst (.int (2))) (.aF (.loc 1) 22 .nil)))) .skip) .skip) (.seq .stuck .skip))))))))))
noncomputable def Oe:FI:=⟨6,2,[],JN⟩
noncomputable def Og:S:=(.seq (.asg (.var 5) (.call (.cst (.fn 240)) (.cons (.loc 0) (.cons (.call (.cst (.fn 229)) (.cons (.loc 1) (.cons (.loc 2) (.cons (.loc 3) (.cons (.loc 4) .nil))))) .nil)))) (.seq (.ret (.bin .FloorDiv (.bin .Add (.bin .Mult (.cst (.int (2))) (.bin .Add (.bin .Add (.loc 5) (.bin .Mult (.loc 1) (.bin .Sub (.cst (.int (255))) (.loc 4)))) (.bin .Mult (.loc 3) (.bin .Sub (.cst (.int (255))) (.loc 2))))) (.cst (.int (255)))) (.bin .Mult (.cst (.int (2))) (.cst (.int (255)))))) .skip))
noncomputable def Oh:FI:=⟨9,5,[],Og⟩
noncomputable def Fj:E:=(.call (.cst (.fn 247)) (.cons (.loc 7) (.cons (.sub (.loc 3) (.loc 1)) (.cons (.loc 4) (.cons (.sub (.loc 5) (.loc 1)) (.cons (.loc 6) .nil))))))
noncomputable def Oi:S:=(.seq (.asg (.vars [3,4]) (.tup (.cons (.sub (.loc 1) (.cst (.int (3)))) (.cons (.sub (.loc 2) (.cst (.int (3)))) .nil)))) (.seq (.asg (.var 5) (.comp [none,none,none,some 1,some 3,some 2,some 4,some 0] (.var 1) .dY (.cons (.cst (.int (3))) .nil) (.cst (.bool true)) Fj)) (.seq (.ret (.tup (.cons (.sub (.loc 5) (.cst (.int (0)))) (.cons (.sub (.loc 5) (.cst (.int (1)))) (.cons (.sub (.loc 5) (.cst (.int (2)))) (.cons (.call (.cst (.fn 28)) (.cons (.loc 3) (.cons (.cst (.int (255))) (.cons (.loc 4) (.cons (.bin .Sub (.cst (.int (255))) (.loc 3)) .nil))))) .nil)))))) .skip)))
noncomputable def Oj:FI:=⟨9,3,[],Oi⟩
noncomputable def JO:S:=(.seq (.ret (.call (.cst (.fn 252)) (.cons (.loc 0) (.cons (.ite (.cmp .Eq (.loc 2) (.cst (.int (255)))) (.loc 1) (.call (.cst (.fn 177)) (.cons (.loc 1) (.cons (.loc 2) .nil)))) (.cons (.loc 3) .nil))))) .skip)
noncomputable def Ol:FI:=⟨7,4,[],JO⟩
noncomputable def JP:S:=(.seq (.setattr (.loc 0) 25 (.lst (.cons (.loc 1) .nil))) .skip)
noncomputable def Om:FI:=⟨2,2,[],JP⟩
noncomputable def Oo:S:=(.seq (.ret (.sub (.attr (.loc 0) 25) (.neg (.cst (.int (1)))))) .skip)
noncomputable def Oq:FI:=⟨1,1,[],Oo⟩
noncomputable def Ot:S:=(.seq (.ret (.bin .Sub (.az .len (.cons (.attr (.loc 0) 25) .nil)) (.cst (.int (1))))) .skip)
noncomputable def Ou:FI:=⟨2,1,[],Ot⟩
noncomputable def Ov:S:=(.seq (.expr (.aF (.attr (.loc 0) 25) 0 (.cons (.aF (.aF (.loc 0) 6 .nil) 12 .nil) .nil))) .skip)
noncomputable def Ow:FI:=⟨1,1,[],Ov⟩
noncomputable def qy:S:=(.seq (.asg (.var 8) (.ite (.cmp .Is (.loc 3) (.cst (.none))) (.loc 1) (.call (.cst (.fn 172)) (.cons (.loc 1) (.cons (.call (.loc 3) (.cons (.loc 6) (.cons (.loc 7) .nil))) .nil))))) (.seq (.expr (.aF (.loc 5) 10 (.cons (.loc 6) (.cons (.loc 7) (.cons (.call (.cst (.fn 259)) (.cons (.loc 2) (.cons (.aF (.loc 4) 9 (.cons (.loc 6) (.cons (.loc 7) .nil))) (.cons (.loc 8) (.cons (.aF (.loc 5) 9 (.cons (.loc 6) (.cons (.loc 7) .nil))) .nil))))) .nil))))) .skip))
noncomputable def JQ:S:=(.seq (.ite (.cmp .Eq (.aF (.loc 0) 26 .nil) (.cst (.int (0)))) (.seq .stuck .skip) .skip) (.seq (.asg (.var 4) (.aF (.attr (.loc 0) 25) 2 .nil)) (.seq (.asg (.var 5) (.aF (.loc 0) 6 .nil)) (.seq (.loop (.vars [6,7]) .seq (.aF (.loc 4) 11 .nil) qy) .skip))))
noncomputable def Ox:FI:=⟨12,4,[],JQ⟩
noncomputable def JR:S:=(.seq (.ret (.ite (.cmp .Eq (.loc 1) (.cst (.str (Str.ofString "nonzero")))) (.cmp .NotEq (.loc 0) (.cst (.int (0)))) (.cmp .NotEq (.bin .Mod (.loc 0) (.cst (.int (2)))) (.cst (.int (0)))))) .skip)
noncomputable def Oy:FI:=⟨2,2,[],JR⟩
noncomputable def Oz:S:=(.seq (.ite (.or (.cmp .Lt (.loc 0) (.cst (.int (1)))) (.or (.cmp .Lt (.loc 1) (.cst (.int (1)))) (.cmp .NotEq (.bin .Mod (.loc 1) (.bin .Mult (.cst (.int (2))) (.loc 0))) (.cst (.int (0)))))) (.seq .stuck .skip) .skip) (.seq (.ret (.bin .FloorDiv (.loc 1) (.loc 0))) .skip))
noncomputable def OA:FI:=⟨3,2,[],Oz⟩
noncomputable def OB:S:=(.seq (.ret (.bin .Sub (.cst (.int (0))) (.bin .FloorDiv (.bin .Sub (.cst (.int (0))) (.loc 0)) (.loc 1)))) .skip)
noncomputable def OC:FI:=⟨2,2,[],OB⟩
noncomputable def OD:S:=(.seq (.asg (.vars [2,3]) (.loc 0)) (.seq (.ret (.call (.cst (.fn 330)) (.cons (.bin .Sub (.bin .Mult (.cst (.int (2))) (.loc 2)) (.bin .Mult (.loc 1) (.loc 3))) (.cons (.bin .Mult (.bin .Mult (.cst (.int (2))) (.loc 1)) (.loc 3)) .nil)))) .skip))
noncomputable def OG:FI:=⟨5,2,[],OD⟩
noncomputable def JS:S:=(.seq (.ite (.cmp .NotIn (.loc 0) (.cst (.tup [.str (Str.ofString "nonzero"),.str (Str.ofString "evenodd")]))) (.seq .stuck .skip) .skip) .skip)
noncomputable def OH:FI:=⟨3,1,[],JS⟩
noncomputable def kS:S:=(.seq (.ite (.aF (.loc 4) 34 (.cons (.loc 1) .nil)) (.seq (.expr (.aF (.loc 3) 0 (.cons (.tup (.cons (.call (.cst (.fn 337)) (.cons (.aF (.loc 4) 35 (.cons (.loc 1) .nil)) (.cons (.loc 2) .nil))) (.cons (.attr (.loc 4) 32) .nil))) .nil))) .skip) .skip) .skip)
noncomputable def OI:S:=(.seq (.asg (.var 3) (.lst .nil)) (.seq (.loop (.var 4) .seq (.loc 0) kS) (.seq (.ret (.az .sorted (.cons (.loc 3) .nil))) .skip)))
noncomputable def OJ:FI:=⟨7,3,[],OI⟩
noncomputable def kT:S:=(.seq (.asg (.var 3) (.bin .Add (.loc 3) (.loc 7))) (.seq (.ite (.and (.cmp .Lt (.bin .Add (.loc 5) (.cst (.int (1)))) (.az .len (.cons (.loc 0) .nil))) (.cmp .Eq (.sub (.sub (.loc 0) (.bin .Add (.loc 5) (.cst (.int (1))))) (.cst (.int (0)))) (.loc 6))) (.seq .cont .skip) .skip) (.seq (.ite (.call (.cst (.fn 316)) (.cons (.loc 3) (.cons (.loc 1) .nil))) (.seq (.asg (.var 4) (.ite (.cmp .Is (.loc 4) (.cst (.none))) (.loc 6) (.loc 4))) .skip) (.seq (.ite (.cmp .IsNot (.loc 4) (.cst (.none))) (.seq (.expr (.aF (.loc 2) 0 (.cons (.tup (.cons (.loc 4) (.cons (.loc 6) .nil))) .nil))) (.seq (.asg (.var 4) (.cst (.none))) .skip)) .skip) .skip)) .skip)))
noncomputable def JT:S:=(.seq (.asg (.du [2,3,4]) (.tup (.cons (.lst .nil) (.cons (.cst (.int (0))) (.cons (.cst (.none)) .nil))))) (.seq (.loop (.nest 5 [6,7]) .enum (.cons (.loc 0) .nil) kT) (.seq (.ret (.loc 2)) .skip)))
noncomputable def OL:FI:=⟨11,2,[],JT⟩
noncomputable def OM:S:=(.seq (.expr (.call (.cst (.fn 344)) (.cons (.loc 2) .nil))) (.seq (.asg (.var 5) (.call (.cst (.fn 323)) (.cons (.loc 3) (.cons (.loc 4) .nil)))) (.seq (.ret (.call (.cst (.fn 358)) (.cons (.call (.cst (.fn 351)) (.cons (.loc 0) (.cons (.bin .Add (.bin .Mult (.loc 1) (.loc 5)) (.bin .FloorDiv (.loc 5) (.cst (.int (2))))) (.cons (.loc 5) .nil)))) (.cons (.loc 2) .nil)))) .skip)))
noncomputable def OO:FI:=⟨10,5,[],OM⟩
noncomputable def JU:S:=(.seq (.setattr (.loc 0) 28 (.loc 1)) (.seq (.setattr (.loc 0) 29 (.loc 2)) (.seq (.setattr (.loc 0) 30 (.loc 3)) (.seq (.setattr (.loc 0) 31 (.loc 4)) (.seq (.setattr (.loc 0) 32 (.loc 5)) .skip)))))
noncomputable def OQ:FI:=⟨6,6,[],JU⟩
noncomputable def WO:S:=(.seq (.ret (.tup (.cons (.attr (.loc 0) 28) (.cons (.attr (.loc 0) 29) (.cons (.attr (.loc 0) 30) (.cons (.attr (.loc 0) 31) (.cons (.attr (.loc 0) 32) .nil))))))) .skip)
noncomputable def WQ:FI:=⟨1,1,[],WO⟩
noncomputable def Fm:S:=(.seq (.ret (.chain .LtE .Lt (.attr (.loc 0) 29) (.loc 1) (.attr (.loc 0) 31))) .skip)
noncomputable def OS:FI:=⟨2,2,[],Fm⟩
noncomputable def OT:S:=(.seq (.asg (.var 2) (.bin .Sub (.attr (.loc 0) 31) (.attr (.loc 0) 29))) (.seq (.ret (.tup (.cons (.bin .Add (.bin .Mult (.attr (.loc 0) 28) (.loc 2)) (.bin .Mult (.bin .Sub (.attr (.loc 0) 30) (.attr (.loc 0) 28)) (.bin .Sub (.loc 1) (.attr (.loc 0) 29)))) (.cons (.loc 2) .nil)))) .skip))
noncomputable def OU:FI:=⟨3,2,[],OT⟩
noncomputable def Fn:S:=(.seq (.ite (.cmp .Eq (.sub (.loc 0) (.cst (.int (1)))) (.sub (.loc 1) (.cst (.int (1))))) (.seq (.ret (.cst (.none))) .skip) .skip) (.seq (.ite (.cmp .Lt (.sub (.loc 0) (.cst (.int (1)))) (.sub (.loc 1) (.cst (.int (1))))) (.seq (.ret (.call (.cst (.fn 403)) (.cons (.sub (.loc 0) (.cst (.int (0)))) (.cons (.sub (.loc 0) (.cst (.int (1)))) (.cons (.sub (.loc 1) (.cst (.int (0)))) (.cons (.sub (.loc 1) (.cst (.int (1)))) (.cons (.cst (.int (1))) .nil))))))) .skip) .skip) (.seq (.ret (.call (.cst (.fn 403)) (.cons (.sub (.loc 1) (.cst (.int (0)))) (.cons (.sub (.loc 1) (.cst (.int (1)))) (.cons (.sub (.loc 0) (.cst (.int (0)))) (.cons (.sub (.loc 0) (.cst (.int (1)))) (.cons (.neg (.cst (.int (1)))) .nil))))))) .skip)))
noncomputable def OV:FI:=⟨3,2,[],Fn⟩
noncomputable def jo:S:=(.seq (.asg (.var 6) (.call (.cst (.fn 414)) (.cons (.loc 4) (.cons (.loc 5) .nil)))) (.seq (.ite (.cmp .IsNot (.loc 6) (.cst (.none))) (.seq (.expr (.aF (.loc 3) 0 (.cons (.loc 6) .nil))) .skip) .skip) .skip))
noncomputable def JV:S:=(.seq (.asg (.var 2) (.dK (.cons (.loc 0) (.cons (.slice .dZ (.loc 0)) .nil)))) (.seq (.ite (.and (.loc 1) (.cmp .Gt (.az .len (.cons (.loc 0) .nil)) (.cst (.int (1))))) (.seq (.expr (.aF (.loc 2) 0 (.cons (.tup (.cons (.sub (.loc 0) (.neg (.cst (.int (1))))) (.cons (.sub (.loc 0) (.cst (.int (0)))) .nil))) .nil))) .skip) .skip) (.seq (.asg (.var 3) (.lst .nil)) (.seq (.loop (.vars [4,5]) .seq (.loc 2) jo) (.seq (.ret (.loc 3)) .skip)))))
noncomputable def OW:FI:=⟨11,2,[],JV⟩
noncomputable def qz:S:=(.seq (.expr (.aF (.loc 2) 1 (.cons (.call (.cst (.fn 421)) (.cons (.loc 3) (.cons (.or (.loc 1) (.loc 4)) .nil))) .nil))) .skip)
noncomputable def JW:S:=(.seq (.asg (.var 2) (.lst .nil)) (.seq (.loop (.vars [3,4]) .seq (.loc 0) qz) (.seq (.ret (.loc 2)) .skip)))
noncomputable def OX:FI:=⟨6,2,[.bool true],JW⟩
noncomputable def qA:E:=(.and (.cmp .Lt (.attr (.loc 1) 29) (.loc 2)) (.cmp .Gt (.attr (.loc 1) 31) (.loc 3)))
noncomputable def qB:E:=(.loc 1)
noncomputable def JX:S:=(.seq (.ret (.comp [none,none,some 2,some 1] (.var 1) .seq (.loc 0) qA qB)) .skip)
noncomputable def OY:FI:=⟨3,3,[],JX⟩
noncomputable def OZ:S:=(.seq (.ret (.bin .FloorDiv (.bin .Add (.bin .Mult (.cst (.int (2))) (.loc 0)) (.loc 1)) (.bin .Mult (.cst (.int (2))) (.loc 1)))) .skip)
noncomputable def O0:FI:=⟨2,2,[],OZ⟩
noncomputable def JY:S:=(.seq (.ite (.or (.cmp .Lt (.loc 3) (.cst (.int (0)))) (.or (.cmp .Lt (.loc 4) (.cst (.int (0)))) (.cmp .Lt (.loc 5) (.cst (.int (1)))))) (.seq .stuck .skip) .skip) (.seq (.setattr (.loc 0) 5 (.loc 1)) (.seq (.setattr (.loc 0) 6 (.loc 2)) (.seq (.setattr (.loc 0) 3 (.loc 3)) (.seq (.setattr (.loc 0) 4 (.loc 4)) (.seq (.setattr (.loc 0) 36 (.loc 5)) (.seq (.setattr (.loc 0) 37 (.bin .Mult (.lst (.cons (.cst (.int (0))) .nil)) (.bin .Mult (.loc 3) (.loc 4)))) .skip)))))))
noncomputable def Pa:FI:=⟨7,6,[],JY⟩
noncomputable def JZ:S:=(.seq (.ret (.bin .Mult (.attr (.loc 0) 36) (.attr (.loc 0) 36))) .skip)
noncomputable def Pb:FI:=⟨1,1,[],JZ⟩
noncomputable def J0:S:=(.seq (.asg (.du [3,4]) (.tup (.cons (.bin .Sub (.loc 1) (.attr (.loc 0) 5)) (.cons (.bin .Sub (.loc 2) (.attr (.loc 0) 6)) .nil)))) (.seq (.ite (.or (.not (.chain .LtE .Lt (.cst (.int (0))) (.loc 3) (.attr (.loc 0) 3))) (.not (.chain .LtE .Lt (.cst (.int (0))) (.loc 4) (.attr (.loc 0) 4)))) (.seq (.ret (.cst (.none))) .skip) .skip) (.seq (.ret (.bin .Add (.bin .Mult (.loc 4) (.attr (.loc 0) 3)) (.loc 3))) .skip)))
noncomputable def Ph:FI:=⟨5,3,[],J0⟩
noncomputable def J1:S:=(.seq (.asg (.var 3) (.aF (.loc 0) 39 (.cons (.loc 1) (.cons (.loc 2) .nil)))) (.seq (.ret (.ite (.cmp .Is (.loc 3) (.cst (.none))) (.cst (.int (0))) (.sub (.attr (.loc 0) 37) (.loc 3)))) .skip))
noncomputable def Pj:FI:=⟨4,3,[],J1⟩
noncomputable def J2:S:=(.seq (.ret (.call (.cst (.fn 441)) (.cons (.bin .Mult (.cst (.int (255))) (.aF (.loc 0) 40 (.cons (.loc 1) (.cons (.loc 2) .nil)))) (.cons (.aF (.loc 0) 38 .nil) .nil)))) .skip)
noncomputable def Pk:FI:=⟨5,3,[],J2⟩
noncomputable def eJ:E:=(.cmp .Lt (.loc 9) (.loc 10))
noncomputable def kU:S:=(.seq (.asg (.var 11) (.bin .FloorDiv (.loc 9) (.attr (.loc 0) 36))) (.seq (.asg (.var 12) (.az .gj (.cons (.bin .Mult (.bin .Add (.loc 11) (.cst (.int (1)))) (.attr (.loc 0) 36)) (.cons (.loc 10) .nil)))) (.seq (.setitem (.attr (.loc 0) 37) (.bin .Add (.loc 6) (.loc 11)) (.bin .Sub (.bin .Add (.sub (.attr (.loc 0) 37) (.bin .Add (.loc 6) (.loc 11))) (.loc 12)) (.loc 9))) (.seq (.asg (.var 9) (.loc 12)) .skip))))
noncomputable def qC:S:=(.seq (.asg (.du [9,10]) (.tup (.cons (.az .ja (.cons (.loc 7) (.cons (.loc 4) .nil))) (.cons (.az .gj (.cons (.loc 8) (.cons (.loc 5) .nil))) .nil)))) (.seq (.pJ eJ kU) .skip))
noncomputable def J3:S:=(.seq (.asg (.var 3) (.bin .FloorDiv (.loc 1) (.attr (.loc 0) 36))) (.seq (.ite (.not (.chain .LtE .Lt (.attr (.loc 0) 6) (.loc 3) (.bin .Add (.attr (.loc 0) 6) (.attr (.loc 0) 4)))) (.seq (.ret (.cst (.none))) .skip) .skip) (.seq (.asg (.du [4,5]) (.tup (.cons (.bin .Mult (.attr (.loc 0) 5) (.attr (.loc 0) 36)) (.cons (.bin .Mult (.bin .Add (.attr (.loc 0) 5) (.attr (.loc 0) 3)) (.attr (.loc 0) 36)) .nil)))) (.seq (.asg (.var 6) (.bin .Sub (.bin .Mult (.bin .Sub (.loc 3) (.attr (.loc 0) 6)) (.attr (.loc 0) 3)) (.attr (.loc 0) 5))) (.seq (.loop (.vars [7,8]) .seq (.loc 2) qC) .skip)))))
noncomputable def Pl:FI:=⟨15,3,[],J3⟩
noncomputable def Fo:S:=(.seq (.asg (.du [4,5]) (.tup (.cons (.bin .Add (.attr (.loc 0) 5) (.bin .Mod (.loc 3) (.attr (.loc 0) 3))) (.cons (.bin .Add (.attr (.loc 0) 6) (.bin .FloorDiv (.loc 3) (.attr (.loc 0) 3))) .nil)))) (.seq (.setitem (.attr (.loc 2) 37) (.loc 3) (.call (.cst (.fn 441)) (.cons (.bin .Mult (.sub (.attr (.loc 0) 37) (.loc 3)) (.aF (.loc 1) 40 (.cons (.loc 4) (.cons (.loc 5) .nil)))) (.cons (.aF (.loc 0) 38 .nil) .nil)))) .skip))
noncomputable def WR:S:=(.seq (.ite (.cmp .NotEq (.attr (.loc 1) 36) (.attr (.loc 0) 36)) (.seq .stuck .skip) .skip) (.seq (.asg (.var 2) (.call (.cst (.fn 514)) (.cons (.attr (.loc 0) 5) (.cons (.attr (.loc 0) 6) (.cons (.attr (.loc 0) 3) (.cons (.attr (.loc 0) 4) (.cons (.attr (.loc 0) 36) .nil))))))) (.seq (.loop (.var 3) .dY (.cons (.az .len (.cons (.attr (.loc 0) 37) .nil)) .nil) Fo) (.seq (.ret (.loc 2)) .skip))))
noncomputable def WT:FI:=⟨11,2,[],WR⟩
noncomputable def qD:S:=(.seq (.expr (.aF (.loc 8) 41 (.cons (.loc 10) (.cons (.call (.cst (.fn 365)) (.cons (.loc 9) (.cons (.loc 10) (.cons (.loc 1) (.cons (.loc 6) (.cons (.loc 7) .nil)))))) .nil)))) .skip)
noncomputable def J4:S:=(.seq (.asg (.var 8) (.call (.cst (.fn 514)) (.cons (.loc 2) (.cons (.loc 3) (.cons (.loc 4) (.cons (.loc 5) (.cons (.loc 6) .nil))))))) (.seq (.asg (.var 9) (.call (.cst (.fn 434)) (.cons (.call (.cst (.fn 429)) (.cons (.loc 0) .nil)) (.cons (.bin .Mult (.loc 3) (.loc 7)) (.cons (.bin .Mult (.bin .Add (.loc 3) (.loc 5)) (.loc 7)) .nil))))) (.seq (.loop (.var 10) .dY (.cons (.bin .Mult (.loc 3) (.loc 6)) (.cons (.bin .Mult (.bin .Add (.loc 3) (.loc 5)) (.loc 6)) .nil)) qD) (.seq (.ret (.loc 8)) .skip))))
noncomputable def Pm:FI:=⟨16,8,[],J4⟩
noncomputable def eK:S:=(.seq (.expr (.aF (.loc 3) 0 (.cons (.tup (.cons (.loc 5) (.cons (.loc 4) (.cons (.az .gj (.cons (.loc 2) (.cons (.bin .Sub (.loc 0) (.loc 5)) .nil))) (.cons (.az .gj (.cons (.loc 2) (.cons (.bin .Sub (.loc 1) (.loc 4)) .nil))) .nil))))) .nil))) .skip)
noncomputable def eM:S:=(.seq (.loop (.var 5) .dY (.cons (.cst (.int (0))) (.cons (.loc 0) (.cons (.loc 2) .nil))) eK) .skip)
noncomputable def iS:S:=(.seq (.ite (.or (.cmp .Lt (.loc 0) (.cst (.int (0)))) (.or (.cmp .Lt (.loc 1) (.cst (.int (0)))) (.cmp .Lt (.loc 2) (.cst (.int (1)))))) (.seq .stuck .skip) .skip) (.seq (.asg (.var 3) (.lst .nil)) (.seq (.loop (.var 4) .dY (.cons (.cst (.int (0))) (.cons (.loc 1) (.cons (.loc 2) .nil))) eM) (.seq (.ret (.loc 3)) .skip))))
noncomputable def Pn:FI:=⟨9,3,[],iS⟩
noncomputable def J5:S:=(.seq (.asg (.du [2,3]) (.tup (.cons (.az .ja (.cons (.sub (.loc 0) (.cst (.int (0)))) (.cons (.sub (.loc 1) (.cst (.int (0)))) .nil))) (.cons (.az .ja (.cons (.sub (.loc 0) (.cst (.int (1)))) (.cons (.sub (.loc 1) (.cst (.int (1)))) .nil))) .nil)))) (.seq (.asg (.var 4) (.az .gj (.cons (.bin .Add (.sub (.loc 0) (.cst (.int (0)))) (.sub (.loc 0) (.cst (.int (2))))) (.cons (.bin .Add (.sub (.loc 1) (.cst (.int (0)))) (.sub (.loc 1) (.cst (.int (2))))) .nil)))) (.seq (.asg (.var 5) (.az .gj (.cons (.bin .Add (.sub (.loc 0) (.cst (.int (1)))) (.sub (.loc 0) (.cst (.int (3))))) (.cons (.bin .Add (.sub (.loc 1) (.cst (.int (1)))) (.sub (.loc 1) (.cst (.int (3))))) .nil)))) (.seq (.ite (.or (.cmp .LtE (.loc 4) (.loc 2)) (.cmp .LtE (.loc 5) (.loc 3))) (.seq (.ret (.cst (.none))) .skip) .skip) (.seq (.ret (.tup (.cons (.loc 2) (.cons (.loc 3) (.cons (.bin .Sub (.loc 4) (.loc 2)) (.cons (.bin .Sub (.loc 5) (.loc 3)) .nil)))))) .skip)))))
noncomputable def Pp:FI:=⟨8,2,[],J5⟩
noncomputable def Fp:S:=(.seq (.ite (.or (.cmp .Is (.loc 0) (.cst (.none))) (.or (.cmp .LtE (.sub (.loc 0) (.cst (.int (2)))) (.sub (.loc 0) (.cst (.int (0))))) (.cmp .LtE (.sub (.loc 0) (.cst (.int (3)))) (.sub (.loc 0) (.cst (.int (1))))))) (.seq (.ret (.cst (.none))) .skip) .skip) (.seq (.asg (.du [2,3]) (.tup (.cons (.bin .FloorDiv (.sub (.loc 0) (.cst (.int (0)))) (.loc 1)) (.cons (.bin .FloorDiv (.sub (.loc 0) (.cst (.int (1)))) (.loc 1)) .nil)))) (.seq (.asg (.du [4,5]) (.tup (.cons (.neg (.bin .FloorDiv (.neg (.sub (.loc 0) (.cst (.int (2))))) (.loc 1))) (.cons (.neg (.bin .FloorDiv (.neg (.sub (.loc 0) (.cst (.int (3))))) (.loc 1))) .nil)))) (.seq (.ret (.tup (.cons (.loc 2) (.cons (.loc 3) (.cons (.bin .Sub (.loc 4) (.loc 2)) (.cons (.bin .Sub (.loc 5) (.loc 3)) .nil)))))) .skip))))
noncomputable def Pq:FI:=⟨6,2,[],Fp⟩
noncomputable def Pr:S:=(.seq (.ret (.tup (.cons (.attr (.loc 0) 5) (.cons (.attr (.loc 0) 6) (.cons (.attr (.loc 0) 3) (.cons (.attr (.loc 0) 4) .nil)))))) .skip)
noncomputable def Pt:FI:=⟨1,1,[],Pr⟩
noncomputable def Pu:S:=(.seq (.asg (.var 5) (.call (.cst (.fn 172)) (.cons (.loc 0) (.cons (.loc 1) .nil)))) (.seq (.ret (.ite (.or (.cmp .Is (.loc 2) (.cst (.none))) (.cmp .Eq (.loc 5) (.cst (.int (0))))) (.loc 5) (.call (.cst (.fn 172)) (.cons (.loc 5) (.cons (.aF (.loc 2) 17 (.cons (.loc 3) (.cons (.loc 4) .nil))) .nil))))) .skip))
noncomputable def Pw:FI:=⟨7,5,[],Pu⟩
noncomputable def Fq:E:=(.call (.cst (.fn 172)) (.cons (.loc 1) (.cons (.loc 3) .nil)))
noncomputable def Px:S:=(.seq (.ite (.cmp .Eq (.loc 1) (.cst (.int (255)))) (.seq (.ret (.loc 0)) .skip) .skip) (.seq (.ret (.az .tuple (.cons (.comp [none,none,none,some 1] (.var 1) .seq (.loc 0) (.cst (.bool true)) Fq) .nil))) .skip))
noncomputable def Py:FI:=⟨4,2,[],Px⟩
noncomputable def hU:S:=(.seq (.asg (.var 19) (.call (.cst (.fn 560)) (.cons (.aF (.loc 16) 17 (.cons (.loc 18) (.cons (.loc 17) .nil))) (.cons (.loc 8) (.cons (.loc 9) (.cons (.loc 18) (.cons (.loc 17) .nil))))))) (.seq (.ite (.cmp .Gt (.loc 19) (.cst (.int (0)))) (.seq (.expr (.aF (.loc 0) 10 (.cons (.loc 18) (.cons (.loc 17) (.cons (.call (.cst (.fn 33)) (.cons (.call (.cst (.fn 565)) (.cons (.aF (.loc 7) 46 (.cons (.loc 18) (.cons (.loc 17) .nil))) (.cons (.loc 19) .nil))) (.cons (.aF (.loc 0) 9 (.cons (.loc 18) (.cons (.loc 17) .nil))) .nil))) .nil))))) .skip) .skip) .skip))
noncomputable def jq:S:=(.seq (.loop (.var 18) .dY (.cons (.loc 12) (.cons (.bin .Add (.loc 12) (.loc 14)) .nil)) hU) .skip)
noncomputable def uH:S:=(.seq (.asg (.vars [4,5,6,7,8,9]) (.loc 1)) (.seq (.asg (.var 10) (.call (.cst (.fn 546)) (.cons (.call (.cst (.fn 38)) (.cons (.loc 5) .nil)) (.cons (.loc 3) .nil)))) (.seq (.asg (.var 11) (.ite (.cmp .Is (.loc 10) (.cst (.none))) (.cst (.none)) (.call (.cst (.fn 539)) (.cons (.call (.cst (.fn 553)) (.cons (.loc 0) .nil)) (.cons (.loc 10) .nil))))) (.seq (.ite (.or (.cmp .Is (.loc 11) (.cst (.none))) (.cmp .Eq (.loc 8) (.cst (.int (0))))) (.seq (.ret (.cst (.none))) .skip) .skip) (.seq (.asg (.vars [12,13,14,15]) (.loc 11)) (.seq (.asg (.var 16) (.call (.cst (.fn 525)) (.cons (.loc 5) (.cons (.loc 6) (.cons (.loc 12) (.cons (.loc 13) (.cons (.loc 14) (.cons (.loc 15) (.cons (.loc 2) (.cons (.loc 3) .nil)))))))))) (.seq (.loop (.var 17) .dY (.cons (.loc 13) (.cons (.bin .Add (.loc 13) (.loc 15)) .nil)) jq) .skip)))))))
noncomputable def Pz:FI:=⟨29,4,[],uH⟩
noncomputable def PA:S:=(.seq (.ret (.cst (.int (255)))) .skip)
noncomputable def PB:FI:=⟨3,2,[],PA⟩
noncomputable def PC:S:=(.seq (.ret (.ite (.cmp .Is (.loc 0) (.cst (.none))) (.cst (.fn 579)) (.attr (.loc 0) 17))) .skip)
noncomputable def PD:FI:=⟨2,1,[],PC⟩
noncomputable def dh:S:=(.seq (.ite (.cmp .Eq (.sub (.loc 6) (.cst (.int (0)))) (.cst (.str (Str.ofString "fill")))) (.seq (.expr (.call (.cst (.fn 572)) (.cons (.aF (.loc 4) 6 .nil) (.cons (.loc 6) (.cons (.loc 2) (.cons (.loc 3) .nil)))))) .skip) (.seq (.ite (.cmp .Eq (.sub (.loc 6) (.cst (.int (0)))) (.cst (.str (Str.ofString "push")))) (.seq (.expr (.aF (.loc 4) 27 .nil)) (.seq (.expr (.aF (.loc 5) 0 (.cons (.loc 6) .nil))) .skip)) (.seq (.ite (.cmp .Eq (.sub (.loc 6) (.cst (.int (0)))) (.cst (.str (Str.ofString "pop")))) (.seq (.ite (.cmp .Eq (.loc 5) (.lst .nil)) (.seq .stuck .skip) .skip) (.seq (.asg (.vars [7,8,9,10]) (.aF (.loc 5) 2 .nil)) (.seq (.expr (.aF (.loc 4) 2 (.cons (.loc 8) (.cons (.loc 9) (.cons (.call (.cst (.fn 586)) (.cons (.loc 10) .nil)) .nil))))) .skip))) (.seq .stuck .skip)) .skip)) .skip)) .skip)
noncomputable def Be:S:=(.seq (.asg (.du [4,5]) (.tup (.cons (.call (.cst (.fn 304)) (.cons (.loc 1) .nil)) (.cons (.lst .nil) .nil)))) (.seq (.loop (.var 6) .seq (.loc 0) dh) (.seq (.ite (.cmp .NotEq (.loc 5) (.lst .nil)) (.seq .stuck .skip) .skip) .skip)))
noncomputable def PE:FI:=⟨16,4,[],Be⟩
noncomputable def kW:S:=(.seq (.expr (.aF (.loc 0) 10 (.cons (.loc 3) (.cons (.loc 2) (.cons (.aF (.loc 1) 9 (.cons (.loc 3) (.cons (.loc 2) .nil))) .nil))))) .skip)
noncomputable def qE:S:=(.seq (.loop (.var 3) .dY (.cons (.attr (.loc 1) 5) (.cons (.bin .Add (.attr (.loc 1) 5) (.attr (.loc 1) 3)) .nil)) kW) .skip)
noncomputable def PF:S:=(.seq (.loop (.var 2) .dY (.cons (.attr (.loc 1) 6) (.cons (.bin .Add (.attr (.loc 1) 6) (.attr (.loc 1) 4)) .nil)) qE) .skip)
noncomputable def PH:FI:=⟨5,2,[],PF⟩
noncomputable def PI:S:=(.seq (.asg (.vars [4,5,6,7]) (.loc 1)) (.seq (.asg (.var 8) (.call (.cst (.fn 161)) (.cons (.loc 6) (.cons (.loc 7) (.cons (.loc 4) (.cons (.loc 5) .nil)))))) (.seq (.expr (.call (.cst (.fn 593)) (.cons (.loc 0) (.cons (.loc 8) (.cons (.loc 2) (.cons (.loc 3) .nil)))))) (.seq (.ret (.loc 8)) .skip))))
noncomputable def PJ:FI:=⟨11,4,[],PI⟩
noncomputable def kX:S:=(.seq (.asg (.var 6) (.call (.cst (.fn 539)) (.cons (.loc 4) (.cons (.loc 5) .nil)))) (.seq (.ite (.cmp .IsNot (.loc 6) (.cst (.none))) (.seq (.expr (.call (.cst (.fn 600)) (.cons (.loc 3) (.cons (.call (.cst (.fn 607)) (.cons (.loc 0) (.cons (.loc 6) (.cons (.attr (.loc 1) 36) (.cons (.attr (.loc 1) 47) .nil))))) .nil)))) .skip) .skip) .skip))
noncomputable def PK:S:=(.seq (.asg (.var 3) (.call (.cst (.fn 161)) (.cons (.attr (.loc 1) 3) (.cons (.attr (.loc 1) 4) .nil)))) (.seq (.asg (.var 4) (.call (.cst (.fn 553)) (.cons (.loc 3) .nil))) (.seq (.loop (.var 5) .seq (.loc 2) kX) (.seq (.ret (.loc 3)) .skip))))
noncomputable def PL:FI:=⟨12,3,[],PK⟩
noncomputable def J6:S:=(.seq (.setattr (.loc 0) 45 (.loc 1)) .skip)
noncomputable def PN:FI:=⟨2,2,[],J6⟩
noncomputable def PO:S:=(.seq (.ret (.attr (.loc 0) 45)) .skip)
noncomputable def PQ:FI:=⟨3,3,[],PO⟩
noncomputable def PR:S:=(.seq (.setattr (.loc 0) 47 (.loc 1)) (.seq (.setattr (.loc 0) 36 (.loc 2)) (.seq (.setattr (.loc 0) 3 (.loc 3)) (.seq (.setattr (.loc 0) 4 (.loc 4)) .skip))))
noncomputable def PS:FI:=⟨5,5,[],PR⟩
noncomputable def WU:S:=(.seq (.asg (.var 1) (.cst (.int (0)))) (.seq (.ite (.cmp .Gt (.az .len (.cons (.loc 0) .nil)) (.cst (.int (0)))) (.seq (.asg (.var 1) (.sub (.loc 0) (.cst (.int (0))))) .skip) .skip) (.seq (.asg (.var 2) (.az .ja (.cons (.az .int (.cons (.loc 1) .nil)) (.cons (.az .int (.cons (.bin .Sub (.neg (.cst (.int (1)))) (.loc 1)) .nil)) .nil)))) (.seq (.ret (.lst (.cons (.bin .Mult (.loc 2) (.az .int (.cons (.cmp .GtE (.loc 2) (.bin .Pow (.cst (.int (10))) (.cst (.int (18))))) .nil))) (.cons (.bin .Mod (.az .int (.cons (.bin .Mult (.bin .Add (.bin .Mod (.loc 2) (.cst (.int (2147483629)))) (.cst (.int (17)))) (.cst (.int (48271)))) .nil)) (.cst (.int (2147483647)))) .nil)))) .skip))))
noncomputable def PT:FI:=⟨6,1,[],WU⟩
noncomputable def Bf:S:=(.seq (.ite (.cmp .Gt (.sub (.loc 0) (.cst (.int (0)))) (.cst (.int (0)))) (.seq (.asg (.var 2) (.bin .Mod (.az .int (.cons (.sub (.loc 0) (.cst (.int (0)))) .nil)) (.loc 1))) (.seq (.setitem (.loc 0) (.cst (.int (0))) (.bin .FloorDiv (.sub (.loc 0) (.cst (.int (0)))) (.loc 1))) (.seq (.ret (.loc 2)) .skip))) .skip) (.seq (.setitem (.loc 0) (.cst (.int (1))) (.bin .Mod (.az .int (.cons (.bin .Add (.bin .Mult (.sub (.loc 0) (.cst (.int (1)))) (.cst (.int (39373)))) (.cst (.int (7)))) .nil)) (.cst (.int (2147483647))))) (.seq (.ret (.bin .Mod (.bin .FloorDiv (.az .int (.cons (.sub (.loc 0) (.cst (.int (1)))) .nil)) (.cst (.int (32)))) (.loc 1))) .skip)))
noncomputable def PU:FI:=⟨4,2,[],Bf⟩
noncomputable def PV:S:=(.seq (.ret (.sub (.loc 1) (.call (.cst (.fn 677)) (.cons (.loc 0) (.cons (.az .len (.cons (.loc 1) .nil)) .nil))))) .skip)
noncomputable def PW:FI:=⟨4,2,[],PV⟩
noncomputable def jr:S:=(.seq (.asg (.var 4) (.tup (.cons (.bin .Sub (.call (.cst (.fn 677)) (.cons (.loc 0) (.cons (.bin .Add (.loc 1) (.cst (.int (9)))) .nil))) (.cst (.int (4)))) (.cons (.bin .Sub (.call (.cst (.fn 677)) (.cons (.loc 0) (.cons (.bin .Add (.loc 1) (.cst (.int (9)))) .nil))) (.cst (.int (4)))) .nil)))) (.seq (.ite (.or (.cmp .Eq (.loc 2) (.lst .nil)) (.cmp .NotEq (.loc 4) (.sub (.loc 2) (.neg (.cst (.int (1))))))) (.seq (.expr (.aF (.loc 2) 0 (.cons (.loc 4) .nil))) .skip) .skip) .skip))
noncomputable def uI:S:=(.seq (.asg (.var 2) (.lst .nil)) (.seq (.loop (.var 3) .dY (.cons (.bin .Add (.cst (.int (3))) (.call (.cst (.fn 677)) (.cons (.loc 0) (.cons (.cst (.int (2))) .nil)))) .nil) jr) (.seq (.ite (.and (.cmp .Gt (.az .len (.cons (.loc 2) .nil)) (.cst (.int (1)))) (.cmp .Eq (.sub (.loc 2) (.cst (.int (0)))) (.sub (.loc 2) (.neg (.cst (.int (1))))))) (.seq (.expr (.aF (.loc 2) 2 .nil)) .skip) .skip) (.seq (.ret (.tup (.cons (.az .tuple (.cons (.loc 2) .nil)) (.cons (.cst (.bool true)) .nil)))) .skip))))
noncomputable def PY:FI:=⟨9,2,[],uI⟩
noncomputable def jt:S:=(.seq (.asg (.du [7,8]) (.tup (.cons (.sub (.loc 4) (.loc 6)) (.cons (.sub (.loc 4) (.bin .Mod (.bin .Add (.loc 6) (.cst (.int (1)))) (.az .len (.cons (.loc 4) .nil)))) .nil)))) (.seq (.asg (.vars [9,10]) (.ite (.cmp .Lt (.sub (.loc 7) (.cst (.int (1)))) (.sub (.loc 8) (.cst (.int (1))))) (.tup (.cons (.loc 7) (.cons (.loc 8) .nil))) (.tup (.cons (.loc 8) (.cons (.loc 7) .nil))))) (.seq (.ite (.chain .LtE .Lt (.sub (.loc 9) (.cst (.int (1)))) (.loc 2) (.sub (.loc 10) (.cst (.int (1))))) (.seq (.asg (.var 11) (.bin .Sub (.bin .Mult (.bin .Sub (.loc 1) (.sub (.loc 9) (.cst (.int (0))))) (.bin .Sub (.sub (.loc 10) (.cst (.int (1)))) (.sub (.loc 9) (.cst (.int (1)))))) (.bin .Mult (.bin .Sub (.sub (.loc 10) (.cst (.int (0)))) (.sub (.loc 9) (.cst (.int (0))))) (.bin .Sub (.loc 2) (.sub (.loc 9) (.cst (.int (1)))))))) (.seq (.ite (.cmp .GtE (.loc 11) (.cst (.int (0)))) (.seq (.asg (.var 3) (.bin .Add (.loc 3) (.ite (.cmp .Lt (.sub (.loc 7) (.cst (.int (1)))) (.sub (.loc 8) (.cst (.int (1))))) (.cst (.int (1))) (.neg (.cst (.int (1))))))) .skip) .skip) .skip)) .skip) .skip)))
noncomputable def qF:S:=(.seq (.loop (.var 6) .dY (.cons (.az .len (.cons (.loc 4) .nil)) .nil) jt) .skip)
noncomputable def J7:S:=(.seq (.asg (.var 3) (.cst (.int (0)))) (.seq (.loop (.vars [4,5]) .seq (.loc 0) qF) (.seq (.ret (.loc 3)) .skip)))
noncomputable def PZ:FI:=⟨14,3,[],J7⟩
noncomputable def P7:S:=(.seq (.ret (.bin .FloorDiv (.bin .Add (.bin .Mult (.bin .Mult (.cst (.int (2))) (.loc 0)) (.loc 1)) (.cst (.int (255)))) (.cst (.int (510))))) .skip)
noncomputable def P8:FI:=⟨2,2,[],P7⟩
noncomputable def Fs:E:=(.bin .Add (.sub (.loc 3) (.loc 1)) (.call (.cst (.fn 705)) (.cons (.sub (.loc 4) (.loc 1)) (.cons (.bin .Sub (.cst (.int (255))) (.sub (.loc 3) (.cst (.int (3))))) .nil))))
noncomputable def P9:S:=(.seq (.ret (.az .tuple (.cons (.comp [none,none,none,some 0,some 1] (.var 1) .dY (.cons (.cst (.int (4))) .nil) (.cst (.bool true)) Fs) .nil))) .skip)
noncomputable def P':FI:=⟨4,2,[],P9⟩
noncomputable def kY:S:=(.seq (.asg (.var 6) (.tup (.cons (.bin .Add (.bin .Mult (.loc 1) (.loc 3)) (.bin .FloorDiv (.bin .Mult (.bin .Add (.bin .Mult (.cst (.int (2))) (.bin .Mod (.loc 5) (.cst (.int (2))))) (.cst (.int (1)))) (.loc 3)) (.cst (.int (4))))) (.cons (.bin .Add (.bin .Mult (.loc 2) (.loc 3)) (.bin .FloorDiv (.bin .Mult (.bin .Add (.bin .Mult (.cst (.int (2))) (.bin .FloorDiv (.loc 5) (.cst (.int (2))))) (.cst (.int (1)))) (.loc 3)) (.cst (.int (4))))) .nil)))) (.seq (.asg (.var 7) (.call (.cst (.fn 698)) (.cons (.sub (.loc 0) (.cst (.int (1)))) (.cons (.sub (.loc 6) (.cst (.int (0)))) (.cons (.sub (.loc 6) (.cst (.int (1)))) .nil))))) (.seq (.asg (.var 4) (.bin .Add (.loc 4) (.az .int (.cons (.ite (.cmp .Eq (.sub (.loc 0) (.cst (.int (2)))) (.cst (.str (Str.ofString "evenodd")))) (.cmp .NotEq (.bin .Mod (.loc 7) (.cst (.int (2)))) (.cst (.int (0)))) (.cmp .NotEq (.loc 7) (.cst (.int (0))))) .nil)))) .skip)))
noncomputable def Qa:S:=(.seq (.asg (.var 4) (.cst (.int (0)))) (.seq (.loop (.var 5) .dY (.cons (.cst (.int (4))) .nil) kY) (.seq (.ret (.bin .FloorDiv (.bin .Add (.bin .Mult (.bin .Mult (.cst (.int (2))) (.cst (.int (255)))) (.loc 4)) (.cst (.int (4)))) (.cst (.int (8))))) .skip)))
noncomputable def Qb:FI:=⟨11,4,[],Qa⟩
noncomputable def wa:E:=(.call (.cst (.fn 705)) (.cons (.loc 1) (.cons (.loc 3) .nil)))
noncomputable def wd:E:=(.call (.cst (.fn 705)) (.cons (.loc 1) (.cons (.loc 3) .nil)))
noncomputable def di:S:=(.seq (.ite (.cmp .Eq (.sub (.loc 8) (.cst (.int (0)))) (.cst (.str (Str.ofString "push")))) (.seq (.expr (.aF (.loc 5) 0 (.cons (.tup (.cons (.cst (.int (0))) (.cons (.cst (.int (0))) (.cons (.cst (.int (0))) (.cons (.cst (.int (0))) .nil))))) .nil))) (.seq (.expr (.aF (.loc 6) 0 (.cons (.sub (.loc 8) (.cst (.int (1)))) .nil))) .skip)) (.seq (.ite (.cmp .Eq (.sub (.loc 8) (.cst (.int (0)))) (.cst (.str (Str.ofString "pop")))) (.seq (.asg (.vars [9,10]) (.tup (.cons (.aF (.loc 5) 2 .nil) (.cons (.aF (.loc 6) 2 .nil) .nil)))) (.seq (.setitem (.loc 5) (.neg (.cst (.int (1)))) (.call (.cst (.fn 710)) (.cons (.az .tuple (.cons (.comp [none,none,none,some 10] (.var 1) .seq (.loc 9) (.cst (.bool true)) wa) .nil)) (.cons (.sub (.loc 5) (.neg (.cst (.int (1))))) .nil)))) .skip)) (.seq (.asg (.var 11) (.call (.cst (.fn 705)) (.cons (.call (.cst (.fn 717)) (.cons (.loc 8) (.cons (.loc 2) (.cons (.loc 3) (.cons (.loc 4) .nil))))) (.cons (.sub (.loc 8) (.cst (.int (4)))) .nil)))) (.seq (.setitem (.loc 5) (.neg (.cst (.int (1)))) (.call (.cst (.fn 710)) (.cons (.az .tuple (.cons (.comp [none,none,none,some 11] (.var 1) .seq (.sub (.loc 1) (.loc 7)) (.cst (.bool true)) wd) .nil)) (.cons (.sub (.loc 5) (.neg (.cst (.int (1))))) .nil)))) (.seq (.asg (.var 7) (.bin .Add (.loc 7) (.cst (.int (1))))) .skip)))) .skip)) .skip)
noncomputable def Ft:S:=(.seq (.asg (.du [5,6,7]) (.tup (.cons (.lst (.cons (.tup (.cons (.cst (.int (0))) (.cons (.cst (.int (0))) (.cons (.cst (.int (0))) (.cons (.cst (.int (0))) .nil))))) .nil)) (.cons (.lst .nil) (.cons (.cst (.int (0))) .nil))))) (.seq (.loop (.var 8) .seq (.loc 0) di) (.seq (.ret (.sub (.loc 5) (.cst (.int (0))))) .skip)))
noncomputable def Qc:FI:=⟨16,5,[],Ft⟩
noncomputable def kZ:E:=(.call (.cst (.fn 691)) (.cons (.loc 4) (.cons (.bin .Mult (.loc 3) (.cst (.int (3)))) .nil)))
noncomputable def fL:S:=(.seq (.asg (.var 8) (.comp [none,none,none,some 2,some 1] (.var 1) .dY (.cons (.bin .Add (.cst (.int (1))) (.call (.cst (.fn 677)) (.cons (.loc 1) (.cons (.cst (.int (2))) .nil)))) .nil) (.cst (.bool true)) kZ)) (.seq (.expr (.aF (.loc 6) 0 (.cons (.call (.cst (.fn 684)) (.cons (.loc 1) (.cons (.lst (.cons (.tup (.cons (.cst (.int (255))) (.cons (.cst (.int (0))) (.cons (.cst (.int (0))) (.cons (.cst (.int (255))) .nil))))) (.cons (.tup (.cons (.cst (.int (0))) (.cons (.cst (.int (128))) (.cons (.cst (.int (7))) (.cons (.cst (.int (128))) .nil))))) (.cons (.tup (.cons (.cst (.int (0))) (.cons (.cst (.int (0))) (.cons (.cst (.int (0))) (.cons (.cst (.int (255))) .nil))))) (.cons (.tup (.cons (.cst (.int (9))) (.cons (.cst (.int (9))) (.cons (.cst (.int (9))) (.cons (.cst (.int (200))) .nil))))) .nil))))) .nil))) .nil))) (.seq (.asg (.var 9) (.call (.cst (.fn 684)) (.cons (.loc 1) (.cons (.lst (.cons (.cst (.str (Str.ofString "nonzero"))) (.cons (.cst (.str (Str.ofString "evenodd"))) .nil))) .nil)))) (.seq (.expr (.aF (.loc 5) 0 (.cons (.tup (.cons (.cst (.str (Str.ofString "fill"))) (.cons (.loc 8) (.cons (.loc 9) (.cons (.call (.cst (.fn 638)) (.cons (.sub (.loc 6) (.neg (.cst (.int (1))))) .nil)) (.cons (.call (.cst (.fn 684)) (.cons (.loc 1) (.cons (.lst (.cons (.cst (.int (255))) (.cons (.cst (.int (255))) (.cons (.cst (.int (100))) .nil)))) .nil))) (.cons (.cst (.none)) .nil))))))) .nil))) .skip))))
noncomputable def qG:E:=(.call (.cst (.fn 722)) (.cons (.loc 5) (.cons (.loc 3) (.cons (.loc 1) (.cons (.loc 6) (.cons (.loc 4) .nil))))))
noncomputable def fM:E:=(.comp [none,none,none,some 3,some 4,some 5,some 1] (.var 1) .dY (.cons (.loc 6) .nil) (.cst (.bool true)) qG)
noncomputable def qH:E:=(.az .tuple (.cons (.loc 1) .nil))
noncomputable def eN:E:=(.comp [none,none,none] (.var 1) .seq (.loc 1) (.cst (.bool true)) qH)
noncomputable def Fu:E:=(.az .tuple (.cons (.loc 1) .nil))
noncomputable def k7:E:=(.comp [none,none,none] (.var 1) .seq (.loc 1) (.cst (.bool true)) Fu)
noncomputable def J8:S:=(.seq (.asg (.var 1) (.call (.cst (.fn 670)) (.cons (.loc 0) .nil))) (.seq (.asg (.vars [2,3,4]) (.tup (.cons (.cst (.int (4))) (.cons (.bin .Add (.cst (.int (2))) (.call (.cst (.fn 677)) (.cons (.loc 1) (.cons (.cst (.int (2))) .nil)))) (.cons (.bin .Add (.cst (.int (2))) (.call (.cst (.fn 677)) (.cons (.loc 1) (.cons (.cst (.int (2))) .nil)))) .nil))))) (.seq (.asg (.vars [5,6]) (.tup (.cons (.lst .nil) (.cons (.lst .nil) .nil)))) (.seq (.loop (.var 7) .dY (.cons (.bin .Add (.cst (.int (1))) (.call (.cst (.fn 677)) (.cons (.loc 1) (.cons (.cst (.int (3))) .nil)))) .nil) fL) (.seq (.ite (.cmp .Eq (.call (.cst (.fn 677)) (.cons (.loc 1) (.cons (.cst (.int (3))) .nil))) (.cst (.int (0)))) (.seq (.asg (.var 5) (.bin .Add (.bin .Add (.bin .Add (.lst (.cons (.tup (.cons (.cst (.str (Str.ofString "push"))) (.cons (.call (.cst (.fn 684)) (.cons (.loc 1) (.cons (.lst (.cons (.cst (.int (255))) (.cons (.cst (.int (77))) (.cons (.cst (.int (0))) .nil)))) .nil))) (.cons (.cst (.str (Str.ofString "normal"))) (.cons (.cst (.none)) .nil))))) .nil)) (.slice .gm (.loc 5))) (.lst (.cons (.tup (.cons (.cst (.str (Str.ofString "pop"))) .nil)) .nil))) (.slice .dZ (.loc 5)))) .skip) .skip) (.seq (.asg (.var 10) (.call (.cst (.fn 659)) (.cons (.loc 2) (.cons (.cst (.int (2))) (.cons (.loc 3) (.cons (.loc 4) .nil)))))) (.seq (.asg (.var 11) (.call (.cst (.fn 532)) (.cons (.loc 3) (.cons (.loc 4) (.cons (.bin .Add (.cst (.int (1))) (.call (.cst (.fn 677)) (.cons (.loc 1) (.cons (.cst (.int (2))) .nil)))) .nil))))) (.seq (.ite (.cmp .Eq (.call (.cst (.fn 677)) (.cons (.loc 1) (.cons (.cst (.int (2))) .nil))) (.cst (.int (0)))) (.seq (.asg (.var 11) (.slice .rev (.loc 11))) .skip) .skip) (.seq (.asg (.var 12) (.call (.cst (.fn 614)) (.cons (.loc 5) (.cons (.loc 10) (.cons (.lst (.cons (.tup (.cons (.cst (.int (0))) (.cons (.cst (.int (0))) (.cons (.loc 3) (.cons (.loc 4) .nil))))) .nil)) .nil))))) (.seq (.asg (.var 13) (.call (.cst (.fn 614)) (.cons (.loc 5) (.cons (.loc 10) (.cons (.loc 11) .nil))))) (.seq (.asg (.var 14) (.comp [none,none,none,some 6,some 2,some 5,some 3] (.var 1) .dY (.cons (.loc 4) .nil) (.cst (.bool true)) fM)) (.seq (.asg (.var 15) (.comp [none,none] (.var 1) .seq (.aF (.loc 12) 14 .nil) (.cst (.bool true)) eN)) (.seq (.ret (.and (.cmp .Eq (.loc 15) (.loc 14)) (.cmp .Eq (.comp [none,none] (.var 1) .seq (.aF (.loc 13) 14 .nil) (.cst (.bool true)) k7) (.loc 14)))) .skip)))))))))))))
noncomputable def Qd:FI:=⟨24,1,[],J8⟩
noncomputable def mL:CI:=⟨108,[(8,115),(9,122),(10,129),(13,134),(14,139),(11,144),(12,151)],[3,4,5,6,7]⟩
noncomputable def yr:CI:=⟨191,[(20,198),(21,205),(22,212),(23,219),(24,226)],[16,17,18,19]⟩
noncomputable def uJ:CI:=⟨273,[(6,280),(26,287),(27,294),(2,301)],[25]⟩
noncomputable def qJ:CI:=⟨379,[(33,386),(34,393),(35,400)],[28,29,30,31,32]⟩
noncomputable def kF:CI:=⟨455,[(38,462),(39,469),(40,476),(17,483),(41,490),(43,504)],[5,6,3,4,36,37]⟩
noncomputable def Fv:CI:=⟨628,[(46,635)],[45]⟩
noncomputable def yt:CI:=⟨656,[],[47,36,3,4]⟩
noncomputable def PG:Pg:=⟨[(28,Zw),(33,Zy),(38,Zz),(108,NU),(115,NW),(122,NZ),(129,N0),(134,WB),(139,N2),(144,N4),(151,N6),(172,N8),(177,N'),(191,Ob),(198,Od),(205,WD),(212,WH),(219,WL),(226,WN),(240,Oe),(247,Oh),(252,Oj),(259,Ol),(273,Om),(280,Oq),(287,Ou),(294,Ow),(301,Ox),(316,Oy),(323,OA),(330,OC),(337,OG),(344,OH),(351,OJ),(358,OL),(365,OO),(379,OQ),(386,WQ),(393,OS),(400,OU),(414,OV),(421,OW),(429,OX),(434,OY),(441,O0),(455,Pa),(462,Pb),(469,Ph),(476,Pj),(483,Pk),(490,Pl),(504,WT),(525,Pm),(532,Pn),(539,Pp),(546,Pq),(553,Pt),(560,Pw),(565,Py),(572,Pz),(579,PB),(586,PD),(593,PE),(600,PH),(607,PJ),(614,PL),(628,PN),(635,PQ),(656,PS),(670,PT),(677,PU),(684,PW),(691,PY),(698,PZ),(705,P8),(710,P'),(717,Qb),(722,Qc),(727,Qd)],
 [(161,mL),(229,yr),(304,uJ),(403,qJ),(514,kF),(638,Fv),(659,yt)]⟩
theorem WV:PG.fns.lookup 28=some Zw:=rfl
theorem WW:PG.fns.lookup 33=some Zy:=rfl
theorem WX:PG.fns.lookup 38=some Zz:=rfl
theorem Ib:PG.fns.lookup 108=some NU:=rfl
theorem Qe:PG.fns.lookup 115=some NW:=rfl
theorem Qf:PG.fns.lookup 122=some NZ:=rfl
theorem Qg:PG.fns.lookup 129=some N0:=rfl
theorem Qh:PG.fns.lookup 139=some N2:=rfl
theorem Qi:PG.fns.lookup 144=some N4:=rfl
theorem Qj:PG.fns.lookup 151=some N6:=rfl
theorem Qk:PG.fns.lookup 172=some N8:=rfl
theorem Ql:PG.fns.lookup 177=some N':=rfl
theorem Qm:PG.fns.lookup 191=some Ob:=rfl
theorem Qn:PG.fns.lookup 198=some Od:=rfl
theorem Qo:PG.fns.lookup 240=some Oe:=rfl
theorem Qp:PG.fns.lookup 247=some Oh:=rfl
theorem Qq:PG.fns.lookup 252=some Oj:=rfl
theorem Ic:PG.fns.lookup 259=some Ol:=rfl
theorem Qr:PG.fns.lookup 273=some Om:=rfl
theorem Qs:PG.fns.lookup 280=some Oq:=rfl
theorem Qt:PG.fns.lookup 287=some Ou:=rfl
theorem Qu:PG.fns.lookup 294=some Ow:=rfl
theorem Qv:PG.fns.lookup 301=some Ox:=rfl
theorem Qw:PG.fns.lookup 316=some Oy:=rfl
theorem Qx:PG.fns.lookup 323=some OA:=rfl
theorem Qy:PG.fns.lookup 330=some OC:=rfl
theorem Qz:PG.fns.lookup 337=some OG:=rfl
theorem QA:PG.fns.lookup 344=some OH:=rfl
theorem QB:PG.fns.lookup 351=some OJ:=rfl
theorem QC:PG.fns.lookup 358=some OL:=rfl
theorem QD:PG.fns.lookup 365=some OO:=rfl
theorem QE:PG.fns.lookup 379=some OQ:=rfl
theorem QF:PG.fns.lookup 393=some OS:=rfl
theorem QG:PG.fns.lookup 400=some OU:=rfl
theorem QH:PG.fns.lookup 414=some OV:=rfl
theorem QI:PG.fns.lookup 421=some OW:=rfl
theorem QJ:PG.fns.lookup 429=some OX:=rfl
theorem QK:PG.fns.lookup 434=some OY:=rfl
theorem QL:PG.fns.lookup 441=some O0:=rfl
theorem QM:PG.fns.lookup 455=some Pa:=rfl
theorem QN:PG.fns.lookup 462=some Pb:=rfl
theorem QO:PG.fns.lookup 469=some Ph:=rfl
theorem QP:PG.fns.lookup 476=some Pj:=rfl
theorem QQ:PG.fns.lookup 483=some Pk:=rfl
theorem QR:PG.fns.lookup 490=some Pl:=rfl
theorem QS:PG.fns.lookup 525=some Pm:=rfl
theorem kh:PG.fns.lookup 532=some Pn:=rfl
theorem QT:PG.fns.lookup 539=some Pp:=rfl
theorem QU:PG.fns.lookup 546=some Pq:=rfl
theorem QV:PG.fns.lookup 553=some Pt:=rfl
theorem QW:PG.fns.lookup 560=some Pw:=rfl
theorem Ie:PG.fns.lookup 565=some Py:=rfl
theorem Bg:PG.fns.lookup 572=some Pz:=rfl
theorem QX:PG.fns.lookup 579=some PB:=rfl
theorem QY:PG.fns.lookup 586=some PD:=rfl
theorem Ig:PG.fns.lookup 593=some PE:=rfl
theorem QZ:PG.fns.lookup 600=some PH:=rfl
theorem Q0:PG.fns.lookup 607=some PJ:=rfl
theorem Q3:PG.fns.lookup 614=some PL:=rfl
theorem Q4:PG.fns.lookup 628=some PN:=rfl
theorem Q5:PG.fns.lookup 635=some PQ:=rfl
theorem Q6:PG.fns.lookup 656=some PS:=rfl
theorem Ih:PG.fns.lookup 670=some PT:=rfl
theorem Ii:PG.fns.lookup 677=some PU:=rfl
theorem Q7:PG.fns.lookup 684=some PW:=rfl
theorem Bh:PG.fns.lookup 691=some PY:=rfl
theorem Q8:PG.fns.lookup 698=some PZ:=rfl
theorem Q9:PG.fns.lookup 705=some P8:=rfl
theorem Ra:PG.fns.lookup 710=some P':=rfl
theorem Rb:PG.fns.lookup 717=some Qb:=rfl
theorem Rc:PG.fns.lookup 722=some Qc:=rfl
theorem Rd:PG.fns.lookup 727=some Qd:=rfl
theorem kj:PG.cls.lookup 161=some mL:=rfl
theorem Ij:PG.fns.lookup 161=none:=rfl
theorem Ik:PG.cls.lookup 229=some yr:=rfl
theorem Rf:PG.fns.lookup 229=none:=rfl
theorem sF:PG.cls.lookup 304=some uJ:=rfl
theorem Rg:PG.fns.lookup 304=none:=rfl
theorem Bj:PG.cls.lookup 403=some qJ:=rfl
theorem Rh:PG.fns.lookup 403=none:=rfl
theorem oO:PG.cls.lookup 514=some kF:=rfl
theorem Ri:PG.fns.lookup 514=none:=rfl
theorem Bk:PG.cls.lookup 638=some Fv:=rfl
theorem Rj:PG.fns.lookup 638=none:=rfl
theorem Il:PG.cls.lookup 659=some yt:=rfl
theorem Rk:PG.fns.lookup 659=none:=rfl
noncomputable abbrev RR:=Option (List V×St)
noncomputable abbrev XR:=Option (Fl×Loc×St)
end
section
open PySem
variable(P:Pg)(C:bj)
noncomputable def uK(v:V)(r:RR):RR:=r.map fun(vs,ak)=>(v::vs,ak)
noncomputable def Im(b:E)(l:Loc)(r:RR):RR:=(one r).bind fun(v,st1)=>uK v (ev P C b l st1)
noncomputable def J9(r:RR):RR:=r.bind fun(vs,st1)=>if vs.length≤ah then some ([.tup vs],st1)else none
noncomputable def Bl(r:RR):RR:=r.bind fun(vs,st1)=>if vs.length≤ah then some ([.lst st1.length],st1++[.list vs])else none
noncomputable def Bm(op:Operator)(x:V)(r:RR):RR:=(one r).bind fun(y,ak)=>jP op x y ak
noncomputable def Rl(op:Operator)(b:E)(l:Loc)(r:RR):RR:=(one r).bind fun(x,st1)=>Bm op x (ev P C b l st1)
noncomputable def Rm(r:RR):RR:=(one r).bind fun(x,st1)=>match x with|.int i=>some ([.int (-i)],st1)|_=>none
noncomputable def qK(st:St)(c:Option V):RR:=c.map fun c=>([c],st)
noncomputable def Bn(op:CmpOp)(x:V)(r:RR):RR:=(one r).bind fun(y,ak)=>qK ak (cm ak op x y)
noncomputable def Rn(op:CmpOp)(b:E)(l:Loc)(r:RR):RR:=(one r).bind fun(x,st1)=>Bn op x (ev P C b l st1)
noncomputable def J'(gp:CmpOp)(y:V)(r:RR):RR:=(one r).bind fun(z,cO)=>qK cO (cm cO gp y z)
noncomputable def Fw(gp:CmpOp)(c:E)(l:Loc)(y:V)(ak:St)(o:Option V):RR:=match o with
 |some (.bool true)=>J' gp y (ev P C c l ak)
 |some (.bool false)=>some ([.bool false],ak)
 |_=>none
noncomputable def Ka(nM gp:CmpOp)(c:E)(l:Loc)(x:V)(r:RR):RR:=(one r).bind fun(y,ak)=>Fw P C gp c l y ak (cm ak nM x y)
noncomputable def ZA(nM gp:CmpOp)(b c:E)(l:Loc)(r:RR):RR:=(one r).bind fun(x,st1)=>Ka P C nM gp c l x (ev P C b l st1)
noncomputable def sI(r:RR):RR:=(dA r).map fun(c,ak)=>([.bool c],ak)
noncomputable def wg(b:E)(l:Loc)(st1:St)(c:Bool):RR:=if c then sI (ev P C b l st1)else some ([.bool false],st1)
noncomputable def Ro(b:E)(l:Loc)(r:RR):RR:=(dA r).bind fun(c,st1)=>wg P C b l st1 c
noncomputable def Fx(b:E)(l:Loc)(st1:St)(c:Bool):RR:=if c then some ([.bool true],st1)else sI (ev P C b l st1)
noncomputable def ZC(b:E)(l:Loc)(r:RR):RR:=(dA r).bind fun(c,st1)=>Fx P C b l st1 c
noncomputable def Rp(r:RR):RR:=(dA r).map fun(c,st1)=>([.bool !c],st1)
noncomputable def wh(a b:E)(l:Loc)(st1:St)(c:Bool):RR:=if c then ev P C a l st1 else ev P C b l st1
noncomputable def Rq(a b:E)(l:Loc)(r:RR):RR:=(dA r).bind fun(c,st1)=>wh P C a b l st1 c
noncomputable def Bp(x:V)(r:RR):RR:=(one r).bind fun(y,ak)=>qK ak (nW x y ak)
noncomputable def Rt(i:E)(l:Loc)(r:RR):RR:=(one r).bind fun(x,st1)=>Bp x (ev P C i l st1)
noncomputable def ZD(k:Sl)(r:RR):RR:=(one r).bind fun(x,st1)=>d7 k x st1
noncomputable def Kb(k:Nat)(st1:St)(c:Option CI)(o:Option Cell):RR:=match c,o with
 |some c,some (.inst fs)=>if c.attrs.contains k then(fs.lookup k).map fun v=>([v],st1)else none
 |_,_=>none
noncomputable def wj(k:Nat)(r:RR):RR:=(one r).bind fun(x,st1)=>match x with
 |.obj C i=>Kb k st1 (P.cls.lookup C) st1[i]?
 |_=>none
noncomputable def qL(r:Option (V×St)):RR:=r.map fun(v,cO)=>([v],cO)
noncomputable def uL(x:V)(r:RR):RR:=r.bind fun(vs,ak)=>match x with
 |.fn a=>qL (C a vs ak)
 |_=>none
noncomputable def Io(args:E)(l:Loc)(r:RR):RR:=(one r).bind fun(x,st1)=>uL C x (ev P C args l st1)
noncomputable def kB(b:Bi)(r:RR):RR:=r.bind fun(vs,st1)=>nX b vs st1
noncomputable def Kc(st1:St)(i:Option It):RR:=i.bind fun it=>if it.items.length≤ah then some ([.lst st1.length],st1++[.list it.items])else none
noncomputable def ZE(r:RR):RR:=r.bind fun(vs,st1)=>Kc st1 (bU .zip vs st1)
noncomputable def WY(x:V)(k:Nat)(r:RR):RR:=r.bind fun(vs,ak)=>iw P C x k vs ak
noncomputable def WZ(x:V)(k:Nat)(args:E)(l:Loc)(st1:St)(b:Bool):RR:=if b then WY P C x k (ev P C args l st1)else none
noncomputable def kM(k:Nat)(args:E)(l:Loc)(r:RR):RR:=(one r).bind fun(x,st1)=>WZ P C x k args l st1 (d8 P x k st1)
noncomputable def Fy(r:RR):RR:=r.bind fun(vs,ak)=>if vs.length≤ah then some ([.lst ak.length],ak++[.list vs])else none
noncomputable def Kd(p:cD)(cond elt:E)(l0:Loc)(st1:St)(i:Option It):RR:=i.bind fun it=>
 Fy (aB p it.guards (fun l' af=>dA (ev P C cond l' af)) (fun l' af=>one (ev P C elt l' af)) it.items l0 st1)
noncomputable def ZF(p:cD)(sk:SK)(cond elt:E)(l0:Loc)(r:RR):RR:=r.bind fun(vs,st1)=>Kd P C p cond elt l0 st1 (bU sk vs st1)
theorem Lw v l st:ev P C (.cst v) l st=some ([v],st):=rfl
noncomputable def Ru(o:Option (Option V))(st:St):RR:=match o with|some (some v)=>some ([v],st)|_=>none
theorem Ip k l st:ev P C (.loc k) l st=Ru l[k]? st:=rfl
theorem Iq v st:Ru (some (some v)) st=some ([v],st):=rfl
theorem Lx l st:ev P C .nil l st=some ([],st):=rfl
theorem Ly(a b) l st:ev P C (.cons a b) l st=Im P C b l (ev P C a l st):=rfl
theorem Lz b l v st:Im P C b l (some ([v],st))=uK v (ev P C b l st):=rfl
theorem LA v vs st:uK v (some (vs,st))=some (v::vs,st):=rfl
theorem E08 es l st:ev P C (.tup es) l st=J9 (ev P C es l st):=rfl
theorem E09 vs st:J9 (some (vs,st))=if vs.length≤ah then some ([.tup vs],st)else none:=rfl
theorem E10 es l st:ev P C (.lst es) l st=Bl (ev P C es l st):=rfl
theorem E11 vs st:Bl (some (vs,st))=if vs.length≤ah then some ([.lst st.length],st++[.list vs])else none:=rfl
theorem LC op(a b) l st:ev P C (.bin op a b) l st=Rl P C op b l (ev P C a l st):=rfl
theorem LD op b l x st:Rl P C op b l (some ([x],st))=Bm op x (ev P C b l st):=rfl
theorem LJ op(x y) st:Bm op x (some ([y],st))=jP op x y st:=rfl
theorem E15 a l st:ev P C (.neg a) l st=Rm (ev P C a l st):=rfl
theorem E16 i st:Rm (some ([.int i],st))=some ([.int (-i)],st):=rfl
theorem LK st c:qK st (some c)=some ([c],st):=rfl
theorem ZG op(a b) l st:ev P C (.cmp op a b) l st=Rn P C op b l (ev P C a l st):=rfl
theorem ZH op b l x st:Rn P C op b l (some ([x],st))=Bn op x (ev P C b l st):=rfl
theorem ZI op(x y) st:Bn op x (some ([y],st))=qK st (cm st op x y):=rfl
theorem E21(nM gp)(a b c) l st:ev P C (.chain nM gp a b c) l st=ZA P C nM gp b c l (ev P C a l st):=rfl
theorem E22(nM gp)(b c) l x st:ZA P C nM gp b c l (some ([x],st))=Ka P C nM gp c l x (ev P C b l st):=rfl
theorem E23(nM gp) c l (x y) st:Ka P C nM gp c l x (some ([y],st))=Fw P C gp c l y st (cm st nM x y):=rfl
theorem Fz gp c l y st:Fw P C gp c l y st (some (.bool true))=J' gp y (ev P C c l st):=rfl
theorem W0 gp c l y st:Fw P C gp c l y st (some (.bool false))=some ([.bool false],st):=rfl
theorem FA gp(y z) st:J' gp y (some ([z],st))=qK st (cm st gp y z):=rfl
theorem E27(a b) l st:ev P C (.and a b) l st=Ro P C b l (ev P C a l st):=rfl
theorem E28 b l c st:Ro P C b l (some ([.bool c],st))=wg P C b l st c:=rfl
theorem E29 b l st:wg P C b l st true=sI (ev P C b l st):=rfl
theorem W2 b l st:wg P C b l st false=some ([.bool false],st):=rfl
theorem E31 c st:sI (some ([.bool c],st))=some ([.bool c],st):=rfl
theorem E32(a b) l st:ev P C (.or a b) l st=ZC P C b l (ev P C a l st):=rfl
theorem E33 b l c st:ZC P C b l (some ([.bool c],st))=Fx P C b l st c:=rfl
theorem Rv b l st:Fx P C b l st true=some ([.bool true],st):=rfl
theorem E35 b l st:Fx P C b l st false=sI (ev P C b l st):=rfl
theorem ZJ a l st:ev P C (.not a) l st=Rp (ev P C a l st):=rfl
theorem ZK c st:Rp (some ([.bool c],st))=some ([.bool !c],st):=rfl
theorem ZL(c a b) l st:ev P C (.ite c a b) l st=Rq P C a b l (ev P C c l st):=rfl
theorem ZM(a b) l c st:Rq P C a b l (some ([.bool c],st))=wh P C a b l st c:=rfl
theorem Ke(a b) l st:wh P C a b l st true=ev P C a l st:=rfl
theorem DP(a b) l st:wh P C a b l st false=ev P C b l st:=rfl
theorem Rw(a i) l st:ev P C (.sub a i) l st=Rt P C i l (ev P C a l st):=rfl
theorem Rx i l x st:Rt P C i l (some ([x],st))=Bp x (ev P C i l st):=rfl
theorem Ry(x y) st:Bp x (some ([y],st))=qK st (nW x y st):=rfl
theorem Kf k a l st:ev P C (.slice k a) l st=ZD k (ev P C a l st):=rfl
theorem Kg k x st:ZD k (some ([x],st))=d7 k x st:=rfl
theorem E47 a k l st:ev P C (.attr a k) l st=wj P k (ev P C a l st):=rfl
theorem Rz(f args) l st:ev P C (.call f args) l st=Io P C args l (ev P C f l st):=rfl
theorem RA args l x st:Io P C args l (some ([x],st))=uL C x (ev P C args l st):=rfl
theorem RB a vs st:uL C (.fn a) (some (vs,st))=qL (C a vs st):=rfl
theorem RC v st:qL (some (v,st))=some ([v],st):=rfl
theorem LL b args l st:ev P C (.az b args) l st=kB b (ev P C args l st):=rfl
theorem LN b vs st:kB b (some (vs,st))=nX b vs st:=rfl
theorem Uh args l st:ev P C (.dK args) l st=ZE (ev P C args l st):=rfl
theorem Ui vs st:ZE (some (vs,st))=Kc st (bU .zip vs st):=rfl
theorem Uj it st:Kc st (some it)=if it.items.length≤ah then some ([.lst st.length],st++[.list it.items])else none:=rfl
theorem E59 o k args l st:ev P C (.aF o k args) l st=kM P C k args l (ev P C o l st):=rfl
theorem E60 k args l x st:kM P C k args l (some ([x],st))=WZ P C x k args l st (d8 P x k st):=rfl
theorem E61 x k args l st:WZ P C x k args l st true=WY P C x k (ev P C args l st):=rfl
theorem E62 x k vs st:WY P C x k (some (vs,st))=iw P C x k vs st:=rfl
theorem RD c7 p sk(src cond elt) l st:ev P C (.comp c7 p sk src cond elt) l st=ZF P C p sk cond elt (a9 c7 l) (ev P C src l st):=rfl
theorem RE p sk(cond elt) l0 vs st:ZF P C p sk cond elt l0 (some (vs,st))=Kd P C p cond elt l0 st (bU sk vs st):=rfl
theorem RF p(cond elt) l0 st it:Kd P C p cond elt l0 st (some it)=
 Fy (aB p it.guards (fun l' af=>dA (ev P C cond l' af)) (fun l' af=>one (ev P C elt l' af)) it.items l0 st):=rfl
theorem E66 vs st:Fy (some (vs,st))=if vs.length≤ah then some ([.lst st.length],st++[.list vs])else none:=rfl
noncomputable def Uk(x:V)(r:RR):RR:=r.map fun(vs,cO)=>(x::vs,cO)
noncomputable def W3(p:cD)(c:Loc→St→Option (Bool×St))(e:Loc→St→Option (V×St))(vs:List V)(l1:Loc)(r:Option (V×St)):RR:=r.bind fun(x,ak)=>Uk x (aB p [] c e vs l1 ak)
noncomputable def FC(p:cD)(c:Loc→St→Option (Bool×St))(e:Loc→St→Option (V×St))(vs:List V)(l1:Loc)(st1:St)(b:Bool):RR:=
 if b then W3 p c e vs l1 (e l1 st1)else aB p [] c e vs l1 st1
noncomputable def W4(p:cD)(c:Loc→St→Option (Bool×St))(e:Loc→St→Option (V×St))(vs:List V)(l1:Loc)(r:Option (Bool×St)):RR:=r.bind fun(b,st1)=>FC p c e vs l1 st1 b
noncomputable def ZN(p:cD)(c:Loc→St→Option (Bool×St))(e:Loc→St→Option (V×St))(vs:List V)(st:St)(r:Option Loc):RR:=r.bind fun l1=>W4 p c e vs l1 (c l1 st)
theorem Bq p c e l st:aB p [] c e [] l st=some ([],st):=if_pos fun g h=>nomatch h
theorem zf p c e v vs l st:aB p [] c e (v::vs) l st=ZN p c e vs st (cb p v l):=if_pos fun g h=>nomatch h
theorem zg p c e vs st l1:ZN p c e vs st (some l1)=W4 p c e vs l1 (c l1 st):=rfl
theorem zh p c e vs l1 b st:W4 p c e vs l1 (some (b,st))=FC p c e vs l1 st b:=rfl
theorem zi p c e vs l1 st:FC p c e vs l1 st true=W3 p c e vs l1 (e l1 st):=rfl
theorem DQ p c e vs l1 x st:W3 p c e vs l1 (some (x,st))=Uk x (aB p [] c e vs l1 st):=rfl
theorem DR x vs st:Uk x (some (vs,st))=some (x::vs,st):=rfl
noncomputable def yu(b:S)(r:XR):XR:=r.bind fun(fl,l1,st1)=>match fl with
  |.next=>ex P C b l1 st1
  |_=>some (fl,l1,st1)
noncomputable def Ir(l:Loc)(r:RR):XR:=(one r).map fun(_,st1)=>(.next,l,st1)
noncomputable def Br(st1:St)(o:Option Loc):XR:=o.map fun l1=>(.next,l1,st1)
noncomputable def RG(p:cD)(l:Loc)(r:RR):XR:=(one r).bind fun(v,st1)=>Br st1 (cb p v l)
noncomputable def RH(l:Loc)(r:RR):XR:=(one r).map fun(v,st1)=>(.ret v,l,st1)
noncomputable def FD(a b:S)(l:Loc)(st1:St)(t:Bool):XR:=if t then ex P C a l st1 else ex P C b l st1
noncomputable def ZO(a b:S)(l:Loc)(r:RR):XR:=(dA r).bind fun(t,st1)=>FD P C a b l st1 t
noncomputable def wk(r:Option (Loc×St)):XR:=r.map fun(l,st)=>(.next,l,st)
noncomputable def Bs(p:cD)(b:S)(l:Loc)(st1:St)(i:Option It):XR:=i.bind fun it=>wk (aw p it.guards (ex P C b) it.items l st1)
noncomputable def kFor(p:cD)(sk:SK)(b:S)(l:Loc)(r:RR):XR:=r.bind fun(vs,st1)=>Bs P C p b l st1 (bU sk vs st1)
noncomputable def Kh(k:Nat)(l:Loc)(v:V)(i:Nat)(ak:St)(c:Option CI)(o:Option Cell):XR:=match c,o with
 |some c,some (.inst fs)=>if c.attrs.contains k∧fs.length<100∧i≠0 then some (.next,l,ak.set i (.inst (setField k v fs)))else none
 |_,_=>none
noncomputable def Ki(k:Nat)(l:Loc)(v:V)(r:RR):XR:=(one r).bind fun(x,ak)=>match x with
 |.obj C i=>Kh k l v i ak (P.cls.lookup C) ak[i]?
 |_=>none
noncomputable def ZP(o:E)(k:Nat)(l:Loc)(r:RR):XR:=(one r).bind fun(v,st1)=>Ki P k l v (ev P C o l st1)
noncomputable def Kj(l:Loc)(v:V)(a:Nat)(cO:St)(vs:List V)(o:Option Nat):XR:=match o with
 |some j=>if a=0 then none else some (.next,l,cO.set a (.list (vs.set j v)))
 |none=>none
noncomputable def FE(l:Loc)(v:V)(a:Nat)(k:Int)(cO:St)(o:Option Cell):XR:=match o with
 |some (.list vs)=>Kj l v a cO vs (idx k vs.length)
 |_=>none
noncomputable def Kk(l:Loc)(v x:V)(r:RR):XR:=(one r).bind fun(y,cO)=>match x,y with
 |.lst a,.int k=>FE l v a k cO cO[a]?
 |_,_=>none
noncomputable def Kl(i:E)(l:Loc)(v:V)(r:RR):XR:=(one r).bind fun(x,ak)=>Kk l v x (ev P C i l ak)
noncomputable def ZQ(o i:E)(l:Loc)(r:RR):XR:=(one r).bind fun(v,st1)=>Kl P C i l v (ev P C o l st1)
theorem ZR l st:ex P C .skip l st=some (.next,l,st):=rfl
theorem LO(a b) l st:ex P C (.seq a b) l st=yu P C b (ex P C a l st):=rfl
theorem LQ b l st:yu P C b (some (.next,l,st))=ex P C b l st:=rfl
theorem LR b v l st:yu P C b (some (.ret v,l,st))=some (.ret v,l,st):=rfl
theorem S05 b l st:yu P C b (some (.cont,l,st))=some (.cont,l,st):=rfl
theorem S06 e l st:ex P C (.expr e) l st=Ir l (ev P C e l st):=rfl
theorem S07 l v st:Ir l (some ([v],st))=some (.next,l,st):=rfl
theorem RJ p e l st:ex P C (.asg p e) l st=RG p l (ev P C e l st):=rfl
theorem RK p l v st:RG p l (some ([v],st))=Br st (cb p v l):=rfl
theorem RL l st:Br st (some l)=some (.next,l,st):=rfl
theorem LU e l st:ex P C (.ret e) l st=RH l (ev P C e l st):=rfl
theorem LV l v st:RH l (some ([v],st))=some (.ret v,l,st):=rfl
theorem S13 c(a b) l st:ex P C (.ite c a b) l st=ZO P C a b l (ev P C c l st):=rfl
theorem S14(a b) l t st:ZO P C a b l (some ([.bool t],st))=FD P C a b l st t:=rfl
theorem S15(a b) l st:FD P C a b l st true=ex P C a l st:=rfl
theorem S16(a b) l st:FD P C a b l st false=ex P C b l st:=rfl
theorem S17 c b l st:ex P C (.pJ c b) l st=wk (bR (fun l st=>dA (ev P C c l st)) (ex P C b) 1000 l st):=rfl
theorem ZS l st:wk (some (l,st))=some (.next,l,st):=rfl
theorem S19 p sk src b l st:ex P C (.loop p sk src b) l st=kFor P C p sk b l (ev P C src l st):=rfl
theorem S20 p sk b l vs st:kFor P C p sk b l (some (vs,st))=Bs P C p b l st (bU sk vs st):=rfl
theorem S21 p b l st it:Bs P C p b l st (some it)=wk (aw p it.guards (ex P C b) it.items l st):=rfl
theorem S22 l st:ex P C .cont l st=some (.cont,l,st):=rfl
theorem Km o k e l st:ex P C (.setattr o k e) l st=ZP P C o k l (ev P C e l st):=rfl
theorem Kn o k l v st:ZP P C o k l (some ([v],st))=Ki P k l v (ev P C o l st):=rfl
theorem Ko k l v(c i) st:Ki P k l v (some ([.obj c i],st))=Kh k l v i st (P.cls.lookup c) st[i]? :=rfl
theorem Kp k l v i st c fs:Kh k l v i st (some c) (some (.inst fs))=
 if c.attrs.contains k∧fs.length<100∧i≠0 then some (.next,l,st.set i (.inst (setField k v fs)))else none:=rfl
theorem RM(o i e) l st:ex P C (.setitem o i e) l st=ZQ P C o i l (ev P C e l st):=rfl
theorem RN(o i) l v st:ZQ P C o i l (some ([v],st))=Kl P C i l v (ev P C o l st):=rfl
theorem RO i l(v x) st:Kl P C i l v (some ([x],st))=Kk l v x (ev P C i l st):=rfl
theorem RP l v a k st:Kk l v (.lst a) (some ([.int k],st))=FE l v a k st st[a]? :=rfl
theorem LW l v a k st vs:FE l v a k st (some (.list vs))=Kj l v a st vs (idx k vs.length):=rfl
theorem RQ l v a st vs j:Kj l v a st vs (some j)=if a=0 then none else some (.next,l,st.set a (.list (vs.set j v))):=rfl
noncomputable def Ul(p:cD)(f:Run)(vs:List V)(r:XR):Option (Loc×St):=r.bind fun(fl,l2,ak)=>match fl with
    |.ret _=>none
    |_=>aw p [] f vs l2 ak
noncomputable def ZT(p:cD)(f:Run)(vs:List V)(st:St)(o:Option Loc):Option (Loc×St):=o.bind fun l1=>Ul p f vs (f l1 st)
theorem FG p f l st:aw p [] f [] l st=some (l,st):=if_pos fun g h=>nomatch h
theorem FH p f v vs l st:aw p [] f (v::vs) l st=ZT p f vs st (cb p v l):=if_pos fun g h=>nomatch h
theorem FJ p f vs st l1:ZT p f vs st (some l1)=Ul p f vs (f l1 st):=rfl
theorem Iu p f vs l st:Ul p f vs (some (.next,l,st))=aw p [] f vs l st:=rfl
theorem RT k v l:cb (.var k) v l=some (l.set k (some v)):=rfl
theorem RU ks vs l:cb (.vars ks) (.tup vs) l=cp ks vs l:=rfl
theorem A03 ks vs l:cb (.du ks) (.tup vs) l=if vs.length=ks.length then cp ks.reverse vs.reverse l else none:=rfl
theorem RV l:cp [] [] l=some l:=rfl
theorem RW k ks v vs l:cp (k::ks) (v::vs) l=cp ks vs (l.set k (some v)):=rfl
theorem LY op(a b) st:jP op (.int a) (.int b) st=(binI op a b).map fun c=>([.int c],st):=rfl
theorem Um op(i j) st:jP op (.lst i) (.lst j) st=match op with
  |.Add=>match st[i]? with
   |some (.list xs)=>match st[j]? with
    |some (.list ys)=>if xs.length+ys.length≤ah then some ([.lst st.length],st++[.list (xs++ys)])else none
    |_=>none
   |_=>none
  |_=>none:=rfl
theorem ZU op i n st:jP op (.lst i) (.int n) st=match op with
  |.Mult=>match st[i]? with
   |some (.list xs)=>match xs with
    |[x]=>if 0≤n∧n≤ah then some ([.lst st.length],st++[.list (List.replicate n.toNat x)])else none
    |_=>none
   |_=>none
  |_=>none:=rfl
theorem ZV st(x y):cm st .Eq x y=(vv st x y).map .bool:=rfl
theorem FK st(x y):cm st .NotEq x y=(vv st x y).map fun b=>.bool !b:=rfl
theorem Un st(a b):cm st .Lt (.int a) (.int b)=some (.bool (decide (a<b))):=rfl
theorem A13 st(a b):cm st .LtE (.int a) (.int b)=some (.bool (decide (a≤b))):=rfl
theorem A14 st(a b):cm st .Gt (.int a) (.int b)=some (.bool (decide (b<a))):=rfl
theorem RY st(a b):cm st .GtE (.int a) (.int b)=some (.bool (decide (b≤a))):=rfl
theorem A16 st:cm st .Is .none .none=some (.bool true):=rfl
theorem Uo st vs:cm st .Is (.tup vs) .none=some (.bool false):=rfl
theorem ZW st i:cm st .Is (.int i) .none=some (.bool false):=rfl
theorem A19 st i:cm st .Is (.fn i) .none=some (.bool false):=rfl
theorem A22 st:cm st .IsNot .none .none=some (.bool false):=rfl
theorem A24 st i:cm st .IsNot (.int i) .none=some (.bool true):=rfl
theorem A26 st(c i):cm st .IsNot (.obj c i) .none=some (.bool true):=rfl
theorem LZ vs k st:nW (.tup vs) (.int k) st=(idx k vs.length).bind fun j=>vs[j]? :=rfl
theorem ZX l k st:nW (.lst l) (.int k) st=match st[l]? with
  |some (.list vs)=>(idx k vs.length).bind fun j=>vs[j]?
  |_=>none:=rfl
theorem A31 vs st:nX .len [.tup vs] st=some ([.int vs.length],st):=rfl
theorem Iv l st:nX .len [.lst l] st=match st[l]? with|some (.list vs)=>some ([.int vs.length],st)|_=>none:=rfl
theorem W5 i st:nX .int [.int i] st=some ([.int i],st):=rfl
theorem W6 b st:nX .int [.bool b] st=some ([.int (if b then 1 else 0)],st):=rfl
theorem RZ(a b) st:nX .ja [.int a,.int b] st=some ([.int (if a<b then b else a)],st):=rfl
theorem A36(a b) st:nX .gj [.int a,.int b] st=some ([.int (if b<a then b else a)],st):=rfl
theorem A37 l st:nX .ja [.lst l] st=match st[l]? with
  |some (.list vs)=>match intsOf vs with|some (a::r)=>some ([.int (fA a r)],st)|_=>none
  |_=>none:=rfl
theorem A38 l st:nX .gj [.lst l] st=match st[l]? with
  |some (.list vs)=>match intsOf vs with|some (a::r)=>some ([.int (fD a r)],st)|_=>none
  |_=>none:=rfl
theorem DS l st:nX .tuple [.lst l] st=match st[l]? with|some (.list vs)=>some ([.tup vs],st)|_=>none:=rfl
theorem A40 vs st:nX .tuple [.tup vs] st=some ([.tup vs],st):=rfl
theorem A41 l st:nX .list [.lst l] st=match st[l]? with|some (.list vs)=>some ([.lst st.length],st++[.list vs])|_=>none:=rfl
theorem A42 l st:nX .sorted [.lst l] st=match st[l]? with
  |some (.list vs)=>if vs.all c9∧vs.length<64 then some ([.lst st.length],st++[.list (vs.mergeSort cn)])else none
  |_=>none:=rfl
theorem ZY vs st:fT (.tup vs) st=some ⟨vs,[]⟩:=rfl
theorem ZZ l st:fT (.lst l) st=match st[l]? with|some (.list vs)=>some ⟨vs,[(l,vs)]⟩|_=>none:=rfl
theorem A45(c i k) st:d8 P (.obj c i) k st=match P.cls.lookup c with
  |some c=>match st[i]? with
   |some (.inst fs)=>(c.meths.lookup k).isSome&&(fs.lookup k).isNone
   |_=>false
  |none=>false:=rfl
theorem Z1(l k) st:d8 P (.lst l) k st=match st[l]? with
  |some (.list _)=>decide (l≠0)&&(k=dt ||k=dM ||k=pK)
  |_=>false:=rfl
theorem A47(c' i k) args st:iw P C (.obj c' i) k args st=match P.cls.lookup c' with
  |some c=>match c.meths.lookup k with
   |some f=>qL (C f (.obj c' i::args) st)
   |none=>none
  |none=>none:=rfl
theorem Z2(l k) args st:iw P C (.lst l) k args st=match st[l]? with
  |some (.list vs)=>
   if k=dt then(match args with
    |[x]=>if vs.length<ah then some ([.none],st.set l (.list (vs++[x])))else none
    |_=>none)
   else if k=dM then(match args with
    |[y]=>match y with
     |.lst m=>match st[m]? with
      |some (.list ws)=>if m=l then none else if vs.length+ws.length<ah then some ([.none],st.set l (.list (vs++ws)))else none
      |_=>none
     |_=>none
    |_=>none)
   else if k=pK then(match args with
    |[]=>match vs.getLast? with|some x=>some ([x],st.set l (.list vs.dropLast))|none=>none
    |_=>none)
   else none
  |_=>none:=rfl
theorem Kq k v:setField k v []=[(k,v)]:=rfl
theorem R0(k j)(v x) r:setField k v ((j,x)::r)=if j=k then(j,v)::r else(j,x)::setField k v r:=rfl
theorem W7(a:V)(st:St):Bl (some ([a],st))=some ([.lst st.length],st++[.list [a]]):=rfl
theorem Z3(a b c:V)(st:St):Bl (some ([a,b,c],st))=some ([.lst st.length],st++[.list [a,b,c]]):=rfl
theorem T09 vs st(h:vs.length≤100000):J9 (some (vs,st))=some ([.tup vs],st):=by rw[E09,if_pos (show vs.length≤ah from h)]
theorem T19 vs st(h:vs.length≤100000):Bl (some (vs,st))=some ([.lst st.length],st++[.list vs]):=by simp only[E11,if_pos (show vs.length≤ah from h)]
theorem R9 vs st(h:vs.length≤100000):Fy (some (vs,st))=some ([.lst st.length],st++[.list vs]):=by simp only[E66,if_pos (show vs.length≤ah from h)]
noncomputable def iT(k:Nat)(st:St)(o:Option Cell):RR:=match o with|some (.inst fs)=>qK st (fs.lookup k)|_=>none
theorem T30 k st fs:iT k st (some (.inst fs))=qK st (fs.lookup k):=rfl
theorem dF{P:Pg}{c i k:Nat}{st:St}{ci:CI}(h1:P.cls.lookup c=some ci)(h2:ci.attrs.contains k=true):wj P k (some ([.obj c i],st))=iT k st st[i]? :=by
 show Kb k st (P.cls.lookup c) st[i]? =_;refine h1.symm▸?_;delta Kb iT;cases st[i]? with
 |none=>rfl
 |some o=>cases o with
  |list vs=>rfl
  |inst fs=>dsimp only;refine(if_pos h2).symm▸?_;rfl
theorem Kr i st:wj PG 3 (some ([.obj 161 i],st))=iT 3 st st[i]? :=dF rfl rfl
theorem Ks i st:wj PG 5 (some ([.obj 161 i],st))=iT 5 st st[i]? :=dF rfl rfl
theorem FL i st:wj PG 25 (some ([.obj 304 i],st))=iT 25 st st[i]? :=dF rfl rfl
theorem k8 i st:wj PG 29 (some ([.obj 403 i],st))=iT 29 st st[i]? :=dF rfl rfl
theorem wm i st:wj PG 31 (some ([.obj 403 i],st))=iT 31 st st[i]? :=dF rfl rfl
theorem FO i st:wj PG 32 (some ([.obj 403 i],st))=iT 32 st st[i]? :=dF rfl rfl
theorem Bt i st:wj PG 5 (some ([.obj 514 i],st))=iT 5 st st[i]? :=dF rfl rfl
theorem Bu i st:wj PG 6 (some ([.obj 514 i],st))=iT 6 st st[i]? :=dF rfl rfl
theorem Bv i st:wj PG 3 (some ([.obj 514 i],st))=iT 3 st st[i]? :=dF rfl rfl
theorem Bw i st:wj PG 4 (some ([.obj 514 i],st))=iT 4 st st[i]? :=dF rfl rfl
theorem qM i st:wj PG 36 (some ([.obj 514 i],st))=iT 36 st st[i]? :=dF rfl rfl
theorem wo i st:wj PG 37 (some ([.obj 514 i],st))=iT 37 st st[i]? :=dF rfl rfl
end
section
open PySem
noncomputable def res(r:Option (Fl×Loc×St)):Option (Fl×St):=match r with
 |some (f,_,s)=>some (f,s)
 |none=>none
theorem res_some f l s:res (some (f,l,s))=some (f,s):=rfl
theorem oP(h:res r=some (f,s)){GG:Prop}(kk:∀l,r=some (f,l,s)→GG):GG:=by
 rcases r with _|⟨a,l,b⟩
 ·cases h
 ·cases h;exact kk _ rfl
theorem uM x st:bU .seq [x] st=fT x st:=rfl
end
section
open PySem
variable{α:Type}
def oo(o:Option α)(f:α→Prop):Prop:=match o with
 |some a=>f a
 |none=>True
def must(m:Nat)(o:Option α)(k:α→Nat→Prop):Prop:=∀a,o=some a→k a m
def ask(m:Nat)(o:Option α)(k:α→Nat→Prop):Prop:=cond (Nat.beq (m % 2) 1) (must (m / 2) o k) (oo o fun a=>k a (m / 2))
def sJ(m:Nat)(c:Bool)(k:Bool→Nat→Prop):Prop:=cond (Nat.beq (m % 2) 1) (∀b,c=b→k b (m / 2)) (k c (m / 2))
def FP(m:Nat)(A B:Nat→Prop):Prop:=cond (Nat.beq (m % 2) 1) (A (m / 2)) (B (m / 2))
theorem wq(h1:∀m,A m)(h2:∀m,B m):FP m A B:=by
 unfold FP;cases Nat.beq (m % 2) 1
 ·exact h2 _
 ·exact h1 _
theorem cy{o:Option α}{f:α→Prop}(h:∀a,o=some a→f a):oo o f:=match o,h with
 |some a,h=>h a rfl
 |none,_=>trivial
theorem eW{o:Option α}(h:∀a m,o=some a→k a m):ask m o k:=by
 unfold ask;cases Nat.beq (m % 2) 1
 ·exact cy fun a e=>h a _ e
 ·exact fun a e=>h a _ e
theorem hV(h:∀m,k c m):sJ m c k:=by
 unfold sJ;cases Nat.beq (m % 2) 1
 ·exact h _
 ·exact fun a e=>e▸h _
end
section
open PySem
def w1(vs:List V)(f:V→Prop):Prop:=match vs with
 |[v]=>f v
 |_=>True
theorem bp{vs:List V}{f:V→Prop}(h:∀v,vs=[v]→f v):w1 vs f:=match vs,h with
 |[],_=>trivial
 |[v],h=>h v rfl
 |_::_::_,_=>trivial
noncomputable def Uq(x:Cell):Option (List (Nat×V)):=match x with
 |.inst fs=>some fs
 |_=>none
noncomputable def Ur(x:Cell):Option (List V):=match x with
 |.list fs=>some fs
 |_=>none
theorem Kt(h:Uq x=some b):x=.inst b:=by cases x<;>cases h<;>rfl
theorem Ku(h:Ur x=some b):x=.list b:=by cases x<;>cases h<;>rfl
abbrev KE:=List V→St→Nat→Prop
def Z4(op:Operator)(a b:Int)(m:Nat)(k:Int→Nat→Prop):Prop:=match op with
 |.Add=>k (a+b) m
 |.Sub=>k (a - b) m
 |op=>must m (binI op a b) k
theorem Kv(h:∀c m,binI op a b=some c→k c m):Z4 op a b m k:=by
 cases op<;>first|exact h _ _ rfl|exact fun c e=>h c m e
def Kw(op:Operator)(x y:V)(st:St)(m:Nat)(k:KE):Prop:=match vI x,vI y with
 |some a,some b=>Z4 op a b m fun c m=>k [.int c] st m
 |_,_=>must m (jP op x y st) fun r m=>k r.1 r.2 m
theorem FQ{op:Operator}{x y:V}{st:St}{m:Nat}{k:KE}(h:∀vs af m,jP op x y st=some (vs,af)→k vs af m):Kw op x y st m k:=by
 unfold Kw;cases hx:vI x with
 |none=>exact fun r e=>h r.1 r.2 m e
 |some a=>cases hy:vI y with
  |none=>exact fun r e=>h r.1 r.2 m e
  |some b=>
   obtain rfl:=oq hx;obtain rfl:=oq hy;exact Kv fun c m e=>h _ _ _ (congrArg (Option.map fun c=>([V.int c],st)) e)
end
section
open PySem
variable(p:cD)(cond elt:Loc→St→Nat→KE→Prop)
def wu:List V→Loc→St→Nat→KE→Prop
 |[],_,st,m,k=>k [] st m
 |v::vs,l,st,m,k=>oo (cb p v l) fun l1=>cond l1 st m fun c st m=>w1 c fun c=>oo (vB c) fun c=>sJ m c fun c m=>match c with
  |true=>elt l1 st m fun x st m=>w1 x fun x=>wu vs l1 st m fun r st m=>k (x::r) st m
  |false=>wu vs l1 st m k
end
section
open PySem
theorem Sb st:au [] st:=fun g h=>nomatch h
theorem Bx{p:cD}{gs:List (Nat×List V)}(hg:gs=[]){wc we:Loc→St→Nat→KE→Prop}{c e:Loc→St→Option (List V×St)}
  (hc:∀l st m k,(∀vs af m,c l st=some (vs,af)→k vs af m)→wc l st m k) (he:∀l st m k,(∀vs af m,e l st=some (vs,af)→k vs af m)→we l st m k):
  ∀(vs:List V) (l:Loc) (st:St) (m:Nat) (k:KE),(∀r af m,aB p gs (fun l st=>dA (c l st)) (fun l st=>one (e l st)) vs l st=some (r,af)→k r af m)→wu p wc we vs l st m k:=by
 subst hg;intro vs
 induction vs with
 |nil=>exact fun l st m k h=>h _ _ _ (Bq p _ _ l st)
 |cons v vs ih=>
  refine fun l st m k h=>cy fun l1 e1=>hc _ _ _ _ fun q st1 m1 e2=>bp fun b hb=>cy fun b' By=>hV fun m2=>?_;haveI e3:dA (c l1 st)=some (b',st1):=by simp only[e2,hb,rG By];rfl
  haveI s1:aB p [] (fun l st=>dA (c l st)) (fun l st=>one (e l st)) (v::vs) l st=FC p (fun l st=>dA (c l st)) (fun l st=>one (e l st)) vs l1 st1 b':=by simp only[zf,e1,zg,e3,zh]
  cases b' with
  |true=>
   refine he _ _ _ _ fun x ak m3 e4=>bp fun x' hx=>ih _ _ _ _ fun r cO m4 e5=>h _ _ _ ?_;simp only[s1,zi,e4,hx];exact congrArg (Uk x') e5
  |false=>exact ih _ _ _ _ fun r cO m4 e5=>h _ _ _ (s1.trans e5)
end
section
open PySem
variable(P:Pg)(C:bj)
def FR(k:Nat)(st:St)(x:V)(m:Nat)(f:CI→Nat→List (Nat×V)→Nat→Prop):Prop:=oo (vO x) fun y=>oo (P.cls.lookup y.1) fun c=>must m (st[y.2]?.bind Uq) fun fs m=>f c y.2 fs m
def wE:E→Loc→St→Nat→KE→Prop
 |.stuck,_,_,_,_=>True
 |.cst v,_,st,m,k=>k [v] st m
 |.loc j,l,st,m,k=>oo (l[j]?) fun o=>oo o fun v=>k [v] st m
 |.nil,_,st,m,k=>k [] st m
 |.cons a b,l,st,m,k=>wE a l st m fun vs st m=>w1 vs fun v=>wE b l st m fun ws st m=>k (v::ws) st m
 |.tup es,l,st,m,k=>wE es l st m fun vs st m=>cond (Nat.ble vs.length ah) (k [.tup vs] st m) True
 |.lst es,l,st,m,k=>wE es l st m fun vs st m=>cond (Nat.ble vs.length ah) (k [.lst st.length] (st++[.list vs]) m) True
 |.bin op a b,l,st,m,k=>wE a l st m fun xs st m=>w1 xs fun x=>wE b l st m fun ys st m=>w1 ys fun y=>Kw op x y st m k
 |.neg a,l,st,m,k=>wE a l st m fun xs st m=>w1 xs fun x=>oo (vI x) fun i=>k [.int (-i)] st m
 |.cmp op a b,l,st,m,k=>wE a l st m fun xs st m=>w1 xs fun x=>wE b l st m fun ys st m=>w1 ys fun y=>ask m (cm st op x y) fun c m=>k [c] st m
 |.chain nM gp a b c,l,st,m,k=>wE a l st m fun xs st m=>w1 xs fun x=>wE b l st m fun ys st m=>w1 ys fun y=>ask m (cm st nM x y) fun q m=>oo (vB q) fun q=>sJ m q fun q m=>match q with
  |true=>wE c l st m fun zs st m=>w1 zs fun z=>ask m (cm st gp y z) fun c m=>k [c] st m
  |false=>k [.bool false] st m
 |.and a b,l,st,m,k=>wE a l st m fun xs st m=>w1 xs fun x=>oo (vB x) fun x=>sJ m x fun x m=>match x with
  |true=>wE b l st m fun ys st m=>w1 ys fun y=>oo (vB y) fun y=>k [.bool y] st m
  |false=>k [.bool false] st m
 |.or a b,l,st,m,k=>wE a l st m fun xs st m=>w1 xs fun x=>oo (vB x) fun x=>sJ m x fun x m=>match x with
  |true=>k [.bool true] st m
  |false=>wE b l st m fun ys st m=>w1 ys fun y=>oo (vB y) fun y=>k [.bool y] st m
 |.not a,l,st,m,k=>wE a l st m fun xs st m=>w1 xs fun x=>oo (vB x) fun x=>k [.bool !x] st m
 |.ite c a b,l,st,m,k=>wE c l st m fun xs st m=>w1 xs fun x=>oo (vB x) fun x=>sJ m x fun x m=>match x with
  |true=>wE a l st m k
  |false=>wE b l st m k
 |.sub a i,l,st,m,k=>wE a l st m fun xs st m=>w1 xs fun x=>wE i l st m fun ys st m=>w1 ys fun y=>ask m (nW x y st) fun v m=>k [v] st m
 |.slice q a,l,st,m,k=>wE a l st m fun xs st m=>w1 xs fun x=>ask m (d7 q x st) fun r m=>k r.1 r.2 m
 |.attr a j,l,st,m,k=>wE a l st m fun xs st m=>w1 xs fun x=>FR P j st x m fun c _ fs m=>cond (c.attrs.contains j) (oo (fs.lookup j) fun v=>k [v] st m) True
 |.call f args,l,st,m,k=>wE f l st m fun xs st m=>w1 xs fun x=>wE args l st m fun vs st m=>oo (vF x) fun a=>must m (C a vs st) fun r m=>k [r.1] r.2 m
 |.az b args,l,st,m,k=>wE args l st m fun vs st m=>ask m (nX b vs st) fun r m=>k r.1 r.2 m
 |.dK args,l,st,m,k=>wE args l st m fun vs st m=>ask m (bU .zip vs st) fun it m=>it.items.length≤ah→k [.lst st.length] (st++[.list it.items]) m
 |.aF o j args,l,st,m,k=>wE o l st m fun xs st m=>w1 xs fun x=>match vO x with
  |some _=>FR P j st x m fun c i fs m=>cond ((c.meths.lookup j).isSome&&(fs.lookup j).isNone) (wE args l st m fun vs st m=>oo (c.meths.lookup j) fun f=>must m (C f (x::vs) st) fun r m=>k [r.1] r.2 m) True
  |none=>d8 P x j st=true→wE args l st m fun vs st m=>must m (iw P C x j vs st) fun r m=>k r.1 r.2 m
 |.comp c7 p sk src co el,l,st,m,k=>wE src l st m fun vs st m=>ask m (bU sk vs st) fun it m=>
   let j:=fun(vs:List V) (st:St) (m:Nat)=>vs.length≤ah→k [.lst st.length] (st++[.list vs]) m
   match it.guards with
   |[]=>FP m (fun m=>must m (aB p it.guards (fun l' af=>dA (ev P C co l' af)) (fun l' af=>one (ev P C el l' af)) it.items (a9 c7 l) st) fun r m=>j r.1 r.2 m)
     fun m=>wu p (wE co) (wE el) it.items (a9 c7 l) st m j
   |_=>must m (aB p it.guards (fun l' af=>dA (ev P C co l' af)) (fun l' af=>one (ev P C el l' af)) it.items (a9 c7 l) st) fun r m=>j r.1 r.2 m
 |.iu c7 p sk src p2 iI el,l,st,m,k=>wE src l st m fun vs st m=>ask m (bU sk vs st) fun it m=>
   must m (bf p it.guards (fun l' af=>(one (ev P C iI l' af)).bind fun(x,ak)=>(fT x ak).bind fun pL=>
     cG p2 pL.guards (fun l' af=>one (ev P C el l' af)) pL.items l' ak) it.items (a9 c7 l) st) fun r m=>r.1.length≤ah→k [.lst r.2.length] (r.2++[.list r.1]) m
end
section
open PySem
variable(P:Pg)(C:bj)
variable{P}{C}
theorem qN(h:∀c i ci fs m,x=.obj c i→P.cls.lookup c=some ci→st[i]? =some (.inst fs)→f ci i fs m):FR P j st x m f:=
 cy fun y e1=>cy fun ci e2=>fun fs e3=>by
  obtain⟨q,h1,h2⟩:=Option.bind_eq_some_iff.mp e3;exact h _ _ _ _ _ (MV e1) e2 (h1.trans (congrArg some (Kt h2)))
theorem gy(e:E):∀(l:Loc) (st:St) (m:Nat) (k:KE),(∀vs af m,ev P C e l st=some (vs,af)→k vs af m)→wE P C e l st m k:=by
 haveI o1:∀{r:RR} {vs v st},r=some (vs,st)→vs=[v]→one r=some (v,st):=fun h1 h2=>by refine h1.symm▸?_;refine h2.symm▸?_;rfl
 haveI t1:∀{r:RR} {vs x b st},r=some (vs,st)→vs=[x]→vB x=some b→dA r=some (b,st):=fun h1 h2 h3=>by refine h1.symm▸?_;refine h2.symm▸?_;refine(rG h3).symm▸?_;rfl
 induction e with
 |stuck=>exact fun l st m k h=>trivial
 |cst v=>
  exact fun l st m k h=>h _ _ _ rfl
 |loc j=>
  exact fun l st m k h=>cy fun o e1=>cy fun v e2=>h _ _ _ (by simp only[V03,e1,e2])
 |nil=>exact fun l st m k h=>h _ _ _ rfl
 |cons a b iA sL=>
  exact fun l st m k h=>iA _ _ _ _ fun vs st1 m1 e1=>bp fun v ev=>sL _ _ _ _ fun ws ak m2 e2=>h _ _ _ (by simp only[V05,o1 e1 ev];exact congrArg (Option.map _) e2)
 |tup es ih=>
  exact fun l st m k h=>ih _ _ _ _ fun vs st1 m1 e1=>by
   cases q:Nat.ble vs.length ah with
   |true=>exact h _ _ _ (by simp only[V06,e1];exact if_pos (Nat.le_of_ble_eq_true q))
   |false=>trivial
 |lst es ih=>
  exact fun l st m k h=>ih _ _ _ _ fun vs st1 m1 e1=>by
   cases q:Nat.ble vs.length ah with
   |true=>exact h _ _ _ (by simp only[V07,e1];exact if_pos (Nat.le_of_ble_eq_true q))
   |false=>trivial
 |bin op a b iA sL=>
  exact fun l st m k h=>iA _ _ _ _ fun vs st1 m1 e1=>bp fun x hx=>sL _ _ _ _ fun ws ak m2 e2=>bp fun y hy=>FQ fun r cO m3 e3=>h _ _ _ (by simp only[V08,o1 e1 hx];exact(congrArg (Option.bind · _) (o1 e2 hy)).trans e3)
 |neg a iA=>
  exact fun l st m k h=>iA _ _ _ _ fun vs st1 m1 e1=>bp fun x hx=>cy fun i hi=>h _ _ _ (by rw[V09,o1 e1 hx,oq hi];rfl)
 |cmp op a b iA sL=>
  exact fun l st m k h=>iA _ _ _ _ fun vs st1 m1 e1=>bp fun x hx=>sL _ _ _ _ fun ws ak m2 e2=>bp fun y hy=>eW fun c m3 e3=>h _ _ _ (by simp only[V10,o1 e1 hx];exact(congrArg (Option.bind · _) (o1 e2 hy)).trans (congrArg (Option.map _) e3))
 |chain nM gp a b c iA sL Se=>
  exact fun l st m k h=>iA _ _ _ _ fun vs st1 m1 e1=>bp fun x hx=>sL _ _ _ _ fun ws ak m2 e2=>bp fun y hy=>eW fun q m3 e3=>cy fun q' hq=>hV fun m4=>by
   haveI e3:=(rG hq)▸e3
   haveI s1:ev P C (.chain nM gp a b c) l st=match some (V.bool q')with
    |some (.bool true)=>(one (ev P C c l ak)).bind fun(z,cO)=>(cm cO gp y z).map fun c=>([c],cO)
    |some (.bool false)=>some ([.bool false],ak)
    |_=>none:=by rw[V11,o1 e1 hx,←e3];exact congrArg (Option.bind · _) (o1 e2 hy)
   cases q' with
   |true=>exact Se _ _ _ _ fun zs cO m5 e5=>bp fun z hz=>eW fun c m6 e6=>h _ _ _ (s1.trans ((congrArg (Option.bind · _) (o1 e5 hz)).trans (congrArg (Option.map _) e6)))
   |false=>exact h _ _ _ s1
 |and a b iA sL=>
  exact fun l st m k h=>iA _ _ _ _ fun vs st1 m1 e1=>bp fun x hx=>cy fun q hq=>hV fun m2=>by
   have s1:ev P C (.and a b) l st=if q then(dA (ev P C b l st1)).map fun(c,ak)=>([.bool c],ak)else some ([.bool false],st1):=by rw[V12,t1 e1 hx hq];rfl
   cases q with
   |true=>exact sL _ _ _ _ fun ys ak m3 e2=>bp fun y hy=>cy fun z hz=>h _ _ _ (s1.trans (congrArg (Option.map _) (t1 e2 hy hz)))
   |false=>exact h _ _ _ s1
 |or a b iA sL=>
  exact fun l st m k h=>iA _ _ _ _ fun vs st1 m1 e1=>bp fun x hx=>cy fun q hq=>hV fun m2=>by
   have s1:ev P C (.or a b) l st=if q then some ([.bool true],st1)else(dA (ev P C b l st1)).map fun(c,ak)=>([.bool c],ak):=by rw[V13,t1 e1 hx hq];rfl
   cases q with
   |false=>exact sL _ _ _ _ fun ys ak m3 e2=>bp fun y hy=>cy fun z hz=>h _ _ _ (s1.trans (congrArg (Option.map _) (t1 e2 hy hz)))
   |true=>exact h _ _ _ s1
 |not a iA=>
  exact fun l st m k h=>iA _ _ _ _ fun vs st1 m1 e1=>bp fun x hx=>cy fun q hq=>h _ _ _ (by simp only[V14,t1 e1 hx hq];rfl)
 |ite c a b Se iA sL=>
  exact fun l st m k h=>Se _ _ _ _ fun vs st1 m1 e1=>bp fun x hx=>cy fun q hq=>hV fun m2=>by
   have s1:ev P C (.ite c a b) l st=if q then ev P C a l st1 else ev P C b l st1:=by simp only[V15,t1 e1 hx hq];rfl
   cases q with
   |true=>exact iA _ _ _ _ fun vs ak m3 e2=>h _ _ _ (s1.trans e2)
   |false=>exact sL _ _ _ _ fun vs ak m3 e2=>h _ _ _ (s1.trans e2)
 |sub a i iA ihi=>
  exact fun l st m k h=>iA _ _ _ _ fun vs st1 m1 e1=>bp fun x hx=>ihi _ _ _ _ fun ws ak m2 e2=>bp fun y hy=>eW fun c m3 e3=>h _ _ _ (by simp only[V16,o1 e1 hx];exact(congrArg (Option.bind · _) (o1 e2 hy)).trans (congrArg (Option.map _) e3))
 |slice q a iA=>
  exact fun l st m k h=>iA _ _ _ _ fun vs st1 m1 e1=>bp fun x hx=>eW fun r m3 e3=>h _ _ _ (by simp only[V17,o1 e1 hx];exact e3)
 |attr a j iA=>
  exact fun l st m k h=>iA _ _ _ _ fun vs st1 m1 e1=>bp fun x hx=>qN fun c i ci fs m2 e2 e3 e4=>by
   cases q:ci.attrs.contains j with
   |true=>exact cy fun v hv=>h _ _ _ (by rw[V18,o1 e1 hx,e2];show(match P.cls.lookup c,st1[i]? with|some c,some (.inst fs)=>if c.attrs.contains j then(fs.lookup j).map fun v=>([v],st1)else none|_,_=>none)=_;exact(e3.symm▸(e4.symm▸(if_pos q).trans (congrArg (Option.map _) hv))))
   |false=>trivial
 |call f args ihf iA=>
  exact fun l st m k h=>ihf _ _ _ _ fun vs st1 m1 e1=>bp fun x hx=>iA _ _ _ _ fun ws ak m2 e2=>cy fun a ha=>fun r e3=>h _ _ _ (by rw[V19,o1 e1 hx,HJ ha];exact(congrArg (Option.bind · _) e2).trans (congrArg (Option.map _) e3))
 |az b args ih=>
  exact fun l st m k h=>ih _ _ _ _ fun vs st1 m1 e1=>eW fun r m3 e3=>h _ _ _ (by simp only[V20,e1];exact e3)
 |dK args ih=>
  exact fun l st m k h=>ih _ _ _ _ fun vs st1 m1 e1=>eW fun it m3 e3=>fun hl=>h _ _ _ (by simp only[V21,e1];exact(congrArg (Option.bind · _) e3).trans (if_pos hl))
 |aF o j args iho iA=>
  intro l st m k h;refine iho _ _ _ _ fun vs st1 m1 e1=>bp fun x hx=>?_;have s1:d8 P x j st1=true→ev P C (.aF o j args) l st=(ev P C args l st1).bind fun(vs,ak)=>iw P C x j vs ak:=fun q=>by rw[YN,o1 e1 hx];exact if_pos q
  cases vO x with
  |none=>exact fun q=>iA _ _ _ _ fun ws ak m2 e2=>fun r e3=>h _ _ _ ((s1 q).trans ((congrArg (Option.bind · _) e2).trans e3))
  |some _=>
   refine qN fun c i ci fs m2 e2 e3 e4=>?_;cases q:(ci.meths.lookup j).isSome&&(fs.lookup j).isNone with
   |false=>trivial
   |true=>
    refine iA _ _ _ _ fun ws ak m2 e5=>cy fun f hf=>fun r e6=>h _ _ _ ((s1 ?_).trans ((congrArg (Option.bind · _) e5).trans ?_))
    ·rw[e2];show(match P.cls.lookup c with|some c=>(match st1[i]? with|some (.inst fs)=>(c.meths.lookup j).isSome&&(fs.lookup j).isNone|_=>false)|none=>false)=true;exact(e3.symm▸(e4.symm▸q))
    ·rw[e2]at e6⊢
     show((match P.cls.lookup c with|some d=>(match d.meths.lookup j with|some f=>(C f (.obj c i::ws) ak).map fun(v,st)=>([v],st)|none=>none)|none=>none):RR)=_;refine e3.symm▸?_;show((match ci.meths.lookup j with|some f=>(C f (.obj c i::ws) ak).map fun(v,st)=>([v],st)|none=>none):RR)=_;exact(hf.symm▸(congrArg (Option.map _) e6))
 |comp c7 p sk src co el W8 Se Z5=>
  intro l st m k h;refine W8 _ _ _ _ fun vs st1 m1 e1=>eW fun it m3 e3=>?_
  haveI s1:∀(r:List V) (ak:St) (m:Nat),aB p it.guards (fun l' af=>dA (ev P C co l' af)) (fun l' af=>one (ev P C el l' af)) it.items (a9 c7 l) st1=some (r,ak)→r.length≤ah→k [.lst ak.length] (ak++[.list r]) m:=fun r ak m e4 hl=>h _ _ _ (by
    simp only[V23,e1];exact(congrArg (Option.bind · _) e3).trans ((congrArg (Option.bind · _) e4).trans (if_pos hl)))
  obtain⟨items,guards⟩:=it;cases guards with
  |cons g gs=>exact fun r e4=>s1 r.1 r.2 _ e4
  |nil=>
   exact wq (fun m r e4=>s1 r.1 r.2 _ e4) fun m=>Bx rfl Se Z5 _ _ _ _ _ fun r ak m e4=>s1 r ak m e4
 |iu c7 p sk src p2 iI el W8 aaf Z5=>
  exact fun l st m k h=>W8 _ _ _ _ fun vs st1 m1 e1=>eW fun it m3 e3=>fun r e4 hl=>h _ _ _ (by
    simp only[V24,e1];exact(congrArg (Option.bind · _) e3).trans ((congrArg (Option.bind · _) e4).trans (if_pos hl)))
end
section
open PySem
abbrev KF:=Fl→Loc→St→Nat→Prop
def Kx(p:cD)(f:Loc→St→Nat→KF→Prop):List V→Loc→St→Nat→(Loc→St→Nat→Prop)→Prop
 |[],l,st,m,k=>k l st m
 |v::vs,l,st,m,k=>oo (cb p v l) fun l1=>f l1 st m fun fl l2 ak m=>match fl with
  |.ret _=>True
  |_=>Kx p f vs l2 ak m k
theorem FT{p:cD}{f:Loc→St→Nat→KF→Prop}{g:Run}(hf:∀l st m k,(∀fl l' af m,g l st=some (fl,l',af)→k fl l' af m)→f l st m k):
  ∀(vs:List V) (l:Loc) (st:St) (m:Nat) (k:Loc→St→Nat→Prop),(∀l' af m,aw p [] g vs l st=some (l',af)→k l' af m)→Kx p f vs l st m k:=fun vs=>by
 induction vs with
 |nil=>exact fun l st m k h=>h _ _ _ (FG p g l st)
 |cons v vs ih=>
  refine fun l st m k h=>cy fun l1 e1=>hf _ _ _ _ fun fl l2 ak m2 e2=>?_;have s1:aw p [] g (v::vs) l st=Ul p g vs (some (fl,l2,ak)):=by simp only[FH,e1,FJ,e2]
  cases fl with
  |ret _=>trivial
  |next=>exact ih _ _ _ _ fun l' af m e=>h _ _ _ (s1.trans e)
  |cont=>exact ih _ _ _ _ fun l' af m e=>h _ _ _ (s1.trans e)
end
section
open PySem
variable(P:Pg)(C:bj)
def wS:S→Loc→St→Nat→KF→Prop
 |.stuck,_,_,_,_=>True
 |.skip,l,st,m,k=>k .next l st m
 |.seq a b,l,st,m,k=>wS a l st m fun fl l st m=>match fl with
  |.next=>wS b l st m k
  |fl=>k fl l st m
 |.expr e,l,st,m,k=>wE P C e l st m fun xs st m=>w1 xs fun _=>k .next l st m
 |.asg p e,l,st,m,k=>wE P C e l st m fun xs st m=>w1 xs fun x=>oo (cb p x l) fun l=>k .next l st m
 |.setattr o j e,l,st,m,k=>wE P C e l st m fun vs st m=>w1 vs fun v=>wE P C o l st m fun xs st m=>w1 xs fun x=>FR P j st x m fun c i fs m=>cond (c.attrs.contains j&&Nat.blt fs.length 100) (i≠0→k .next l (st.set i (.inst (setField j v fs))) m) True
 |.setitem o i e,l,st,m,k=>wE P C e l st m fun vs st m=>w1 vs fun v=>wE P C o l st m fun xs st m=>w1 xs fun x=>wE P C i l st m fun ys st m=>w1 ys fun y=>
   oo (vL x) fun a=>oo (vI y) fun q=>must m (st[a]?.bind Ur) fun vs m=>must m (idx q vs.length) fun j m=>a≠0→k .next l (st.set a (.list (vs.set j v))) m
 |.ret e,l,st,m,k=>wE P C e l st m fun xs st m=>w1 xs fun x=>k (.ret x) l st m
 |.ite c a b,l,st,m,k=>wE P C c l st m fun xs st m=>w1 xs fun x=>oo (vB x) fun x=>sJ m x fun x m=>match x with
  |true=>wS a l st m k
  |false=>wS b l st m k
 |.pJ c b,l,st,m,k=>must m (bR (fun l st=>dA (ev P C c l st)) (ex P C b) 1000 l st) fun r m=>k .next r.1 r.2 m
 |.loop p sk src b,l,st,m,k=>wE P C src l st m fun vs st m=>ask m (bU sk vs st) fun it m=>match it.guards with
   |[]=>FP m (fun m=>must m (aw p it.guards (ex P C b) it.items l st) fun r m=>k .next r.1 r.2 m) fun m=>Kx p (wS b) it.items l st m fun l st m=>k .next l st m
   |_=>must m (aw p it.guards (ex P C b) it.items l st) fun r m=>k .next r.1 r.2 m
 |.cont,l,st,m,k=>k .cont l st m
end
section
open PySem
variable(P:Pg)(C:bj)
variable{P}{C}
theorem Iw(s:S):∀(l:Loc) (st:St) (m:Nat) (k:KF),(∀fl l' af m,ex P C s l st=some (fl,l',af)→k fl l' af m)→wS P C s l st m k:=by
 haveI o1:∀{r:RR} {vs v st},r=some (vs,st)→vs=[v]→one r=some (v,st):=fun h1 h2=>by refine h1.symm▸?_;refine h2.symm▸?_;rfl
 induction s with
 |stuck=>exact fun l st m k h=>trivial
 |skip=>exact fun l st m k h=>h _ _ _ _ rfl
 |cont=>exact fun l st m k h=>h _ _ _ _ rfl
 |seq a b iA sL=>
  refine fun l st m k h=>iA _ _ _ _ fun fl l1 st1 m1 e1=>?_;haveI s1:ex P C (.seq a b) l st=yu P C b (some (fl,l1,st1)):=congrArg (yu P C b) e1;cases fl with
  |next=>exact sL _ _ _ _ fun fl l2 ak m2 e2=>h _ _ _ _ (s1.trans e2)
  |cont=>exact h _ _ _ _ s1
  |ret v=>exact h _ _ _ _ s1
 |expr e=>exact fun l st m k h=>gy e _ _ _ _ fun vs st1 m1 e1=>bp fun v hv=>h _ _ _ _ (by simp only[X04,o1 e1 hv];rfl)
 |asg p e=>exact fun l st m k h=>gy e _ _ _ _ fun vs st1 m1 e1=>bp fun v hv=>cy fun l1 e2=>h _ _ _ _ (by simp only[X05,o1 e1 hv];exact congrArg (Option.map _) e2)
 |setattr o j e=>
  intro l st m k h;refine gy e _ _ _ _ fun vs st1 m1 e1=>bp fun v hv=>gy o _ _ _ _ fun ws ak m2 e2=>bp fun x hx=>qN fun c i ci fs m3 e3 e4 e5=>?_;cases q:ci.attrs.contains j&&Nat.blt fs.length 100 with
  |false=>trivial
  |true=>
   refine fun hi=>h _ _ _ _ ?_;haveI q:=Bool.and_eq_true_iff.mp q;rw[YR];refine(o1 e1 hv).symm▸?_;refine(congrArg (Option.bind · _) (o1 e2 hx)).trans ?_;rw[e3];show(match P.cls.lookup c,ak[i]? with|some c,some (.inst fs)=>if c.attrs.contains j∧fs.length<100∧i≠0 then some (Fl.next,l,ak.set i (.inst (setField j v fs)))else none|_,_=>none)=_;exact(e4.symm▸(e5.symm▸(if_pos ⟨q.1,Nat.le_of_ble_eq_true q.2,hi⟩)))
 |setitem o i e=>
  intro l st m k h;refine gy e _ _ _ _ fun vs st1 m1 e1=>bp fun v hv=>gy o _ _ _ _ fun ws ak m2 e2=>bp fun x hx=>gy i _ _ _ _ fun ys cO m3 e3=>bp fun y hy=>cy fun a ha=>cy fun q hq=>fun us e4=>fun j e5 h0=>h _ _ _ _ ?_;obtain⟨c,h1,h2⟩:=Option.bind_eq_some_iff.mp e4;rw[X07,o1 e1 hv];refine(congrArg (Option.bind · _) (o1 e2 hx)).trans ((congrArg (Option.bind · _) (o1 e3 hy)).trans ?_);rw[MZ ha,oq hq];show FE l v a q cO cO[a]? =_;simp only[h1,Ku h2,LW,e5];exact if_neg h0
 |ret e=>exact fun l st m k h=>gy e _ _ _ _ fun vs st1 m1 e1=>bp fun v hv=>h _ _ _ _ (by simp only[X08,o1 e1 hv];rfl)
 |ite c a b iA sL=>
  refine fun l st m k h=>gy c _ _ _ _ fun vs st1 m1 e1=>bp fun x hx=>cy fun q hq=>hV fun m2=>?_;haveI s1:ex P C (.ite c a b) l st=if q then ex P C a l st1 else ex P C b l st1:=by simp only[X09,e1,hx,rG hq];rfl
  cases q with
  |true=>exact iA _ _ _ _ fun fl l2 ak m2 e2=>h _ _ _ _ (s1.trans e2)
  |false=>exact sL _ _ _ _ fun fl l2 ak m2 e2=>h _ _ _ _ (s1.trans e2)
 |pJ c b ih=>exact fun l st m k h=>fun r e=>h _ _ _ _ (by simp only[Vg,e];rfl)
 |loop p sk src b ih=>
  intro l st m k h;refine gy src _ _ _ _ fun vs st1 m1 e1=>eW fun it m3 e3=>?_
  haveI s1:∀(l2:Loc) (ak:St) (m:Nat),aw p it.guards (ex P C b) it.items l st1=some (l2,ak)→k .next l2 ak m:=fun l2 ak m e4=>h _ _ _ _ (by
   simp only[Vh,e1];exact(congrArg (Option.bind · _) e3).trans (congrArg (Option.map _) e4))
  obtain⟨items,guards⟩:=it;cases guards with
  |cons g gs=>exact fun r e4=>s1 r.1 r.2 _ e4
  |nil=>
   exact wq (fun m r e4=>s1 r.1 r.2 _ e4) fun m=>FT ih _ _ _ _ _ fun l2 ak m e4=>s1 l2 ak m e4
end
section
open PySem
variable{C:bj}
theorem gf(m:Nat)(s:S)(l:Loc)(st:St):wS PG C s l st m fun fl l' af _=>ex PG C s l st=some (fl,l',af):=Iw s _ _ _ _ fun _ _ _ _ e=>e
theorem yv(m:Nat)(s:E)(l:Loc)(st:St):wE PG C s l st m fun vs af _=>w1 vs fun v=>one (ev PG C s l st)=some (v,af):=gy s _ _ _ _ fun _ _ _ e=>bp fun v hv=>by refine e.symm▸?_;refine hv.symm▸?_;rfl
noncomputable def loc0(f:FI)(args:List V):Loc:=(args++f.defaults.drop (f.defaults.length+args.length - f.np)).map some++List.replicate (f.n - f.np) none
theorem gL{st:St}{i:Nat}(h:st[i]? =some (.list vs)):st[i]?.bind Ur=some vs:=congrArg (Option.bind · Ur) h
theorem gI{st:St}{i:Nat}(h:st[i]? =some (.inst vs)):st[i]?.bind Uq=some vs:=congrArg (Option.bind · Uq) h
theorem bk(m:Nat)(s:S)(l:Loc)(st:St):wS PG C s l st m fun fl _ af _=>res (ex PG C s l st)=some (fl,af):=Iw s _ _ _ _ fun _ _ _ _ e=>by refine e.symm▸?_;rfl
theorem Bz(h:st[l]? =some (.list vs))(h2:idx k vs.length=some j)(h3:vs[j]? =some v):nW (.lst l) (.int k) st=some v:=by
 simp only[ZX,h];show(idx k vs.length).bind _=_;exact(h2.symm▸h3)
theorem Sf(h2:idx k vs.length=some j)(h3:vs[j]? =some v):nW (.tup vs) (.int k) st=some v:=by
 simp only[LZ,h2];exact h3
theorem Sg(h:st[l]? =some (.list vs)):nX .len [.lst l] st=some ([.int vs.length],st):=by simp only[Iv,h]
theorem FU(h:st[l]? =some (.list vs)):nX .tuple [.lst l] st=some ([.tup vs],st):=by simp only[DS,h]
theorem W9(h:st[l]? =some (.list vs)):nX .list [.lst l] st=some ([.lst st.length],st++[.list vs]):=by simp only[A41,h]
theorem FV(h:st[l]? =some (.list vs)):bU .seq [.lst l] st=some ⟨vs,[(l,vs)]⟩:=by
 simp only[uM,ZZ,h]
theorem Z6 k(h:st[l]? =some (.list vs)):d7 k (.lst l) st=some ([.lst st.length],st++[.list (lM k vs)]):=by
 show(match st[l]? with|some (.list vs)=>some ([V.lst st.length],st++[Cell.list (lM k vs)])|_=>none)=_;refine h.symm▸?_;try rfl
theorem Sh(h:st[i]? =some (.list xs))(h2:st[j]? =some (.list ys))(h3:xs.length+ys.length≤ah):jP .Add (.lst i) (.lst j) st=some ([.lst st.length],st++[.list (xs++ys)]):=by
 simp only[Um,h,h2];exact if_pos h3
theorem Xa{n:Int}(h:st[i]? =some (.list [x]))(h2:0≤n∧n≤ah):jP .Mult (.lst i) (.int n) st=some ([.lst st.length],st++[.list (List.replicate n.toNat x)]):=by
 simp only[ZU,h];exact if_pos h2
theorem qO(h:st[l]? =some (.list vs))(h0:l≠0)(hk:(k==dt ||k==dM ||k==pK)=true):d8 PG (.lst l) k st=true:=by
 simp only[Z1,h];show(decide (l≠0)&&(decide (k=dt) ||decide (k=dM) ||decide (k=pK)))=true;exact((decide_eq_true h0).symm▸hk)
theorem BA(h:st[l]? =some (.list vs))(h1:vs.length<ah):iw PG C (.lst l) dt [x] st=some ([.none],st.set l (.list (vs++[x]))):=by
 rw[Z2,h];exact if_pos h1
theorem getSet{X:St}(h:X[i]? =some c):(X.set i a)[i]? =some a:=List.getElem?_set_self (cN h)
theorem Xb{l:List α}{f:α→V}(h:l.length≤100000):(l.map f).length≤ah:=by rw[List.length_map];exact h
end
section
open PySem
theorem ai{n a:Nat}{f:FI}{args:List V}{st st1:St}{loc0:Loc}{v:V}(hf:PG.fns.lookup a=some f)(hc:(decide (f.np<args.length) ||decide (args.length+f.defaults.length<f.np))=false)
  (hl:((args++f.defaults.drop (f.defaults.length+args.length - f.np)).map some)++List.replicate (f.n - f.np) none=loc0)
  (h:res (ex PG (ae PG n) f.body loc0 st)=some (.ret v,st1)):ae PG (n+1) a args st=some (v,st1):=by
 refine oP h fun l1 h=>?_;dsimp only[ae];rw[hf];simp only;dsimp only[FI.run];rw[if_neg (by simpa using hc),hl,h];rfl
theorem bD{n a:Nat}{f:FI}{args:List V}{st st1:St}{loc0:Loc}(hf:PG.fns.lookup a=some f)(hc:(decide (f.np<args.length) ||decide (args.length+f.defaults.length<f.np))=false)
  (hl:((args++f.defaults.drop (f.defaults.length+args.length - f.np)).map some)++List.replicate (f.n - f.np) none=loc0)
  (h:res (ex PG (ae PG n) f.body loc0 st)=some (.next,st1)):ae PG (n+1) a args st=some (.none,st1):=by
 refine oP h fun l1 h=>?_;dsimp only[ae];rw[hf];simp only;dsimp only[FI.run];rw[if_neg (by simpa using hc),hl,h];rfl
theorem eP{n a:Nat}{c:CI}{args:List V}{st st1:St}(hn:PG.fns.lookup a=none)(hf:PG.cls.lookup a=some c)
  (h:ae PG n c.init (.obj a st.length::args) (st++[.inst []])=some (.none,st1)):ae PG (n+1) a args st=some (.obj a st.length,st1):=by
 show(match PG.fns.lookup a with|some f=>f.run PG (ae PG n) args st|none=>match PG.cls.lookup a with|some c=>(match ae PG n c.init (.obj a st.length::args) (st++[Cell.inst []])with|some (.none,st1)=>some (V.obj a st.length,st1)|_=>none)|none=>none)=_;rw[hn,hf];show(match ae PG n c.init (.obj a st.length::args) (st++[Cell.inst []])with|some (.none,st1)=>some (V.obj a st.length,st1)|_=>none)=_;rw[h]
theorem wx st(a b):vv st (.int a) (.int b)=some (a==b):=rfl
theorem dP st(a b):vv st (.str a) (.str b)=some (a==b):=rfl
theorem ef v st:one (some ([v],st))=some (v,st):=rfl
theorem sM b st:dA (some ([.bool b],st))=some (b,st):=rfl
def cW(a:Int):Prop:=a.natAbs<2^64
theorem Xc:cW 0:=by unfold cW;decide
theorem Xd:cW 1:=by unfold cW;decide
theorem er:cW 2:=by unfold cW;decide
theorem BD:cW 4:=by unfold cW;decide
theorem eX:cW 255:=by unfold cW;decide
theorem cz{a:Int}(h1: -1000000≤a)(h2:a≤1000000):cW a:=by
 refine Nat.lt_of_le_of_lt (m:=1000000) (Int.ofNat_le.mp ?_) (by decide);rcases Int.natAbs_eq a with e|e
 ·exact Int.le_trans (Int.le_of_eq e.symm) h2
 ·exact Int.neg_le_neg_iff.mp (Int.le_trans h1 (Int.le_of_eq e))
theorem mul_r(a b)(h:cW b):lL a b=true:=by unfold lL;simp only[decide_eq_true (show b.natAbs<2^64 from h),Bool.or_true]
theorem Si(a b)(h:cW a):lL a b=true:=by unfold lL;rw[decide_eq_true (show a.natAbs<2^64 from h),Bool.true_or]
theorem Xe(a b):binI .Add a b=some (a+b):=rfl
theorem BE(a b):binI .Sub a b=some (a - b):=rfl
theorem bK(a b)(h:cW a):binI .Mult a b=some (a * b):=if_pos (Si a b h)
theorem bF(a b)(h:cW b):binI .Mult a b=some (a * b):=if_pos (mul_r a b h)
theorem bdiv(a b)(h:0<b)(h2:b<2^30):binI .FloorDiv a b=some (a / b):=by
 unfold binI;simp only;rw[if_neg fun q=>q.elim (fun q=>Int.ne_of_lt h q.symm) (Nat.not_le.mpr (nA (n:=2^30) h h2)),Int.fdiv_eq_ediv_of_nonneg _ (by exact bA 0x22000130000141 rt h)]
theorem bmod(a b)(h:0<b):binI .Mod a b=some (a % b):=by
 unfold binI;simp only;rw[if_neg (by exact bA 0x220100580000141 rt h),Int.fmod_eq_emod_of_nonneg _ (by exact bA 0x22000130000141 rt h)]
theorem k9 a:binI .FloorDiv a 510=some (a / 510):=bdiv _ _ (by decide) (by decide)
theorem BF a:binI .FloorDiv a 8=some (a / 8):=bdiv _ _ (by decide) (by decide)
theorem mM a:binI .FloorDiv a 4=some (a / 4):=bdiv _ _ (by decide) (by decide)
theorem oQ a:binI .FloorDiv a 2=some (a / 2):=bdiv _ _ (by decide) (by decide)
theorem BG a:binI .Mod a 2=some (a % 2):=bmod _ _ (by decide)
theorem la{k n:Nat}(h:k<n):idx (k:Int) n=some k:=by
 unfold idx;rw[if_pos (by exact aJ 0x20070130 rt),if_pos (by exact aC 0x2210700740100011 rt h)];rfl
theorem dj{k:Int}{n:Nat}(h0:0≤k)(h:k<n):idx k n=some k.toNat:=by
 unfold idx;rw[if_pos h0,if_pos h]
theorem gF(xs ys) st:bU .zip [.tup xs,.tup ys] st=some ⟨(xs.zip ys).map fun(a,b)=>.tup [a,b],[]⟩:=rfl
noncomputable def part(n a:Int):Int:=(2 * n * a+255) / 510
theorem eQ n(a b c d) st (hb:cW b)(hd:cW d):
  ae PG (n+1) 28 [.int a,.int b,.int c,.int d] st=some (.int ((2 * (a * b+c * d)+255) / 510),st):=by
 refine ai (loc0:=[some (.int a),some (.int b),some (.int c),some (.int d),none]) WV rfl rfl ?_;exact bk 0x0 Zv [some (V.int a),some (V.int b),some (V.int c),some (V.int d),none] st _ (bF _ _ hb) _ (bF _ _ hd) _ (bK _ _ er) _ (bK _ _ er) _ (k9 _)
theorem bG n(a b) st (hb:cW b):ae PG (n+1) 172 [.int a,.int b] st=some (.int (part a b),st):=by
 refine ai (loc0:=[some (.int a),some (.int b),none]) Qk rfl rfl ?_;exact bk 0x0 N7 [some (V.int a),some (V.int b),none] st _ (bK _ _ er) _ (bF _ _ hb) _ (bK _ _ er) _ (k9 _)
theorem iU n(a b) st (hb:cW b):ae PG (n+1) 705 [.int a,.int b] st=some (.int (part a b),st):=by
 refine ai (loc0:=[some (.int a),some (.int b)]) Q9 rfl rfl ?_;exact bk 0x0 P7 [some (V.int a),some (V.int b)] st _ (bK _ _ er) _ (bF _ _ hb) _ (k9 _)
theorem BH n a st:ae PG (n+1) 441 [.int a,.int 4] st=some (.int ((2 * a+4) / 8),st):=by
 refine ai (loc0:=[some (.int a),some (.int 4)]) QL rfl rfl ?_;exact bk 0x0 OZ [some (V.int a),some (V.int 4)] st _ (bK _ _ er) _ (bK _ _ er) _ (BF _)
theorem BI n(a b) st:ae PG (n+1) 579 [a,b] st=some (.int 255,st):=by
 refine ai (loc0:=[some a,some b,none]) QX rfl rfl ?_;exact bk 0x0 PA _ st
theorem Ky n st:ae PG (n+1) 586 [.none] st=some (.fn 579,st):=by
 refine ai (loc0:=[some .none,none]) QY rfl rfl ?_;exact bk 0x0 PC [some V.none,none] st
theorem FW n(a o)(x y) st (ho:cW o):ae PG (n+2) 560 [.int a,.int o,.none,x,y] st=some (.int (part a o),st):=by
 refine ai (loc0:=[some (.int a),some (.int o),some .none,some x,some y,none,none]) QW rfl rfl ?_;exact bk 0x0 Pu [some (V.int a),some (V.int o),some V.none,some x,some y,none,none] st _ (bG n a o _ ho)
theorem yw n(a b) st (h:0<b)(h2:b<2^30):ae PG (n+1) 330 [.int a,.int b] st=some (.int (0 - (0 - a) / b),st):=by
 refine ai (loc0:=[some (.int a),some (.int b)]) Qy rfl rfl ?_;exact bk 0x0 OB [some (V.int a),some (V.int b)] st _ (bdiv _ b h h2)
theorem BJ n(t b) st (h:0<b)(h2:b<2^20):ae PG (n+2) 337 [.tup [.int t,.int b],.int 2] st=some (.int (0 - (0 - (2 * t - 2 * b)) / (4 * b)),st):=by
 refine ai (loc0:=[some (.tup [.int t,.int b]),some (.int 2),none,none,none]) Qz rfl rfl ?_;exact bk 0x0 OD [some (V.tup [V.int t,V.int b]),some (V.int 2),none,none,none] st _ (bK _ _ er) _ (bK _ _ er) _ (bK _ _ er) _ (bK _ _ BD) _ (yw n _ (4 * b) _ (bA 0x2500430140000141 rt h) (by lia))
noncomputable def iW(b:Bool):V:=.str (if b then Str.ofString "evenodd" else Str.ofString "nonzero")
noncomputable def inside(eo:Bool)(w:Int):Bool:=if eo then w % 2 != 0 else w != 0
theorem BK n w b st:ae PG (n+1) 316 [.int w,iW b] st=some (.bool (inside b w),st):=by
 refine ai (loc0:=[some (.int w),some (iW b)]) Qw rfl rfl ?_;show res (ex PG (ae PG n) JR _ st)=_;unfold JR;haveI e1:(Str.ofString "nonzero"==Str.ofString "nonzero")=true:=by decide+kernel
 haveI e2:(Str.ofString "evenodd"==Str.ofString "nonzero")=false:=by decide+kernel
 cases b<;>simp only[iW,inside,Lw,Ip,Iq,LC,LD,LJ,LK,ZG,ZH,ZI,ZL,ZM,Ke,DP,LO,LR,LU,LV,Option.map_some,List.getElem?_cons_zero,List.getElem?_cons_succ,LY,BG,ZV,FK,wx,dP,if_true,if_false,Bool.false_eq_true,res_some,e1,e2]<;>rfl
theorem Kz n st:ae PG (n+1) 323 [.int 2,.int 4] st=some (.int 2,st):=by
 refine ai (loc0:=[some (.int 2),some (.int 4),none]) Qx rfl rfl ?_;refine(bk 0x0 Oz [some (V.int 2),some (V.int 4),none] st _ (bK _ _ er) _ (bmod _ _ (by decide)) _ (oQ _)).trans ?_;rfl
theorem FX n b st:ae PG (n+1) 344 [iW b] st=some (.none,st):=by
 refine bD (loc0:=[some (iW b),none,none]) QA rfl rfl ?_;show res (ex PG (ae PG n) JS _ st)=_;unfold JS;cases b<;>rfl
theorem aQ st:au [] st=True:=by
 unfold au;simp
theorem kl n:(n≤ah)=(n≤100000):=rfl
theorem Sj n:(n<ah)=(n<100000):=rfl
theorem qP st:bU .dY [.int 4] st=some ⟨[.int 0,.int 1,.int 2,.int 3],[]⟩:=rfl
theorem ju st:bU .dY [.int 3] st=some ⟨[.int 0,.int 1,.int 2],[]⟩:=rfl
theorem Xf n:idx 0 (n+1)=some 0:=by rw[dj (by exact D6 0x2010130 rt) (by exact aJ 0x21100270140 rt)];rfl
theorem Sn:idx 0 4=some 0:=rfl
theorem Sp:idx 1 4=some 1:=rfl
theorem Sq:idx 2 4=some 2:=rfl
theorem ft:idx 3 4=some 3:=rfl
theorem wy:idx 0 3=some 0:=rfl
theorem wz:idx 1 3=some 1:=rfl
theorem wA:idx 2 3=some 2:=rfl
theorem Sr:idx 0 2=some 0:=rfl
theorem Ss:idx 1 2=some 1:=rfl
noncomputable abbrev dG:=Int×Int×Int×Int
noncomputable def cv(c:dG):V:=.tup [.int c.1,.int c.2.1,.int c.2.2.1,.int c.2.2.2]
noncomputable def dq(c:dG)(a:Int):dG:=(part c.1 a,part c.2.1 a,part c.2.2.1 a,part c.2.2.2 a)
noncomputable def lay(a b:dG):dG:=(a.1+part b.1 (255 - a.2.2.2),a.2.1+part b.2.1 (255 - a.2.2.2),a.2.2.1+part b.2.2.1 (255 - a.2.2.2),a.2.2.2+part b.2.2.2 (255 - a.2.2.2))
theorem fN(one other rest):(2 * (one * 255+other * rest)+255) / 510=one+part other rest:=by
 unfold part;rw[Int.mul_assoc];exact rp 0x7fe8122107fe821122010200507fe1007fe323ff1303ff104223243ff1303ff1042232007fe33617fe1207fe323ff13023243ff130232207fe3361 rt (dI 510 (by decide) _) (dI 510 (by decide) _)
theorem lg n:part n 255=n:=by unfold part;exact dr 0x7fe81207fe8211000507fe1007fe323ff13ff10234243ff13ff102342007fe3361 rt (dI 510 (by decide) _)
theorem part0 n:part n 0=0:=by unfold part;exact dr 0x7fe81207fe8210100507fe1007fe323ff1010234243ff10102342007fe3361 rt (dI 510 (by decide) _)
theorem wC c:dq c 255=c:=by unfold dq;simp only[lg]
theorem lay0 b:lay (0,0,0,0) b=b:=by dsimp only[lay];simp[lg]
theorem Sv c:dq c 0=(0,0,0,0):=by unfold dq;simp only[part0]
theorem BL n(a b) st (h:cW (255 - a.2.2.2)){GG:Prop}(kk:∀af,ae PG (n+2) 33 [cv a,cv b] st=some (cv (lay a b),af)→st<+:af→GG):GG:=by
 refine kk (st++[.list [.int (a.1+part b.1 (255 - a.2.2.2)),.int (a.2.1+part b.2.1 (255 - a.2.2.2)),.int (a.2.2.1+part b.2.2.1 (255 - a.2.2.2)),.int (a.2.2.2+part b.2.2.2 (255 - a.2.2.2))]]) (ai (loc0:=[some (cv a),some (cv b),none,none,none,none]) WW rfl rfl ?_) (List.prefix_append _ _);refine(bk 0x80 Zx [some (cv a),some (cv b),none,none,none,none] st ((V.int (Prod.fst a+part (Prod.fst b) (255 - Prod.snd (Prod.snd (Prod.snd a)))),st)) (by simp only[Lw,Ip,Iq,Lx,Ly,Lz,LA,LC,LD,LJ,LK,Rw,Rx,Ry,Rz,RA,RB,RC,LL,LN,RD,RE,RF,R9,Bq,zf,zg,zh,zi,DQ,DR,LO,LQ,LR,RJ,RK,RL,LU,LV,ef,sM,Option.bind_some,Option.map_some,RT,RU,RV,RW,MI,MJ,MK,List.map_cons,List.map_nil,List.set_cons_zero,List.set_cons_succ,List.getElem?_cons_zero,List.getElem?_cons_succ,Option.getD_some,LY,BE,eX,LZ,DS,gF,List.length_cons,List.length_nil,Nat.zero_add,Nat.reduceAdd,res_some,List.map_cons,List.map_nil,Nat.reduceLeDiff,List.zip_cons_cons,List.zip_nil_right,cv,ft,eQ,h,fN,List.getElem?_concat_length]) ((V.int (Prod.fst (Prod.snd a)+part (Prod.fst (Prod.snd b)) (255 - Prod.snd (Prod.snd (Prod.snd a)))),st)) (by simp only[Lw,Ip,Iq,Lx,Ly,Lz,LA,LC,LD,LJ,LK,Rw,Rx,Ry,Rz,RA,RB,RC,LL,LN,RD,RE,RF,R9,Bq,zf,zg,zh,zi,DQ,DR,LO,LQ,LR,RJ,RK,RL,LU,LV,ef,sM,Option.bind_some,Option.map_some,RT,RU,RV,RW,MI,MJ,MK,List.map_cons,List.map_nil,List.set_cons_zero,List.set_cons_succ,List.getElem?_cons_zero,List.getElem?_cons_succ,Option.getD_some,LY,BE,eX,LZ,DS,gF,List.length_cons,List.length_nil,Nat.zero_add,Nat.reduceAdd,res_some,List.map_cons,List.map_nil,Nat.reduceLeDiff,List.zip_cons_cons,List.zip_nil_right,cv,ft,eQ,h,fN,List.getElem?_concat_length]) ((V.int (Prod.fst (Prod.snd (Prod.snd a))+part (Prod.fst (Prod.snd (Prod.snd b))) (255 - Prod.snd (Prod.snd (Prod.snd a)))),st)) (by simp only[Lw,Ip,Iq,Lx,Ly,Lz,LA,LC,LD,LJ,LK,Rw,Rx,Ry,Rz,RA,RB,RC,LL,LN,RD,RE,RF,R9,Bq,zf,zg,zh,zi,DQ,DR,LO,LQ,LR,RJ,RK,RL,LU,LV,ef,sM,Option.bind_some,Option.map_some,RT,RU,RV,RW,MI,MJ,MK,List.map_cons,List.map_nil,List.set_cons_zero,List.set_cons_succ,List.getElem?_cons_zero,List.getElem?_cons_succ,Option.getD_some,LY,BE,eX,LZ,DS,gF,List.length_cons,List.length_nil,Nat.zero_add,Nat.reduceAdd,res_some,List.map_cons,List.map_nil,Nat.reduceLeDiff,List.zip_cons_cons,List.zip_nil_right,cv,ft,eQ,h,fN,List.getElem?_concat_length]) ((V.int (Prod.snd (Prod.snd (Prod.snd a))+part (Prod.snd (Prod.snd (Prod.snd b))) (255 - Prod.snd (Prod.snd (Prod.snd a)))),st)) (by simp only[Lw,Ip,Iq,Lx,Ly,Lz,LA,LC,LD,LJ,LK,Rw,Rx,Ry,Rz,RA,RB,RC,LL,LN,RD,RE,RF,R9,Bq,zf,zg,zh,zi,DQ,DR,LO,LQ,LR,RJ,RK,RL,LU,LV,ef,sM,Option.bind_some,Option.map_some,RT,RU,RV,RW,MI,MJ,MK,List.map_cons,List.map_nil,List.set_cons_zero,List.set_cons_succ,List.getElem?_cons_zero,List.getElem?_cons_succ,Option.getD_some,LY,BE,eX,LZ,DS,gF,List.length_cons,List.length_nil,Nat.zero_add,Nat.reduceAdd,res_some,List.map_cons,List.map_nil,Nat.reduceLeDiff,List.zip_cons_cons,List.zip_nil_right,cv,ft,eQ,h,fN,List.getElem?_concat_length]) (Nat.le_of_ble_eq_true rt) _ (FU (List.getElem?_concat_length))).trans ?_;rfl
theorem sN n c a st(h:cW a){GG:Prop}(kk:∀af,ae PG (n+2) 565 [cv c,.int a] st=some (cv (dq c a),af)→st<+:af→GG):GG:=by
 by_cases ha:a=255
 ·subst ha
  refine kk _ (ai (loc0:=[some (cv c),some (.int 255),none,none]) Ie rfl rfl ?_) (List.prefix_refl _);refine(bk 0x0 Px [some (cv c),some (V.int 255),none,none] st).trans ?_;simp only[beq_self_eq_true,wC]
 ·refine kk (st++[.list [.int (part c.1 a),.int (part c.2.1 a),.int (part c.2.2.1 a),.int (part c.2.2.2 a)]]) (ai (loc0:=[some (cv c),some (.int a),none,none]) Ie rfl rfl ?_) (List.prefix_append _ _)
  haveI hb:(a==255)=false:=by simpa using ha
  refine(bk 0x102 (S.seq (S.ite (E.cmp CmpOp.Eq (E.loc 1) (E.cst (V.int 255))) (S.seq (S.ret (E.loc 0)) S.skip) S.skip) (S.seq (S.ret (E.az Bi.tuple (E.cons (E.comp [none,none,none,some 1] (cD.var 1) SK.seq (E.loc 0) (E.cst (V.bool true)) (E.call (E.cst (V.fn 172)) (E.cons (E.loc 1) (E.cons (E.loc 3) E.nil)))) E.nil))) S.skip)) [some (cv c),some (V.int a),none,none] st _ hb _ (bG _ _ _ _ h) _ (bG _ _ _ _ h) _ (bG _ _ _ _ h) _ (bG _ _ _ _ h) (Nat.le_of_ble_eq_true rt) _ (FU (List.getElem?_concat_length))).trans ?_;rfl
theorem uN n c a st(h:cW a){GG:Prop}(kk:∀af,ae PG (n+2) 177 [cv c,.int a] st=some (cv (dq c a),af)→st<+:af→GG):GG:=by
 refine kk (st++[.list [.int (part c.1 a),.int (part c.2.1 a),.int (part c.2.2.1 a),.int (part c.2.2.2 a)]]) (ai (loc0:=[some (cv c),some (.int a),none]) Ql rfl rfl ?_) (List.prefix_append _ _);refine(bk 0x40 N9 [some (cv c),some (V.int a),none] st _ (bG _ _ _ _ h) _ (bG _ _ _ _ h) _ (bG _ _ _ _ h) _ (bG _ _ _ _ h) (Nat.le_of_ble_eq_true rt) _ (FU (List.getElem?_concat_length))).trans ?_;rfl
theorem km n(a b) st (h:cW (255 - a.2.2.2)){GG:Prop}(kk:∀af,ae PG (n+2) 710 [cv a,cv b] st=some (cv (lay a b),af)→st<+:af→GG):GG:=by
 refine kk (st++[.list [.int (a.1+part b.1 (255 - a.2.2.2)),.int (a.2.1+part b.2.1 (255 - a.2.2.2)),.int (a.2.2.1+part b.2.2.1 (255 - a.2.2.2)),.int (a.2.2.2+part b.2.2.2 (255 - a.2.2.2))]]) (ai (loc0:=[some (cv a),some (cv b),none,none]) Ra rfl rfl ?_) (List.prefix_append _ _);refine(bk 0x40001 P9 [some (cv a),some (cv b),none,none] st _ (qP _) _ (iU _ _ _ _ h) _ (iU _ _ _ _ h) _ (iU _ _ _ _ h) _ (iU _ _ _ _ h) (Nat.le_of_ble_eq_true rt) _ (FU (List.getElem?_concat_length))).trans ?_;rfl
theorem yx n(a b) st (h:cW (255 - a.2.2.2)):∃af,ae PG (n+2) 710 [cv a,cv b] st=some (cv (lay a b),af)∧st<+:af:=km n a b st h fun x1 x2 x3=>⟨x1,x2,x3⟩
theorem qQ:mL.meths.lookup 9=some 122:=rfl
theorem mN:mL.meths.lookup 10=some 129:=rfl
theorem BM:mL.meths.lookup 14=some 139:=rfl
theorem BO:mL.meths.lookup 11=some 144:=rfl
theorem FY:mL.attrs.contains 3=true:=rfl
theorem FZ:mL.attrs.contains 4=true:=rfl
theorem F0:mL.attrs.contains 5=true:=rfl
theorem F8:mL.attrs.contains 6=true:=rfl
theorem F9:mL.attrs.contains 7=true:=rfl
theorem BP:yr.attrs.contains 16=true:=rfl
theorem BQ:yr.attrs.contains 17=true:=rfl
theorem BR:yr.attrs.contains 18=true:=rfl
theorem BU:yr.attrs.contains 19=true:=rfl
theorem Ga:uJ.meths.lookup 6=some 280:=rfl
theorem BV:uJ.meths.lookup 26=some 287:=rfl
theorem BW:uJ.meths.lookup 27=some 294:=rfl
theorem Gb:uJ.meths.lookup 2=some 301:=rfl
theorem BX:uJ.attrs.contains 25=true:=rfl
theorem BZ:qJ.meths.lookup 34=some 393:=rfl
theorem B0:qJ.meths.lookup 35=some 400:=rfl
theorem B1:qJ.attrs.contains 28=true:=rfl
theorem B2:qJ.attrs.contains 29=true:=rfl
theorem B4:qJ.attrs.contains 30=true:=rfl
theorem B5:qJ.attrs.contains 31=true:=rfl
theorem B6:qJ.attrs.contains 32=true:=rfl
theorem B7:kF.meths.lookup 38=some 462:=rfl
theorem B8:kF.meths.lookup 39=some 469:=rfl
theorem B':kF.meths.lookup 40=some 476:=rfl
theorem sO:kF.meths.lookup 17=some 483:=rfl
theorem Ge:kF.attrs.contains 5=true:=rfl
theorem Gf:kF.attrs.contains 6=true:=rfl
theorem Gg:kF.attrs.contains 3=true:=rfl
theorem Gh:kF.attrs.contains 4=true:=rfl
theorem Ca:kF.attrs.contains 36=true:=rfl
theorem Cb:kF.attrs.contains 37=true:=rfl
theorem Cd:Fv.meths.lookup 46=some 635:=rfl
theorem Ce:Fv.attrs.contains 45=true:=rfl
theorem Cg:yt.attrs.contains 47=true:=rfl
theorem Ci:yt.attrs.contains 36=true:=rfl
theorem Gi:yt.attrs.contains 3=true:=rfl
theorem Gj:yt.attrs.contains 4=true:=rfl
theorem sQ{α:Type}(l:List α)(x y):(l++[x]).set l.length y=l++[y]:=by simp
theorem aA{α:Type}{l:List α}(t:List α){i:Nat}{a:α}(h:l[i]? =some a):(l++t)[i]? =some a:=by
 haveI hi:=(cN h);rw[List.getElem?_append_left hi];exact h
theorem ag{α:Type}{l l':List α}{i:Nat}{a:α}(h:l<+:l')(e:l[i]? =some a):l'[i]? =some a:=by
 obtain⟨t,rfl⟩:=h;exact aA t e
end
local macro_rules (kind := Lean.Parser.Tactic.simpAutoUnfold) | s => return ((s.setKind `Lean.Parser.Tactic.simp).setArg 3 (Lean.mkNullNode #[Lean.mkAtom "only"])).modifyArg 4 fun t => t.modifyArg 1 fun u => Lean.mkNullNode ((("Ip Iq List.getElem?_cons_zero List.getElem?_cons_succ LO Lx Ly Lz LA LQ Lw LK List.set_cons_zero List.set_cons_succ List.length_nil RJ RL RK Nat.zero_add List.length_cons Nat.reduceAdd Option.map_some ZH ZI ZR ZG Nat.reduceLeDiff if_true S14 S13 RT LC LD LJ res_some E08 T09 LY Option.bind_some if_false Rx LR LU Ry LV Rw RC Rz RA RB Xe LL LN S16 decide_false decide_true T19 E10 List.nil_append List.cons_append ne_eq not_false_eq_true E59 E62 Bool.and_true E60 E61 Nat.reduceEqDiff LZ S20 ZS S21 S19 S15 RV RW Un E31 S07 S06 Z2 dM dt Z1 pK Bool.or_false BE ZV E33 E32 Sj List.getElem?_concat_length ZX A03 List.reverse_cons List.reverse_nil List.lookup_cons Nat.reduceBEq uM E35 Int.reduceNeg ZZ A13 RU sM Nat.reduceLT List.map_cons sQ MJ R9 RE List.map_nil MI RF RD MK ZM ZL Sn Option.getD_some E28 A14 E27 E16 A31 E15 A36 T30 E47 Ss E22 E21 E23 Sp Option.isSome_some List.lookup_nil Option.isNone_none A47 A45 Sq wx E29 Sr bK".splitOn " ").foldl (fun a n => (a.push (.node .none `Lean.Parser.Tactic.simpLemma #[Lean.mkNullNode, Lean.mkNullNode, Lean.mkIdent n.toName])).push (Lean.mkAtom ",")) #[]) ++ u.getArgs)
section
open PySem
theorem Cj n(a b c d) st (h0:st.length≠0):
  ae PG (n+2) 229 [.int a,.int b,.int c,.int d] st=some (.obj 229 st.length,st++[.inst [(16,.int a),(17,.int b),(18,.int c),(19,.int d)]]):=by
 refine eP Rf Ik ?_;refine bD (loc0:=[some (.obj 229 st.length),some (.int a),some (.int b),some (.int c),some (.int d)]) Qm rfl rfl ?_;refine(bk 0x0 Oa [some (V.obj 229 (List.length st)),some (V.int a),some (V.int b),some (V.int c),some (V.int d)] (st++[Cell.inst []]) _ (gI (List.getElem?_concat_length)) h0 _ (gI (getSet (List.getElem?_concat_length))) h0 _ (gI (getSet (getSet (List.getElem?_concat_length)))) h0 _ (gI (getSet (getSet (getSet (List.getElem?_concat_length))))) h0).trans ?_;simp! [Km,Kn,Ko,Kp,Kq,R0,and_true,Ik,BP,BQ,BR,BU,h0]
theorem Gk n(a b c d) i st (hi:st[i]? =some (.inst [(16,.int a),(17,.int b),(18,.int c),(19,.int d)]))(hd:cW d):
  ae PG (n+1) 198 [.obj 229 i] st=some (.int (a * d),st):=by
 refine ai (loc0:=[some (.obj 229 i)]) Qn rfl rfl ?_;exact bk 0x0 Oc [some (V.obj 229 i)] st _ (gI hi) _ (gI hi) _ (bF _ _ hd)
noncomputable def jL:V:=.str (Str.ofString "normal")
theorem wG n(a b c d) i st (hi:st[i]? =some (.inst [(16,.int a),(17,.int b),(18,.int c),(19,.int d)]))(hd:cW d):
  ae PG (n+2) 240 [jL,.obj 229 i] st=some (.int (a * d),st):=by
 refine ai (loc0:=[some jL,some (.obj 229 i),none,none,none,none]) Qo rfl rfl ?_;show res (ex PG (ae PG (n+1)) JN _ _)=_;unfold JN
 rw[show ∀(P:Pg) (call:bj) (a b:S) (l:Loc) (st:St),ex P call (.seq a b) l st=(ex P call a l st).bind fun(fl,l1,st1)=>match fl with
  |.next=>ex P call b l1 st1
  |_=>some (fl,l1,st1)from fun _ _ _ _ _ _=>rfl]
 haveI h:ex PG (ae PG (n+1)) (S.ite (E.cmp CmpOp.Eq (E.loc 0) (E.cst (V.str (Str.ofString "normal")))) ((S.ret ((E.loc 1).aF 20 E.nil)).seq S.skip) S.skip) [some jL,some (V.obj 229 i),none,none,none,none] st=some (.ret (.int (a * d)),[some jL,some (V.obj 229 i),none,none,none,none],st):=by
  exact gf 0x0 (S.ite (E.cmp CmpOp.Eq (E.loc 0) (E.cst (V.str (Str.ofString "normal")))) (S.seq (S.ret (E.aF (E.loc 1) 20 E.nil)) S.skip) S.skip) [some jL,some (V.obj 229 i),none,none,none,none] st _ (gI hi) _ (Gk n a b c d i st hi hd)
 rw[h];rfl
theorem qR n(a b c d) st (h0:st.length≠0)(hd:cW d)(pZ:cW (255 - d))(By:cW (255 - b)):
  ae PG (n+3) 247 [jL,.int a,.int b,.int c,.int d] st=some (.int (a+part c (255 - b)),st++[.inst [(16,.int a),(17,.int b),(18,.int c),(19,.int d)]]):=by
 refine ai (loc0:=[some jL,some (.int a),some (.int b),some (.int c),some (.int d),none,none,none,none]) Qp rfl rfl ?_;refine(bk 0x0 Og [some jL,some (V.int a),some (V.int b),some (V.int c),some (V.int d),none,none,none,none] st _ (Cj n a b c d st h0) _ (wG n a b c d st.length _ (List.getElem?_concat_length) hd) _ (bF _ _ pZ) _ (bF _ _ By) _ (bK _ _ er) _ (bK _ _ er) _ (k9 _)).trans ?_;simp only[Cj n a b c d st h0,wG n a b c d st.length _ (List.getElem?_concat_length) hd,bF _ _ pZ,bF _ _ By]
 haveI e:(2 * (a * d+a * (255 - d)+c * (255 - b))+255) / 510=a+part c (255 - b):=by
  rw[←fN,←Int.mul_add,show d+(255 - d)=255 by exact bA 0x2023ff1003ff1500250 rt]
 refine e.symm▸?_;try rfl
theorem gJ{st af:St}(h:st<+:af)(h0:st.length≠0):af.length≠0:=by have:=h.length_le;exact aC 0x2220201002800010010110281 rt h0 this
theorem kn n(a b) st (h0:st.length≠0)(ha:cW (255 - a.2.2.2))(hb:cW b.2.2.2)(By:cW (255 - b.2.2.2)){GG:Prop}(kk:∀af,ae PG (n+4) 252 [jL,cv a,cv b] st=some (cv (lay a b),af)→st<+:af→GG):GG:=by
 haveI e1:=qR n a.1 a.2.2.2 b.1 b.2.2.2 st h0 hb By ha;generalize qi:st++_=s1 at e1;haveI p1:st<+:s1:=qi▸List.prefix_append _ _;haveI e2:=qR n a.2.1 a.2.2.2 b.2.1 b.2.2.2 s1 (gJ p1 h0) hb By ha;generalize qn:s1++_=s2 at e2;haveI p2:s1<+:s2:=qn▸List.prefix_append _ _;haveI e3:=qR n a.2.2.1 a.2.2.2 b.2.2.1 b.2.2.2 s2 (gJ p2 (gJ p1 h0)) hb By ha;generalize yy:s2++_=s3 at e3;haveI p3:s2<+:s3:=yy▸List.prefix_append _ _;refine kk (s3++[.list [.int (a.1+part b.1 (255 - a.2.2.2)),.int (a.2.1+part b.2.1 (255 - a.2.2.2)),.int (a.2.2.1+part b.2.2.1 (255 - a.2.2.2))]]) (ai (loc0:=[some jL,some (cv a),some (cv b),none,none,none,none,none,none]) Qq rfl rfl ?_) (((p1.trans p2).trans p3).trans (List.prefix_append _ _));refine(bk 0xe004 Oi [some jL,some (cv a),some (cv b),none,none,none,none,none,none] st _ (ju _) _ e1 _ e2 _ e3 (Nat.le_of_ble_eq_true rt) (V.int (Prod.fst a+part (Prod.fst b) (255 - Prod.snd (Prod.snd (Prod.snd a))))) (by simp! [ju,Bq,zf,zg,zh,zi,DQ,DR,ef,eX,cv,ft,wy,wz,wA,e1,e2,e3,ha,eQ,fN]) (V.int (Prod.fst (Prod.snd a)+part (Prod.fst (Prod.snd b)) (255 - Prod.snd (Prod.snd (Prod.snd a))))) (by simp! [ju,Bq,zf,zg,zh,zi,DQ,DR,ef,eX,cv,ft,wy,wz,wA,e1,e2,e3,ha,eQ,fN]) (V.int (Prod.fst (Prod.snd (Prod.snd a))+part (Prod.fst (Prod.snd (Prod.snd b))) (255 - Prod.snd (Prod.snd (Prod.snd a))))) (by simp! [ju,Bq,zf,zg,zh,zi,DQ,DR,ef,eX,cv,ft,wy,wz,wA,e1,e2,e3,ha,eQ,fN]) ((V.int (Prod.snd (Prod.snd (Prod.snd a))+part (Prod.snd (Prod.snd (Prod.snd b))) (255 - Prod.snd (Prod.snd (Prod.snd a)))),s3++[Cell.list [V.int (Prod.fst a+part (Prod.fst b) (255 - Prod.snd (Prod.snd (Prod.snd a)))),V.int (Prod.fst (Prod.snd a)+part (Prod.fst (Prod.snd b)) (255 - Prod.snd (Prod.snd (Prod.snd a)))),V.int (Prod.fst (Prod.snd (Prod.snd a))+part (Prod.fst (Prod.snd (Prod.snd b))) (255 - Prod.snd (Prod.snd (Prod.snd a))))]])) (by simp! [ju,Bq,zf,zg,zh,zi,DQ,DR,ef,eX,cv,ft,wy,wz,wA,e1,e2,e3,ha,eQ,fN])).trans ?_;rfl
theorem Ck n(a b) o st (h0:st.length≠0)(ho:cW o)(ha:cW (255 - part a.2.2.2 o))(hb:cW b.2.2.2)(By:cW (255 - b.2.2.2)){GG:Prop}(kk:∀af,ae PG (n+5) 259 [jL,cv a,.int o,cv b] st=some (cv (lay (dq a o) b),af)→st<+:af→GG):GG:=by
 by_cases h:o=255
 ·subst h
  rw[lg]at ha;refine kn n a b st h0 ha hb By fun s1 e1 p1=>?_;refine kk s1 (ai (loc0:=[some jL,some (cv a),some (.int 255),some (cv b),none,none,none]) Ic rfl rfl ?_) p1;refine(bk 0x0 JO [some jL,some (cv a),some (V.int 255),some (cv b),none,none,none] st _ e1).trans ?_;simp only[beq_self_eq_true,e1,wC]
 ·refine uN (n+2) a o st ho fun s0 e0 p0=>?_
  refine kn n (dq a o) b s0 (gJ p0 h0) ha hb By fun s1 e1 p1=>?_;refine kk s1 (ai (loc0:=[some jL,some (cv a),some (.int o),some (cv b),none,none,none]) Ic rfl rfl ?_) (p0.trans p1);haveI hb:(o==255)=false:=by simpa using h
  exact bk 0x2 JO [some jL,some (cv a),some (V.int o),some (cv b),none,none,none] st _ hb _ e0 _ e1
theorem ay i vs st:au [(i,vs)] st=(st[i]? =some (.list vs)):=by
 unfold au;simp
theorem mQ{p:cD}{gs:List (Nat×List V)}{f:Run}{all:List V}(I:Nat→Loc→St→Prop)(hg:∀k l st,I k l st→au gs st)
  (step:∀k v l st,all[k]? =some v→I k l st→∃l1 fl l2 ak,cb p v l=some l1∧f l1 st=some (fl,l2,ak)∧(∀v,fl≠.ret v)∧I (k+1) l2 ak):
  ∀(vs:List V) (k:Nat) (l:Loc) (st:St),all.drop k=vs→k≤all.length→I k l st→∃l' af,aw p gs f vs l st=some (l',af)∧I all.length l' af
 |[],k,l,st,hd,hk,h=>by
  haveI:k=all.length:=by
   haveI:=congrArg List.length hd;simp at this;exact aO 0x2111112022111210211202112111100020100020221000060120200101671012021100001 rt hk this (bE _ _)
  subst this;refine⟨l,st,?_,h⟩;exact MP (hg _ _ _ h)
 |v::vs,k,l,st,hd,hk,h=>by
  have hv:all[k]? =some v:=by
   haveI:(all.drop k)[0]? =some v:=by rw[hd];rfl
   simpa using this
  have dB:k<all.length:=(cN hv);refine gP fun GP kP=>?_;obtain⟨l1,fl,l2,ak,h1,h2,h3,h4⟩:=step k v l st hv h
  haveI pZ:all.drop (k+1)=vs:=by
   haveI:=congrArg List.tail hd;simpa using this
  refine xl (mQ I hg step vs (k+1) l2 ak pZ dB h4) fun l' af h5 h6=>?_;refine kP ?_;refine⟨l',af,?_,h6⟩;refine(MQ (hg _ _ _ h)).trans ?_;rw[h1];show(f l1 st).bind _=_;rw[h2];cases fl with
  |ret v=>exact absurd rfl (h3 v)
  |next=>exact h5
  |cont=>exact h5
theorem aH{p:cD}{gs:List (Nat×List V)}{f:Run}{all:List V}(I:Nat→Loc→St→Prop)(hg:∀k l st,I k l st→au gs st)
  (step:∀k v l st,all[k]? =some v→I k l st→∃l1 fl l2 ak,cb p v l=some l1∧f l1 st=some (fl,l2,ak)∧(∀v,fl≠.ret v)∧I (k+1) l2 ak)
  {l:Loc} {st:St} (h:I 0 l st):∃l' af,aw p gs f all l st=some (l',af)∧I all.length l' af:=
 mQ I hg step all 0 l st rfl (Nat.zero_le _) h
theorem gK{p:cD}{gs:List (Nat×List V)}{cond:Loc→St→Option (Bool×St)}{elt:Loc→St→Option (V×St)}{all:List V}(I:Nat→List V→Loc→St→Prop)(hg:∀k a l st,I k a l st→au gs st)
  (step:∀k v a l st,all[k]? =some v→I k a l st→∃l1 b st1,cb p v l=some l1∧cond l1 st=some (b,st1)∧if b then ∃x ak,elt l1 st1=some (x,ak)∧I (k+1) (a++[x]) l1 ak else I (k+1) a l1 st1):
  ∀(vs:List V) (k:Nat) (a:List V) (l:Loc) (st:St),all.drop k=vs→k≤all.length→I k a l st→∃r l' af,aB p gs cond elt vs l st=some (r,af)∧I all.length (a++r) l' af
 |[],k,a,l,st,hd,hk,h=>by
  haveI:k=all.length:=by
   haveI:=congrArg List.length hd;simp at this;exact aO 0x2111112022111210211202112111100020100020221000060120200101671012021100001 rt hk this (bE _ _)
  subst this;refine⟨[],l,st,?_,by simpa using h⟩;dsimp only[aB];rw[if_pos (hg _ _ _ _ h)]
 |v::vs,k,a,l,st,hd,hk,h=>by
  have hv:all[k]? =some v:=by
   haveI:(all.drop k)[0]? =some v:=by rw[hd];rfl
   simpa using this
  have dB:k<all.length:=(cN hv);refine I7 (step k v a l st hv h) fun l1 b st1 h1 h2 h3=>?_
  have pZ:all.drop (k+1)=vs:=by
   haveI:=congrArg List.tail hd;simpa using this
  cases b with
  |true=>
   refine gP fun GP kP=>?_;obtain⟨x,ak,h3,h4⟩:=h3;obtain⟨r,l',af,h5,h6⟩:=gK I hg step vs (k+1) (a++[x]) l1 ak pZ dB h4;refine kP ?_;refine⟨x::r,l',af,?_,by simpa using h6⟩;dsimp only[aB];simp only[if_pos (hg _ _ _ _ h),h1];simp only[Option.bind_some];rw[h2];simp only[Option.bind_some,if_true];rw[h3];simp only[Option.bind_some];simp only[h5];rfl
  |false=>
   refine Mp (gK I hg step vs (k+1) a l1 st1 pZ dB h3) fun r l' af h5 h6=>?_;refine⟨r,l',af,?_,h6⟩;dsimp only[aB];rw[if_pos (hg _ _ _ _ h),h1];dsimp only[Option.bind_some];rw[h2];exact h5
theorem bg{p:cD}{gs:List (Nat×List V)}{cond:Loc→St→Option (Bool×St)}{elt:Loc→St→Option (V×St)}{all:List V}(I:Nat→List V→Loc→St→Prop)(hg:∀k a l st,I k a l st→au gs st)
  (step:∀k v a l st,all[k]? =some v→I k a l st→∃l1 b st1,cb p v l=some l1∧cond l1 st=some (b,st1)∧if b then ∃x ak,elt l1 st1=some (x,ak)∧I (k+1) (a++[x]) l1 ak else I (k+1) a l1 st1)
  {l:Loc} {st:St} (h:I 0 [] l st):∃r l' af,aB p gs cond elt all l st=some (r,af)∧I all.length r l' af:=by
 have:=gK I hg step all 0 [] l st rfl (Nat.zero_le _) h;simpa using this
theorem aR(a c:Int):∀n:Nat,(aD a c n).length=n
 |0=>rfl
 |n+1=>by dsimp only[aD];simp[aR]
theorem mR:∀(n k:Nat) (a c:Int),k<n→(aD a c n)[k]? =some (.int (a+c * k))
 |n+1,0,a,c,h=>by dsimp only[aD];simp
 |n+1,k+1,a,c,h=>by
  dsimp only[aD];simp only[List.getElem?_cons_succ];simp only[mR n k (a+c) c (aC 0x22100010111021100211 rt h)]
  congr 2
  simp only[Int.natCast_add,Int.mul_add];simp;exact cg 0x202102020022010002250 rt
theorem aY(h:(aD a 1 n)[k]? =some v):v=.int (a+k)∧k<n:=by
 have hk:k<n:=by
  haveI:=(cN h)
  rwa [aR]at this
 replace h:=(mR n k a 1 hk)▸h;cases h;exact⟨by simp,hk⟩
theorem dQ st(n:Nat)(h:n≤1000):bU .dY [.int n] st=some ⟨aD 0 1 n,[]⟩:=by
 show(if aZ (n:Int)∧(n:Int)≤ah then some (⟨aD 0 1 (n:Int).toNat,[]⟩:It)else none)=_;rw[if_pos ⟨by unfold aZ;simp;exact aJ 0x22288888888888881007301fd810001 rt h,by unfold ah;exact aJ 0x2238bac817007301fd810001 rt h⟩];rfl
theorem fO st a(n:Nat)(h1: -100000≤a)(h2:a≤100000)(h:n≤1000):bU .dY [.int a,.int (a+n)] st=some ⟨aD a 1 n,[]⟩:=by
 show(if aZ a∧aZ (a+(n:Int))∧a+(n:Int) - a≤ah then some (⟨aD a 1 (a+(n:Int) - a).toNat,[]⟩:It)else none)=_;rw[if_pos ⟨by unfold aZ;simp;exact bA 0x221021228888888888888100300288888888888881636038bac8100310038bac81631 rt h1 h2,by unfold aZ;simp;exact fy 0x222102112288888888888881007002300700228888888888888163601fd81000138bac8100310038bac81631 rt h1 h2 h,by unfold ah;exact fy 0x2238bac817000070025301fd810001 rt h⟩];rw[show(a+(n:Int) - a).toNat=n by exact fZ 0x21210221102021121000200010700250075001070025013601002010010700254671 rt (iq _)]
noncomputable def rowOf(w:Nat)(l y:Int)(g:Int→Int→dG):List V:=(List.range w).map fun i:Nat=>cv (g (l+(i:Int)) y)
structure Cv(st:St)(c hi w h:Nat)(l t:Int)(g:Int→Int→dG)(ri:Nat)(rs:List Nat):Prop where
 c0:c≠0
 lo:c<ri
 le:ri<hi
 len:hi≤st.length
 obj:st[c]? =some (.inst [(3,.int w),(4,.int h),(5,.int l),(6,.int t),(7,.lst ri)])
 cells:st[ri]? =some (.list (rs.map V.lst))
 rl:rs.length=h
 nd:rs.Nodup
 Us:ri∉rs
 row:∀j r:Nat,rs[j]? =some r→c<r∧r<hi∧st[r]? =some (.list (rowOf w l (t+(j:Int)) g))
structure ao(lo hi:Nat)(st af:St):Prop where
 len:st.length≤af.length
 eq:∀i,i<st.length→¬(lo≤i∧i<hi)→af[i]? =st[i]?
theorem ao.refl(lo hi) st:ao lo hi st st:=⟨Nat.le_refl _,fun _ _ _=>rfl⟩
theorem ao.aK{lo hi:Nat}{st af:St}(h:st<+:af):ao lo hi st af:=⟨h.length_le,fun i hi _=>by
 simp only[ag h (List.getElem?_eq_getElem hi)];simp[hi]⟩
theorem ao.trans{lo hi:Nat}{a b c:St}(h1:ao lo hi a b)(h2:ao lo hi b c):ao lo hi a c:=
 ⟨Nat.le_trans h1.len h2.len,fun i hi hn=>by refine(h2.eq i (Nat.lt_of_lt_of_le hi h1.len) hn).symm▸?_;refine(h1.eq i hi hn).symm▸?_;try rfl⟩
theorem ao.get{lo hi:Nat}{a b:St}(h:ao lo hi a b){i:Nat}{c:Cell}(e:a[i]? =some c)(hn:¬(lo≤i∧i<hi)):b[i]? =some c:=by
 exact((h.eq i (cN e) hn).symm▸e)
theorem ao.aN(h:ao lo hi a b)(h1:tP≤lo)(h2:hi≤fE):ao tP fE a b:=⟨h.len,fun i hi hn=>h.eq i hi fun q=>hn ⟨by exact bS 0x2122100000301011020061200001 rt h1 q,by exact bS 0x2212100010200010030061102001 rt h2 q⟩⟩
theorem ao.since(h1:ao lo hi a b)(h2:ao tP fE b c)(hl:∀i,i<a.length→tP≤i→i<fE→lo≤i∧i<hi):ao lo hi a c:=
 ⟨Nat.le_trans h1.len h2.len,fun i hi hn=>by refine(h2.eq i (Nat.lt_of_lt_of_le hi h1.len) fun q=>hn (hl i hi q.1 q.2)).symm▸?_;refine(h1.eq i hi hn).symm▸?_;try rfl⟩
theorem Cv.same(H:Cv st c hi w h l t g ri rs)(hl:st.length≤af.length)(e:∀i,c≤i→i<hi→af[i]? =st[i]?):Cv af c hi w h l t g ri rs:=
 ⟨H.c0,H.lo,H.le,Nat.le_trans H.len hl,by simp only[e _ (Nat.le_refl _) (Nat.lt_trans H.lo H.le)];exact H.obj,by simp only[e _ (Nat.le_of_lt H.lo) H.le];exact H.cells,H.rl,H.nd,H.Us,fun j r hj=>by
  refine jZ (H.row j r hj) fun h1 h2 h3=>?_
  exact⟨h1,h2,by simp only[e _ (Nat.le_of_lt h1) h2];exact h3⟩⟩
theorem Cv.pre{st af:St}{c hi w h:Nat}{l t:Int}{g:Int→Int→dG}{ri:Nat}{rs:List Nat}(H:Cv st c hi w h l t g ri rs)(p:st<+:af):Cv af c hi w h l t g ri rs:=
 H.same p.length_le fun i _ hi=>by
  haveI:i<st.length:=Nat.lt_of_lt_of_le hi H.len;simp only[ag p (List.getElem?_eq_getElem this)];simp[this]
theorem Cv.only{st af:St}{c hi w h lo fE:Nat}{l t:Int}{g:Int→Int→dG}{ri:Nat}{rs:List Nat}(H:Cv st c hi w h l t g ri rs)(o:ao lo fE st af)(hd:hi≤lo∨fE≤c):Cv af c hi w h l t g ri rs:=
 H.same o.len fun i h1 h2=>o.eq i (Nat.lt_of_lt_of_le h2 H.len) (yZ 0x21122022122010110000680301011104001402000030071 rt hd h1 h2)
inductive Cm{X:Type}(p:cD)(f:Run)(v:V)(L:X→Loc)(l:Loc)(st:St)(J:X→St→Prop):Prop
 |nx{l1:Loc}{x:X}{ak:St}(h1:cb p v l=some l1)(h2:f l1 st=some (.next,L x,ak))(h3:J x ak):Cm p f v L l st J
 |ct{l1:Loc}{x:X}{ak:St}(h1:cb p v l=some l1)(h2:f l1 st=some (.cont,L x,ak))(h3:J x ak):Cm p f v L l st J
theorem yz{X:Type}{p:cD}{gs:List (Nat×List V)}{f:Run}{all:List V}(L:X→Loc)(I:Nat→X→St→Prop){x0:X}{st:St}(h:I 0 x0 st)(hg:∀k x st,I k x st→au gs st)
  (step:∀k v x st,all[k]? =some v→I k x st→Cm p f v L (L x) st (I (k+1))) {G:Prop} (fin:∀x af,aw p gs f all (L x0) st=some (L x,af)→I all.length x af→G):G:=by
 refine xl (aH (p:=p) (gs:=gs) (f:=f) (all:=all) (fun k l s=>∃x,l=L x∧I k x s) (fun k l s h=>h.elim fun x h=>hg k x s h.2)
  (fun k v l s hv h=>h.elim fun x h=>?_) ⟨x0,rfl,h⟩) fun l' af e h=>h.elim fun x h=>fin x af (h.1▸e) h.2
 cases h.1▸step k v x s hv h.2 with
 |nx h1 h2 h3=>exact⟨_,_,_,_,h1,h2,(fun _ q=>nomatch q),_,rfl,h3⟩
 |ct h1 h2 h3=>exact⟨_,_,_,_,h1,h2,(fun _ q=>nomatch q),_,rfl,h3⟩
end
section
open PySem
variable{st:St}{c hi w h:Nat}{l t:Int}{g:Int→Int→dG}{ri:Nat}{rs:List Nat}
theorem qS n(H:Cv st c hi w h l t g ri rs)(x1:l≤x)(x2:x<l+w)(y1:t≤y)(y2:y<t+h):ae PG (n+1) 115 [.obj 161 c,.int x,.int y] st=some (.bool true,st):=by
 refine ai (loc0:=[some (.obj 161 c),some (.int x),some (.int y)]) Qe rfl rfl ?_;haveI a1:decide (0≤x - l)=true:=decide_eq_true (dr 0x22100050130001031 rt x1);haveI a2:decide (x - l<(w:Int))=true:=decide_eq_true (lF 0x2200710005400071020041 rt x2);haveI a3:decide (0≤y - t)=true:=decide_eq_true (dr 0x22100050130001031 rt y1);haveI a4:decide (y - t<(h:Int))=true:=decide_eq_true (lF 0x2200710005400071020041 rt y2);refine(bk 0x2a NV [some (V.obj 161 c),some (V.int x),some (V.int y)] st _ (gI H.obj) _ a1 _ (gI H.obj) _ a2 _ (gI H.obj) _ a3 _ (gI H.obj)).trans ?_;simp only[H.obj,a1,a2,a3,a4]
theorem Gl(x1:l≤x)(x2:x<l+w):(rowOf w l y g)[(x - l).toNat]? =some (cv (g x y)):=by
 unfold rowOf;haveI:(x - l).toNat<w:=D7 0x212121021210001000105007500105013601002010010546711070021041100031 rt x1 x2 (iq _);simp[this];rw[Int.max_eq_left (Int.sub_nonneg_of_le x1),Int.add_comm,Int.sub_add_cancel]
theorem qT:(rowOf w l y g).length=w:=by unfold rowOf;simp
theorem Gm(x1:l≤x)(x2:x<l+w):(rowOf w l y g).set (x - l).toNat (cv d)=rowOf w l y (fun a b=>if a=x∧b=y then d else g a b):=by
 simp only[rowOf];apply List.ext_getElem
 ·simp
 ·intro i h1 h2
  simp only[List.length_set,List.length_map,List.length_range]at h1;simp only[List.getElem_set,List.getElem_map,List.getElem_range]
  by_cases e:(x - l).toNat=i
  ·rw[if_pos e,if_pos ⟨by exact D7 0x212121102211121021120211211110007002500010510750010501360110201001054671001021100031 rt x1 e (iq _),trivial⟩]
  ·rw[if_neg e,if_neg fun q=>e (by rw[←q.1,Int.add_comm,Int.add_sub_cancel];rfl)]
theorem Cv.KA(H:Cv st c hi w h l t g ri rs)(y1:t≤y)(y2:y<t+h){GG:Prop}(kk:∀r,rs[(y - t).toNat]? =some r→c<r→r<hi→st[r]? =some (.list (rowOf w l y g))→GG):GG:=by
 have hj:(y - t).toNat<rs.length:=((H.rl).symm▸(D7 0x212121021210001000105007500105013601002010010546711070021041100031 rt y1 y2 (iq _)));refine jZ (H.row _ _ (List.getElem?_eq_getElem hj)) fun h1 h2 h3=>?_;refine kk _ (List.getElem?_eq_getElem hj) h1 h2 ?_;simp only[h3];congr 2;congr 1;exact lF 0x2121102211102202112110007002500010500750010501360100201001054671100031 rt y1 (iq _)
theorem Cv.at(H:Cv st c hi w h l t g ri rs){y:Int}(y1:t≤y)(y2:y<t+h):∃r,rs[(y - t).toNat]? =some r∧c<r∧r<hi∧st[r]? =some (.list (rowOf w l y g)):=Cv.KA H y1 y2 fun x1 x2 x3 x4 x5=>⟨x1,x2,x3,x4,x5⟩
theorem wH(n:Nat)(H:Cv st c hi w h l t g ri rs){x y:Int}(x1:l≤x)(x2:x<l+w)(y1:t≤y)(y2:y<t+h):ae PG (n+2) 122 [.obj 161 c,.int x,.int y] st=some (cv (g x y),st):=by
 refine ai (loc0:=[some (.obj 161 c),some (.int x),some (.int y),none]) Qf rfl rfl ?_;refine H.KA y1 y2 fun r e1 e2 e3 e4=>?_;haveI i1:idx (y - t) (rs.map V.lst).length=some (y - t).toNat:=dj (dr 0x22100050130001031 rt y1) (by simp[H.rl];exact lF 0x2200710005400071020041 rt y2);haveI i2:idx (x - l) (rowOf w l y g).length=some (x - l).toNat:=dj (dr 0x22100050130001031 rt x1) ((qT.symm▸(lF 0x2200710005400071020041 rt x2)));haveI Lf:(rs.map V.lst)[(y - t).toNat]? =some (.lst r):=by simp only[List.getElem?_map,e1];rfl
 exact bk 0x6 NY [some (V.obj 161 c),some (V.int x),some (V.int y),none] st _ (gI H.obj) _ (qS n H x1 x2 y1 y2) _ (gI H.obj) _ (gI H.obj) _ (Bz H.cells i1 Lf) _ (gI H.obj) _ (Bz e4 i2 (Gl x1 x2))
noncomputable def upd(g:Int→Int→dG)(x y:Int)(d:dG):Int→Int→dG:=fun a b=>if a=x∧b=y then d else g a b
theorem qU(n:Nat)(H:Cv st c hi w h l t g ri rs){x y:Int}(d:dG)(x1:l≤x)(x2:x<l+w)(y1:t≤y)(y2:y<t+h){GG:Prop}(kk:∀af,ae PG (n+2) 129 [.obj 161 c,.int x,.int y,cv d] st=some (.none,af)→Cv af c hi w h l t (upd g x y d) ri rs→ao c hi st af→GG):GG:=by
 refine H.KA y1 y2 fun r e1 e2 e3 e4=>?_;haveI r0:r≠0:=aC 0x220100280001011 rt e2;haveI i1:idx (y - t) (rs.map V.lst).length=some (y - t).toNat:=dj (dr 0x22100050130001031 rt y1) (by simp[H.rl];exact lF 0x2200710005400071020041 rt y2);haveI i2:idx (x - l) (rowOf w l y g).length=some (x - l).toNat:=dj (dr 0x22100050130001031 rt x1) ((qT.symm▸(lF 0x2200710005400071020041 rt x2)));haveI Lf:(rs.map V.lst)[(y - t).toNat]? =some (.lst r):=by simp only[List.getElem?_map,e1];rfl
 refine kk (st.set r (.list (rowOf w l y (upd g x y d)))) (bD (loc0:=[some (.obj 161 c),some (.int x),some (.int y),some (cv d),none]) Qg rfl rfl ?_) ?_ ?_
 ·show res (ex PG (ae PG (n+1)) JM _ _)=_
  refine(bk 0x2 JM [some (V.obj 161 c),some (V.int x),some (V.int y),some (cv d),none] st _ (gI H.obj) _ (qS n H x1 x2 y1 y2) _ (gI H.obj) _ (gI H.obj) _ (Bz H.cells i1 Lf) _ (gI H.obj) _ (gL e4) _ i2 r0).trans ?_;simp only[H.obj,H.cells,qS n H x1 x2 y1 y2,i1,i2,Lf,e4,r0,Gm x1 x2];rfl
 ·haveI nr:ri≠r:=fun q=>H.Us (q▸List.mem_of_getElem? e1)
  haveI nc:c≠r:=aC 0x2121000280100011 rt e2;refine⟨H.c0,H.lo,H.le,by simp[H.len],by refine(List.getElem?_set_ne (Ne.symm nc)).symm▸?_;exact H.obj,by refine(List.getElem?_set_ne (Ne.symm nr)).symm▸?_;exact H.cells,H.rl,H.nd,H.Us,fun j r' hj=>?_⟩;refine jZ (H.row j r' hj) fun h1 h2 h3=>?_;refine⟨h1,h2,?_⟩
  by_cases e:r=r'
  ·subst e
   haveI Gn:j=(y - t).toNat:=(List.getElem?_inj (cN hj) H.nd).mp (hj.trans e1.symm);haveI hlen:=H.len;rw[List.getElem?_set_self (by exact aO 0x222100010102001200011 rt e3 hlen)]
   congr 2
   rw[Gn];congr 1;exact lF 0x2211102121102112102200710200501000500751000501360100201100054671001031 rt y1 (iq _)
  ·refine(List.getElem?_set_ne e).symm▸?_;refine h3.symm▸?_
   haveI Gn:j≠(y - t).toNat:=fun q=>by subst q;replace hj:=e1▸hj;cases hj;exact e rfl
   congr 2
   delta rowOf upd;refine List.map_congr_left fun i _=>?_;rw[if_neg (by exact l34 0x211211202111122021111212021230107202510007002568020305207520305013601202012030546712010281 rt Gn (iq _))]
 ·exact⟨by simp,fun i hi hn=>by rw[List.getElem?_set_ne (by exact bS 0x212210221210002803010110200681300011002011 rt e2 e3 hn)]⟩
end
section
open PySem
noncomputable def zc:dG:=(0,0,0,0)
theorem Cp w(l y):rowOf w l y (fun _ _=>zc)=List.replicate w (cv zc):=by
 dsimp only[rowOf];apply List.ext_getElem
 ·simp
 ·intro i h1 h2;simp
theorem hX{st s:St}{i:Nat}{y:Cell}(h:st<+:s)(hi:st.length≤i):st<+:s.set i y:=by
 obtain⟨t,rfl⟩:=h;rw[List.set_append_right _ _ hi];exact List.prefix_append _ _
theorem iD n st(w h:Nat)(l t)(h0:st.length≠0)(hw:1≤w)(hh:1≤h)(n8:w≤1000)(n9:h≤1000){GG:Prop}(kk:∀af ri rs,res (ex PG (ae PG n) JL [some (.obj 161 st.length),some (.int w),some (.int h),some (.int l),some (.int t),none,none] (st++[.inst []]))=some (.next,af)→(Cv af st.length af.length w h l t (fun _ _=>zc) ri rs)→st<+:af→GG):GG:=by
 generalize kA:st++[Cell.inst [(3,.int w),(4,.int h),(5,.int l),(6,.int t)]]=Iy;haveI hc0:Iy[st.length]? =some (.inst [(3,.int w),(4,.int h),(5,.int l),(6,.int t)]):=by subst kA;simp
 have Sw:Iy.length=st.length+1:=by refine kA▸?_;simp
 haveI p0:st<+:Iy:=kA▸List.prefix_append _ _
 obtain⟨acc,lf,s1,e1,I1⟩:=bg (p:=.var 1) (gs:=[]) (cond:=fun l' af=>some (true,af))
  (elt:=fun l' af=>one (ev PG (ae PG n) qv l' af)) (all:=aD 0 1 h)
  (fun k a l s=>(∃o,l=[none,o,none,some (.int w)])∧Iy<+:s∧∃rs:List Nat,a=rs.map V.lst∧rs.length=k∧rs.Nodup∧∀r∈rs,Iy.length≤r∧r<s.length∧s[r]? =some (.list (List.replicate w (cv zc))))
  (fun k a l s _=>by rw[aQ];trivial)
  (fun k v a l s hv hI=>by
   obtain⟨⟨o,rfl⟩,hp,rs,rfl,hlen,Lq,hr⟩:=hI;refine⟨_,true,s,rfl,rfl,?_⟩;refine⟨.lst (s++[Cell.list [cv zc]]).length,(s++[.list [cv zc]])++[.list (List.replicate w (cv zc))],?_,⟨_,rfl⟩,(hp.trans (List.prefix_append _ _)).trans (List.prefix_append _ _),rs++[(s++[Cell.list [cv zc]]).length],by simp,by simp[hlen],?_,?_⟩
   ·haveI w1:(0:Int)≤(w:Int)∧(w:Int)≤(ah:Nat):=by unfold ah;exact aJ 0x2202138bac8170073007013601fd810001 rt n8
    exact yv 0x0 qv (List.set [none,o,none,some (V.int ↑w)] 1 (some v)) s _ (Xa (List.getElem?_concat_length) w1)
   ·rw[List.nodup_append]
    refine⟨Lq,by simp,fun a ha b hb=>?_⟩;simp at hb;subst hb;haveI:=(hr a ha).2.1;exact aC 0x2121110200280100011 rt this
   ·intro r hm
    rcases List.mem_append.mp hm with hm|hm
    ·refine jZ (hr r hm) fun a1 a2 a3=>?_
     exact⟨a1,by simp;exact aC 0x22211020010100011 rt a2,aA _ (aA _ a3)⟩
    ·rw[List.mem_singleton]at hm
     subst hm
     exact⟨by haveI:=hp.length_le;simp;exact aC 0x22111020000100001 rt this,by simp,List.getElem?_concat_length⟩)
  (l:=[none,none,none,some (.int w)]) (st:=Iy) ⟨⟨_,rfl⟩,List.prefix_refl _,[],rfl,rfl,List.nodup_nil,fun r h=>nomatch h⟩
 refine D0 I1 fun _ p1 rs eq3 hlen Lq hr=>?_;try clear I1;obtain rfl:=eq3
 simp only[aR]at hlen;have d1:decide ((w:Int)<1)=false:=decide_eq_false (aJ 0x2211007480001101 rt hw);have d2:decide ((h:Int)<1)=false:=decide_eq_false (aJ 0x2211007480001101 rt hh);haveI i5:rs.length≤100000:=aC 0x212238bac8100001000211fd811001 rt n9 hlen;haveI xG:(s1++[Cell.list (rs.map V.lst)])[st.length]? =some (.inst [(3,.int w),(4,.int h),(5,.int l),(6,.int t)]):=aA _ (ag p1 hc0);have Xg:=p1.length_le;refine kk ((s1++[Cell.list (rs.map V.lst)]).set st.length (.inst [(3,.int w),(4,.int h),(5,.int l),(6,.int t),(7,.lst s1.length)])) s1.length rs ?_ ?_ ?_
 ·unfold JL
  simp! [Km,Kn,Ko,Kp,Kq,R0,and_true,kj,FY,FZ,F0,F8,F9,d1,d2,kA,dQ _ h n9,e1,List.length_map,i5,xG,h0]
 ·refine⟨h0,by exact aO 0x2221100010102001110022021 rt Sw Xg,by simp,Nat.le_refl _,?_,?_,hlen,Lq,fun q=>?_,fun j r hj=>?_⟩
  ·rw[List.getElem?_set_self (by simp;exact aO 0x2221111020010102001110022021 rt Sw Xg)]
  ·rw[List.getElem?_set_ne (by exact aO 0x212211000280102001110022021 rt Sw Xg)];simp
  ·haveI:=(hr _ q).2.1;exact absurd (by assumption) (Nat.lt_irrefl _)
  ·refine jZ (hr r (List.mem_of_getElem? hj)) fun a1 a2 a3=>?_
   refine⟨by exact aO 0x2221100010102001110022021 rt Sw a1,by simp;exact aC 0x22111020010100011 rt a2,?_⟩;rw[List.getElem?_set_ne (by exact aO 0x212211000280102001110022021 rt Sw a1),aA _ a3,Cp]
 ·exact hX ((p0.trans p1).trans (List.prefix_append _ _)) (Nat.le_refl _)
theorem mS n st(w h:Nat)(l t)(h0:st.length≠0)(hw:1≤w)(hh:1≤h)(n8:w≤1000)(n9:h≤1000){GG:Prop}(kk:∀af ri rs,ae PG (n+2) 161 [.int w,.int h,.int l,.int t] st=some (.obj 161 st.length,af)→(Cv af st.length af.length w h l t (fun _ _=>zc) ri rs)→st<+:af→GG):GG:=by
 refine iD n st w h l t h0 hw hh n8 n9 fun af ri rs e H p=>?_;exact kk af ri rs (eP Ij kj (bD Ib rfl rfl e)) H p
theorem sR n st(w h:Nat)(h0:st.length≠0)(hw:1≤w)(hh:1≤h)(n8:w≤1000)(n9:h≤1000){GG:Prop}(kk:∀af ri rs,ae PG (n+2) 161 [.int w,.int h] st=some (.obj 161 st.length,af)→(Cv af st.length af.length w h 0 0 (fun _ _=>zc) ri rs)→st<+:af→GG):GG:=by
 refine iD n st w h 0 0 h0 hw hh n8 n9 fun af ri rs e H p=>?_;exact kk af ri rs (eP Ij kj (bD Ib rfl rfl e)) H p
end
section
open PySem
variable{st:St}{c hi w h:Nat}{l t:Int}{g:Int→Int→dG}{ri:Nat}{rs:List Nat}
theorem Cq n(H:Cv st c hi w h l t g ri rs)(hw:1≤w)(hh:1≤h)(n8:w≤1000)(n9:h≤1000){GG:Prop}(kk:∀af ri rs,ae PG (n+3) 151 [.obj 161 c] st=some (.obj 161 st.length,af)→(Cv af st.length af.length w h l t (fun _ _=>zc) ri rs)→st<+:af→GG):GG:=by
 haveI h0:st.length≠0:=by haveI:=H.len;haveI:=H.le;(rename_i q0;exact aO 0x2220100280102011001001 rt q0 this)
 refine mS n st w h l t h0 hw hh n8 n9 fun af ri rs e H' p=>?_;refine kk af ri rs (ai (loc0:=[some (.obj 161 c),none]) Qj rfl rfl ?_) H' p;exact bk 0x0 N5 [some (V.obj 161 c),none] st _ (gI H.obj) _ (gI H.obj) _ (gI H.obj) _ (gI H.obj) _ e
theorem Cr n(H:Cv st c hi w h l t g ri rs):ae PG (n+1) 553 [.obj 161 c] st=some (.tup [.int l,.int t,.int w,.int h],st):=by
 refine ai (loc0:=[some (.obj 161 c)]) QV rfl rfl ?_;exact bk 0x0 Pr [some (V.obj 161 c)] st _ (gI H.obj) _ (gI H.obj) _ (gI H.obj) _ (gI H.obj)
theorem sS n(H:Cv st c hi w h l t g ri rs)(n9:h≤1000)(n8:w≤1000){GG:Prop}(kk:∀(af:St) (i:Nat) (qs:List Nat),ae PG (n+1) 139 [.obj 161 c] st=some (.lst i,af)→st<+:af→af[i]? =some (.list (qs.map V.lst))→qs.length=h→(∀j q:Nat,qs[j]? =some q→af[q]? =some (.list (rowOf w l (t+(j:Int)) g)))→GG):GG:=by
 obtain⟨acc,lf,s1,e1,_,p1,qs,rfl,hlen,hr⟩:=bg (p:=.var 1) (gs:=[(ri,rs.map V.lst)]) (cond:=fun l' af=>some (true,af))
  (elt:=fun l' af=>one (ev PG (ae PG n) qw l' af)) (all:=rs.map V.lst)
  (fun k a l' s=>(∃o,l'=[none,o,none])∧st<+:s∧∃qs:List Nat,a=qs.map V.lst∧qs.length=k∧∀j q:Nat,qs[j]? =some q→s[q]? =some (.list (rowOf w l (t+(j:Int)) g)))
  (fun k a l' s hI=>by simp only[ay];exact ag hI.2.1 H.cells)
  (fun k v a l' s hv hI=>by
   obtain⟨⟨o,rfl⟩,hp,qs,rfl,hlen,hr⟩:=hI;rw[List.getElem?_map,Option.map_eq_some_iff]at hv;refine b9 hv fun r NC eq2=>?_;try clear hv;obtain rfl:=eq2
   refine jZ (H.row k r NC) fun _ _ h3=>?_;haveI y8:=ag hp h3;refine⟨_,true,s,rfl,rfl,?_⟩;refine⟨.lst s.length,s++[.list (rowOf w l (t+(k:Int)) g)],?_,⟨_,rfl⟩,hp.trans (List.prefix_append _ _),qs++[s.length],by simp,by simp[hlen],fun j q hj=>?_⟩
   ·exact yv 0x1 qw (List.set [none,o,none] 1 (some (V.lst r))) s _ (W9 y8)
   ·by_cases e:j<qs.length
    ·haveI hj:=(List.getElem?_append_left e)▸hj
     exact aA _ (hr j q hj)
    ·rw[List.getElem?_append_right (by exact aC 0x221000000010181 rt e)]at hj
     haveI Sx:j=k:=by
      by_cases e2:j - qs.length=0
      ·exact bS 0x2211121120211111221021121111202112111000200020302200200601302200016710130212000181102021 rt hlen e e2 (bE _ _)
      ·rw[List.getElem?_eq_none (by simp;exact aJ 0x22020011000100281 rt e2)]at hj;cases hj
     subst Sx;rw[hlen]at hj;simp at hj;subst hj
     exact List.getElem?_concat_length)
  (l:=[none,none,none]) (st:=st) ⟨⟨_,rfl⟩,List.prefix_refl _,[],rfl,rfl,fun j q h=>by injection h⟩
 haveI hrl:=H.rl;haveI i5:qs.length≤100000:=by simp only[hlen,List.length_map];exact aC 0x212238bac8100001000211fd811001 rt n9 hrl
 refine kk (s1++[.list (qs.map V.lst)]) s1.length qs (ai (loc0:=[some (.obj 161 c)]) Qh rfl rfl ?_) (p1.trans (List.prefix_append _ _)) List.getElem?_concat_length (by simp only[hlen,List.length_map,H.rl]) (fun j q hj=>aA _ (hr j q hj));exact bk 0x1 N1 [some (V.obj 161 c)] st _ (gI H.obj) _ (FV H.cells) _ e1 (Xb i5)
end
section
open PySem
theorem yA{cond:Loc→St→Option (Bool×St)}{elt:Loc→St→Option (V×St)}{l0:Loc}{a:Int}{n:Nat}{st:St}(F:Nat→V)
  (hc:∀l,cond l st=some (true,st)) (he:∀k,k<n→elt (l0.set 1 (some (.int (a+k)))) st=some (F k,st)):
  aB (.var 1) [] cond elt (aD a 1 n) l0 st=some ((List.range n).map F,st):=by
 obtain⟨r,l',s',e,h1,h2,_⟩:=bg (p:=.var 1) (gs:=[]) (cond:=cond) (elt:=elt) (all:=aD a 1 n)
  (fun k acc l s=>acc=(List.range k).map F∧s=st∧(l=l0∨∃o,l=l0.set 1 o)) (fun _ _ _ _ _=>by rw[aQ];trivial)
  (fun k v acc l s hv hI=>by
   refine jZ hI fun Jp eq1 hl=>?_;try clear hI;obtain rfl:=Jp;obtain rfl:=eq1
   obtain⟨rfl,hk⟩:=aY hv
   have xU:l.set 1 (some (V.int (a+k)))=l0.set 1 (some (.int (a+k))):=by
    rcases hl with rfl|⟨o,rfl⟩
    ·rfl
    ·rw[List.set_set]
   refine⟨_,true,s,rfl,hc _,?_⟩;refine⟨F k,s,?_,by simp only[List.range_succ,List.map_append];rfl,rfl,.inr ⟨_,xU⟩⟩
   rw[xU];exact he k hk)
  (l:=l0) (st:=st) ⟨rfl,rfl,.inl rfl⟩
 rw[aR]at h1;simp only[e,h1,h2]
noncomputable def pl(w:Nat)(l t:Int)(k:Nat):Int×Int:=(l+(k % w:Nat),t+(k / w:Nat))
noncomputable def dX(w:Nat)(l t:Int)(n:Nat):List (Int×Int):=(List.range n).map (pl w l t)
noncomputable def pv(p:Int×Int):V:=.tup [.int p.1,.int p.2]
theorem Gp(w j)(l t)(hw:0<w):dX w l t ((j+1) * w)=dX w l t (j * w)++(List.range w).map fun i:Nat=>(l+(i:Int),t+(j:Int)):=by
 unfold dX;simp only[Nat.succ_mul,List.range_add,List.map_append,List.map_map]
 congr 1
 refine List.map_congr_left fun i hi=>?_;haveI fE:i<w:=List.mem_range.mp hi;unfold pl;simp only[Function.comp];simp only[Nat.mul_comm j w,Nat.mul_add_mod,Nat.mod_eq_of_lt fE,Nat.mul_add_div hw,Nat.div_eq_of_lt fE,Nat.add_zero]
theorem hY{w h:Nat}{l t x y:Int}:(x,y)∈dX w l t (h * w)↔(l≤x∧x<l+w∧t≤y∧y<t+h):=by
 delta dX pl;rw[List.mem_map];constructor
 ·rintro ⟨k,hk,e⟩
  have hk:=List.mem_range.mp hk
  have hw:0<w:=by
   rcases Nat.eq_zero_or_pos w with q|q
   ·subst q;simp at hk
   ·exact q
  haveI h1:=Nat.mod_lt k hw;haveI h2:k / w<h:=Nat.div_lt_of_lt_mul (by rw[Nat.mul_comm];exact hk);cases e;generalize k % w=r at *;generalize k / w=q at *;refine⟨by exact fy 0x20070020030 rt,by exact fZ 0x2210700200700240100011 rt h1,by exact fy 0x20070020030 rt,by exact fZ 0x2210700200700240100011 rt h2⟩
 ·rintro ⟨h1,h2,h3,h4⟩
  have hw:0<w:=lF 0x2220001100070021041100031 rt h1 h2;refine⟨(y - t).toNat * w+(x - l).toNat,List.mem_range.mpr ?_,?_⟩
  ·haveI:(y - t).toNat+1≤h:=D7 0x212121021210110020000105007500105013601002010010546711070021041100031 rt h3 h4 (iq _)
   haveI:=Nat.mul_le_mul_right w this;rw[Nat.succ_mul]at this;exact l42 0x21212120212122120100021010005107510005013601102011000546712030002013001113071020041 rt h2 hw this (iq _)
  ·haveI hm:(x - l).toNat<w:=D7 0x212112021212110001010005007510005013601002011000546711001111071020041 rt h2 hw (iq _)
   simp only[Nat.mul_comm,Nat.mul_add_mod,Nat.mod_eq_of_lt hm,Nat.mul_add_div hw,Nat.div_eq_of_lt hm];exact Prod.ext (by simp;lia) (by simp;lia)
theorem ia w(l t) n:(dX w l t n).Nodup:=by
 refine List.Pairwise.map _ ?_ (List.nodup_range (n:=n));intro a b nK e;unfold pl at e;haveI e1:=congrArg Prod.fst e;haveI e2:=congrArg Prod.snd e;simp only at e1 e2;haveI h1:a % w=b % w:=by lia
 haveI h2:a / w=b / w:=by lia
 haveI:=Nat.div_add_mod a w;haveI:=Nat.div_add_mod b w;rw[h1,h2]at *
 simp_all
end
section
open PySem
variable{st:St}{c hi w h:Nat}{l t:Int}{g:Int→Int→dG}{ri:Nat}{rs:List Nat}
theorem uO n(H:Cv st c hi w h l t g ri rs)(hw:1≤w)(n8:w≤10)(n9:h≤10)(l1: -1000≤l)(l2:l≤1000)(t1: -1000≤t)(t2:t≤1000){GG:Prop}(kk:∀(af:St),ae PG (n+1) 144 [.obj 161 c] st=some (.lst st.length,af)→st<+:af→af[st.length]? =some (.list ((dX w l t (h * w)).map pv))→GG):GG:=by
 haveI h0:st.length≠0:=by haveI:=H.len;haveI:=H.le;(rename_i q0;exact aO 0x2220100280102011001001 rt q0 this)
 obtain⟨lf,s1,e1,o,rfl,p1,hf⟩:=aH (p:=.var 2) (gs:=[])
  (f:=ex PG (ae PG n) qx)
  (all:=aD t 1 h)
  (fun k lo s=>∃o,lo=[some (.obj 161 c),some (.lst st.length),o,none]∧st<+:s∧s[st.length]? =some (.list ((dX w l t (k * w)).map pv)))
  (fun _ _ _ _=>by rw[aQ];trivial)
  (fun k v lo s hv hI=>by
   refine zr hI fun o eq1 hp hf=>?_;try clear hI;obtain rfl:=eq1
   obtain⟨rfl,hk⟩:=aY hv;haveI vQ:=ag hp H.obj
   haveI Sy:=yA (cond:=fun l' af=>some (true,af)) (elt:=fun l' af=>one (ev PG (ae PG n) kR l' af))
    (l0:=[none,none,some (.int (t+k))]) (a:=l) (n:=w) (st:=s) (fun i=>.tup [.int (l+i),.int (t+k)]) (fun _=>rfl) (fun i hi=>by unfold kR;exact yv 0x0 kR (List.set [none,none,some (V.int (t+↑k))] 1 (some (V.int (l+↑i)))) s)
   haveI hlen:s.length≠st.length:=by
    intro q;rw[List.getElem?_eq_none (by exact aC 0x212100000100021 rt q)]at hf;cases hf
   haveI wJ:st.length<s.length:=(cN hf)
   haveI w5:((dX w l t (k * w)).map pv).length+((List.range w).map fun i:Nat=>V.tup [.int (l+i),.int (t+k)]).length<100000:=by
    have:k * w≤10 * 10:=Nat.mul_le_mul (aC 0x2221a100001000111a11001 rt n9 hk) n8;simp[dX];exact aC 0x22238bac8110002101a11a300011a11001 rt n8 this
   haveI w6:((List.range w).map fun i:Nat=>V.tup [.int (l+i),.int (t+k)]).length≤100000:=by simp;exact aJ 0x2238bac8100001a10001 rt n8
   haveI Az:(s++[Cell.list ((List.range w).map fun i:Nat=>V.tup [.int (l+i),.int (t+k)])])[st.length]? =some (.list ((dX w l t (k * w)).map pv)):=aA _ hf;refine⟨_,.next,[some (.obj 161 c),some (.lst st.length),some (.int (t+k)),none],(s++[Cell.list ((List.range w).map fun i:Nat=>V.tup [.int (l+i),.int (t+k)])]).set st.length (.list ((dX w l t ((k+1) * w)).map pv)),rfl,?_,(fun _ q=>nomatch q),?_⟩
   ·unfold qx
    simp! [Kr,Ks,Bool.or_true,hf,vQ,fO s l w (bA 0x220038bac81630001fd81631 rt l1) (bA 0x2238bac8100301fd810031 rt l2) (aJ 0x221fd8100001a10001 rt n8),Sy,w6,Az,h0,hlen,w5];simp only[Gp w k l t (aJ 0x22000110001101 rt hw),List.map_append,List.map_map];rfl
   ·refine⟨_,rfl,hX (hp.trans (List.prefix_append _ _)) (Nat.le_refl _),?_⟩
    rw[List.getElem?_set_self (by simp;exact aC 0x22111020010100011 rt wJ)])
  (l:=[some (.obj 161 c),some (.lst st.length),none,none]) (st:=st++[.list []])
  ⟨none,rfl,List.prefix_append _ _,by simp[dX]⟩
 rw[aR]at hf;refine kk s1 (ai (loc0:=[some (.obj 161 c),none,none,none]) Qi rfl rfl ?_) p1 hf;haveI vQ:(st++[Cell.list []])[c]? =some (.inst [(3,.int w),(4,.int h),(5,.int l),(6,.int t),(7,.lst ri)]):=aA _ H.obj;exact bk 0x3 N3 [some (V.obj 161 c),none,none,none] st _ (gI vQ) _ (gI vQ) _ (gI vQ) _ (fO _ t h (bA 0x220038bac81630001fd81631 rt t1) (bA 0x2238bac8100301fd810031 rt t2) (aJ 0x221fd8100001a10001 rt n9)) _ e1
end
section
open PySem
theorem wK{n a:Int}(n0:0≤n)(n1:n≤255)(a0:0≤a):0≤n * a∧n * a≤255 * a:=
 ⟨Int.mul_nonneg n0 a0,Int.mul_le_mul_of_nonneg_right n1 a0⟩
theorem mU{n a:Int}(n0:0≤n)(n1:n≤255)(a0:0≤a):0≤part n a∧part n a≤a:=by
 haveI h1:=(wK n0 n1 a0).1;haveI h2:=(wK n0 n1 a0).2;unfold part;rw[Int.mul_assoc];exact cg 0x7fe8123107fe821131000300013607fe1007fe323ff12023243ff120232007fe3361103ff32031200131 rt h1 h2 (dI 510 (by decide) _)
structure bH(c:dG):Prop where
 a1:0≤c.2.2.2
 a2:c.2.2.2≤255
theorem sT:bH zc:=⟨by decide,by decide⟩
theorem fP(h:bH c)(a0:0≤a)(a1:a≤255):bH (dq c a):=by
 haveI:=mU h.1 h.2 a0;exact⟨this.1,by show part c.2.2.2 a≤255;exact dr 0x22123ff100301000300013613ff11031 rt a1 this⟩
theorem uP(ha:bH a)(hb:bH b):bH (lay a b):=by
 haveI:=mU hb.1 hb.2 (a:=255 - a.2.2.2) (by haveI:=ha.2;exact bA 0x22003ff1501303ff10031 rt this);haveI h1:=ha.1;exact⟨by show 0≤a.2.2.2+part b.2.2.2 (255 - a.2.2.2);exact dr 0x2212100020130000131003ff151031001361 rt this h1,by show a.2.2.2+part b.2.2.2 (255 - a.2.2.2)≤255;exact dr 0x2213ff11000230003ff151031001361 rt this⟩
theorem KC(h:bH c):cW c.2.2.2:=cz (by have:=h.1;exact bA 0x22003ec99881630000131 rt this) (by have:=h.2;exact bA 0x223ec9988100303ff10031 rt this)
theorem jv(h:bH c):cW (255 - c.2.2.2):=cz (by haveI:=h.2;exact bA 0x22003ff153ec998816303ff10031 rt this) (by haveI:=h.1;exact bA 0x223ec99881003ff1530000131 rt this)
theorem Cv.congr(H:Cv st c hi w h l t g ri rs)(e:∀x y,l≤x→x<l+w→t≤y→y<t+h→g x y=g' x y):Cv st c hi w h l t g' ri rs:=
 ⟨H.c0,H.lo,H.le,H.len,H.obj,H.cells,H.rl,H.nd,H.Us,fun j r hj=>by
  refine jZ (H.row j r hj) fun h1 h2 h3=>?_;haveI VP:j<h:=((H.rl)▸(cN hj));refine⟨h1,h2,?_⟩;simp only[h3]
  congr 2
  refine List.map_congr_left fun i fE=>?_;haveI:=List.mem_range.mp fE
  rw[e _ _ (by exact fy 0x20070020030 rt) (by exact fZ 0x2210700200700240100011 rt this) (by exact fy 0x20070020030 rt) (by exact fZ 0x2210700200700240100011 rt VP)]⟩
structure Lay(st:St)(L si:Nat)(cs:List Nat):Prop where
 L0:L≠0
 s0:si≠0
 obj:st[L]? =some (.inst [(25,.lst si)])
 uQ:st[si]? =some (.list (cs.map (V.obj 161)))
theorem uR n st c(h0:st.length≠0){GG:Prop}(kk:∀af,ae PG (n+2) 304 [.obj 161 c] st=some (.obj 304 st.length,af)→Lay af st.length (st.length+1) [c]→st<+:af→af.length=st.length+2→GG):GG:=by
 refine kk ((st++[.inst [(25,.lst (st.length+1))]])++[.list [.obj 161 c]]) (eP Rg sF (bD (loc0:=[some (.obj 304 st.length),some (.obj 161 c)]) Qr rfl rfl ?_)) ⟨h0,by exact aJ 0x20111002280 rt,?_,?_⟩ ((List.prefix_append _ _).trans (List.prefix_append _ _)) (by simp)
 ·show res (ex PG (ae PG n) JP _ _)=_
  haveI e:(st++[Cell.inst []]++[Cell.list [V.obj 161 c]])[st.length]? =some (.inst []):=aA _ List.getElem?_concat_length;refine(bk 0x0 JP [some (V.obj 304 (List.length st)),some (V.obj 161 c)] (st++[Cell.inst []]) _ (gI e) h0).trans ?_;simp! [Km,Kn,Ko,Kp,Kq,and_true,sF,BX,e,h0];simp
 ·exact aA _ List.getElem?_concat_length
 ·simp
theorem sU n st c(h0:st.length≠0):∃af,ae PG (n+2) 304 [.obj 161 c] st=some (.obj 304 st.length,af)∧Lay af st.length (st.length+1) [c]∧st<+:af∧af.length=st.length+2:=uR n st c h0 fun x1 x2 x3 x4 x5=>⟨x1,x2,x3,x4,x5⟩
theorem jw n:idx (-1) (n+1)=some n:=by
 unfold idx;rw[if_neg (by exact D6 0x211601380 rt),if_pos (by exact aJ 0x211002711620130 rt)]
 congr 1;exact aC 0x21210221102021121000201110271162007511102711620136010020111102711624671 rt (iq _)
theorem Ct(n:Nat){st:St}{L si:Nat}{cs:List Nat}{c:Nat}(H:Lay st L si (cs++[c])):ae PG (n+1) 280 [.obj 304 L] st=some (.obj 161 c,st):=by
 refine ai (loc0:=[some (.obj 304 L)]) Qs rfl rfl ?_;haveI hs:=H.uQ;generalize hm:(cs++[c]).map (V.obj 161)=ms at hs;haveI e:idx (-1) ms.length=some cs.length:=by simp only[←hm,List.length_map,List.length_append];exact jw _
 haveI e2:ms[cs.length]? =some (.obj 161 c):=by refine hm▸?_;simp
 exact bk 0x1 Oo [some (V.obj 304 L)] st _ (gI H.obj) _ (Bz hs e e2)
theorem Gq n(H:Lay st L si cs):ae PG (n+1) 287 [.obj 304 L] st=some (.int (cs.length - 1),st):=by
 refine ai (loc0:=[some (.obj 304 L),none]) Qt rfl rfl ?_;refine(bk 0x1 Ot [some (V.obj 304 L),none] st _ (gI H.obj) _ (Sg H.uQ)).trans ?_;simp only[H.obj,H.uQ,List.length_map]
theorem aX s i y:ao i (i+1) s (s.set i y):=⟨by simp,fun j _ hn=>by rw[List.getElem?_set_ne (by exact aC 0x21202210002801100210110000681 rt hn)]⟩
theorem visit{L:List (Int×Int)}(hL:L.Nodup)(hk:L[k]? =some p):(∀q,q∈L.take (k+1)↔q∈L.take k∨q=p)∧p∉L.take k:=by
 haveI e:L.take (k+1)=L.take k++[p]:=by simp only[List.take_add_one,hk];rfl
 refine⟨fun q=>by rw[e];simp,fun hp=>?_⟩;haveI:=hL.sublist (List.take_sublist (k+1) L);rw[e,List.nodup_append]at this;exact this.2.2 p hp p (List.mem_cons_self ..) rfl
noncomputable def jx(T:List (Int×Int))(F g:Int→Int→dG):Int→Int→dG:=fun x y=>if(x,y)∈T then F x y else g x y
theorem mV{L:List (Int×Int)}{k:Nat}{x y:Int}{F g:Int→Int→dG}(hL:L.Nodup)(hk:L[k]? =some (x,y)):upd (jx (L.take k) F g) x y (F x y)=jx (L.take (k+1)) F g∧jx (L.take k) F g x y=g x y:=by
 haveI h1:=(visit hL hk).1;haveI h2:=(visit hL hk).2;refine⟨?_,by unfold jx;rw[if_neg h2]⟩
 funext a b
 delta upd jx;rcases Classical.em (a=x∧b=y)with e|e
 ·obtain⟨rfl,rfl⟩:=e
  rw[if_pos ⟨rfl,rfl⟩,if_pos ((h1 _).mpr (.inr rfl))]
 ·rw[if_neg e]
  refine(Classical.em ((a,b)∈L.take k)).elim (fun hm=>?_) fun hm=>?_
  ·rw[if_pos hm,if_pos ((h1 _).mpr (.inl hm))]
  ·rw[if_neg hm,if_neg fun q=>((h1 _).mp q).elim hm fun q=>e (by cases q;exact⟨rfl,rfl⟩)]
end
section
open PySem
variable{st:St}{L si c0 tQ c1 Gr w h:Nat}{l t:Int}{g g0 g1:Int→Int→dG}{ri Sz Gs:Nat}{rs SD Gu:List Nat}
theorem Lay.ne(H:Lay st L si [c0]):L≠si:=fun e=>by
 haveI h1:=H.obj;haveI h2:=H.uQ;replace h1:=h2▸(e▸h1);cases h1
theorem Cu n(H:Lay st L si [c0])(Hc:Cv st c0 tQ w h l t g ri rs)(hw:1≤w)(hh:1≤h)(n8:w≤1000)(n9:h≤1000){GG:Prop}(kk:∀af c1 Gr Gs Gu,ae PG (n+4) 294 [.obj 304 L] st=some (.none,af)→Lay af L si [c0,c1]→(Cv af c1 Gr w h l t (fun _ _=>zc) Gs Gu)→st.length≤c1→ao si (si+1) st af→GG):GG:=by
 refine Cq n Hc hw hh n8 n9 fun s1 Gs Gu e1 C1 p1=>?_;haveI nO:si<st.length:=(cN H.uQ);haveI qi:=ag p1 H.uQ;haveI Z7:=p1.length_le;refine kk (s1.set si (.list [.obj 161 c0,.obj 161 st.length])) st.length s1.length Gs Gu (bD (loc0:=[some (.obj 304 L)]) Qu rfl rfl ?_) ⟨H.L0,H.s0,?_,?_⟩ (C1.only (aX _ _ _) (aO 0x212201110201000070201011 rt nO)) (Nat.le_refl _) ?_
 ·show res (ex PG (ae PG (n+3)) Ov _ _)=_
  haveI Xh:=Ct (n+2) (cs:=[]) H;haveI fV:=H.uQ;exact bk 0x0 (S.seq (S.expr (E.aF (E.attr (E.loc 0) 25) 0 (E.cons (E.aF (E.aF (E.loc 0) 6 E.nil) 12 E.nil) E.nil))) S.skip) [some (V.obj 304 L)] st _ (gI H.obj) (qO fV H.s0 rfl) _ (gI H.obj) _ Xh _ (gI Hc.obj) _ e1 _ (BA qi (Nat.le_of_ble_eq_true rt))
 ·exact((List.getElem?_set_ne (Ne.symm H.ne)).symm▸(ag p1 H.obj))
 ·rw[List.getElem?_set_self (by exact aO 0x222100010102001200011 rt nO Z7)];rfl
 ·exact⟨by simp;exact aC 0x22100000100001 rt Z7,fun i hi hn=>by rw[List.getElem?_set_ne (by exact aC 0x21202210002801100210110000681 rt hn),ag p1 (List.getElem?_eq_getElem hi)];simp[hi]⟩
theorem KD n(H:Lay st L si [c0])(Hc:Cv st c0 tQ w h l t g ri rs)(hw:1≤w)(hh:1≤h)(n8:w≤1000)(n9:h≤1000):
  ∃af c1 Gr Gs Gu,ae PG (n+4) 294 [.obj 304 L] st=some (.none,af)∧Lay af L si [c0,c1]∧Cv af c1 Gr w h l t (fun _ _=>zc) Gs Gu∧st.length≤c1∧ao si (si+1) st af:=Cu n H Hc hw hh n8 n9 fun x1 x2 x3 x4 x5 x6 x7 x8 x9 M'=>⟨x1,x2,x3,x4,x5,x6,x7,x8,x9,M'⟩
theorem Gv n(H:Lay st L si [c0,c1])(H0:Cv st c0 tQ w h l t g0 Sz SD)(H1:Cv st c1 Gr w h l t g1 Gs Gu)(hd:tQ≤c1)(kA:si<c0∨tQ≤si)(qi:si<c1∨Gr≤si)
  (Xi:L<c0∨tQ≤L) (hw:1≤w) (hh:1≤h) (n8:w≤10) (n9:h≤10) (l1: -1000≤l) (l2:l≤1000) (t1: -1000≤t) (t2:t≤1000)
  {o:Int} (o0:0≤o) (o1:o≤255) (a0:∀x y,bH (g0 x y)) (a1:∀x y,bH (g1 x y)) {GG:Prop} (kk:∀af,ae PG (n+6) 301 [.obj 304 L,.int o,jL,.fn 579] st=some (.none,af)→Lay af L si [c0]→(Cv af c0 tQ w h l t (fun x y=>lay (dq (g1 x y) o) (g0 x y)) Sz SD)→st.length≤af.length→(∀i,i<st.length→i≠si→¬(c0≤i∧i<tQ)→af[i]? =st[i]?)→GG):GG:=by
 haveI nO:si<st.length:=(cN H.uQ)
 haveI hLs:L≠si:=fun e=>by
  haveI h1:=H.obj;haveI h2:=H.uQ;replace h1:=h2▸(e▸h1);cases h1
 haveI fV:=H.uQ;simp only[List.map_cons,List.map_nil]at fV;generalize zj:st.set si (.list [.obj 161 c0])=sA;have lA:sA.length=st.length:=by subst zj;simp
 have oA:ao si (si+1) st sA:=zj▸aX _ _ _;have HA:Lay sA L si [c0]:=⟨H.L0,H.s0,by refine zj▸?_;refine(List.getElem?_set_ne (Ne.symm hLs)).symm▸?_;exact H.obj,by refine zj▸?_;refine(List.getElem?_set_self nO).symm▸?_;rfl⟩;have Z8:=H0.only oA (aO 0x220212201110201000070100002010171 rt kA);have Xj:=H1.only oA (aO 0x220212201110201000070100002010171 rt qi);refine uO (n+4) Xj hw n8 n9 l1 l2 t1 t2 fun sB eB pB fB=>?_;haveI H0B:=Z8.pre pB;haveI H1B:=Xj.pre pB;haveI lB:=pB.length_le
 obtain⟨lf,s1,e1,⟨ox,oy,oa,rfl⟩,O1,C1⟩:=aH (p:=.vars [6,7]) (gs:=[(sA.length,(dX w l t (h * w)).map pv)]) (f:=ex PG (ae PG (n+5)) qy) (all:=(dX w l t (h * w)).map pv)
  (fun k lo s=>(∃ox oy oa,lo=[some (.obj 304 L),some (.int o),some jL,some (.fn 579),some (.obj 161 c1),some (.obj 161 c0),ox,oy,oa,none,none,none])∧ao c0 tQ sB s∧
   Cv s c0 tQ w h l t (jx ((dX w l t (h * w)).take k) (fun x y=>lay (dq (g1 x y) o) (g0 x y)) g0) Sz SD)
  (fun k lo s hI=>by
   simp only[ay];haveI:=Z8.len
   exact hI.2.1.get fB (aO 0x2122010110000680102001 rt this))
  (fun k v lo s hv hI=>by
   refine gP fun GP kP=>?_;obtain⟨⟨ox,oy,oa,rfl⟩,O,C⟩:=hI;rw[List.getElem?_map,Option.map_eq_some_iff]at hv;obtain⟨⟨x,y⟩,hp,rfl⟩:=hv;refine kP ?_;refine gP fun GP kP=>?_;refine zp (hY.mp (List.mem_of_getElem? hp)) fun x1 x2 y1 y2=>?_;haveI fV:=mV (F:=fun x y=>lay (dq (g1 x y) o) (g0 x y)) (g:=g0) (ia w l t (h * w)) hp;haveI C1:=H1B.only O (bS 0x212302001000070302001 rt hd);have so:=cz (a:=o) (bA 0x22003ec99881630000131 rt o0) (bA 0x223ec9988100303ff10031 rt o1);have h0s:s.length≠0:=by haveI:=C.len;haveI:=C.le;(rename_i q0;exact aO 0x2220100280102011001001 rt q0 this)
   haveI Xk:=fP (a1 x y) o0 o1;refine Ck n (g1 x y) (g0 x y) o s h0s so (jv Xk) (KC (a0 x y)) (jv (a0 x y)) fun s2 e2 p2=>?_;refine qU (n+3) (C.pre p2) (lay (dq (g1 x y) o) (g0 x y)) x1 x2 y1 y2 fun s3 e3 C3 O3=>?_;haveI g1':=wH (n+3) C1 x1 x2 y1 y2;haveI Xl:=wH (n+3) C x1 x2 y1 y2;haveI Xl:=(fV.2)▸Xl;rw[fV.1]at C3;haveI wt:=bG (n+4) o 255 s eX;simp only[lg]at wt;refine kP ?_;refine⟨_,.next,[some (.obj 304 L),some (.int o),some jL,some (.fn 579),some (.obj 161 c1),some (.obj 161 c0),some (.int x),some (.int y),some (.int o),none,none,none],s3,rfl,?_,(fun _ q=>nomatch q),⟨_,_,_,rfl⟩,(O.trans (.aK p2)).trans O3,C3⟩;unfold qy
   simp! [DP,A19,kj,qQ,mN,C1.obj,C.obj,BI,wt,g1',Xl,e2,e3])
  (l:=[some (.obj 304 L),some (.int o),some jL,some (.fn 579),some (.obj 161 c1),some (.obj 161 c0),none,none,none,none,none,none]) (st:=sB)
  ⟨⟨_,_,_,rfl⟩,.refl _ _ _,H0B.congr fun x y _ _ _ _=>by unfold jx;simp⟩
 haveI hlen:((dX w l t (h * w)).map pv).length=(dX w l t (h * w)).length:=by simp
 replace C1:=(List.take_length)▸(hlen▸C1);refine kk s1 (bD (loc0:=[some (.obj 304 L),some (.int o),some jL,some (.fn 579),none,none,none,none,none,none,none,none]) Qv rfl rfl ?_) ⟨H.L0,H.s0,O1.get (ag pB HA.obj) (aO 0x2120222010110000680102000010171 rt Xi),O1.get (ag pB HA.uQ) (aO 0x2120222010110000680102000010171 rt kA)⟩ (C1.congr fun x y b1 b2 b3 b4=>by dsimp only[jx];rw[if_pos (hY.mpr ⟨b1,b2,b3,b4⟩)]) (by haveI:=O1.len;exact bS 0x22221100000103001302001002021 rt lA lB this) (fun i hi h1 h2=>?_)
 ·show res (ex PG (ae PG (n+5)) JQ _ _)=_
  unfold JQ;haveI dp:=Gq (n+4) H;have tp:=Ct (n+4) (cs:=[]) HA;simp only[List.length_cons,List.length_nil]at dp;have hz:((((0+1+1:Nat):Int) - 1)==0)=false:=by decide
  have hgl:[V.obj 161 c0,V.obj 161 c1].getLast? =some (.obj 161 c1):=rfl;have Jc:[V.obj 161 c0,V.obj 161 c1].dropLast=[.obj 161 c0]:=rfl;simp! [FL,Bool.or_true,kj,BO,sF,Ga,BV,dp,hz,H.obj,fV,H.s0,hgl,Jc,zj,tp,HA.obj,Xj.obj,eB,fB,e1]
 ·rw[O1.eq i (bS 0x22221100010300011102001302021 rt lA lB hi) h2,ag pB ((zj▸((List.getElem?_set_ne (Ne.symm h1)).symm▸(List.getElem?_eq_getElem hi))))]
  simp[hi]
theorem SE n(H:Lay st L si [c0,c1])(H0:Cv st c0 tQ w h l t g0 Sz SD)(H1:Cv st c1 Gr w h l t g1 Gs Gu)(hd:tQ≤c1)(kA:si<c0∨tQ≤si)(qi:si<c1∨Gr≤si)
  (Xi:L<c0∨tQ≤L) (hw:1≤w) (hh:1≤h) (n8:w≤10) (n9:h≤10) (l1: -1000≤l) (l2:l≤1000) (t1: -1000≤t) (t2:t≤1000)
  (o0:0≤o) (o1:o≤255) (a0:∀x y,bH (g0 x y)) (a1:∀x y,bH (g1 x y)):
  ∃af,ae PG (n+6) 301 [.obj 304 L,.int o,jL,.fn 579] st=some (.none,af)∧Lay af L si [c0]∧Cv af c0 tQ w h l t (fun x y=>lay (dq (g1 x y) o) (g0 x y)) Sz SD∧
   st.length≤af.length∧∀i,i<st.length→i≠si→¬(c0≤i∧i<tQ)→af[i]? =st[i]? :=Gv n H H0 H1 hd kA qi Xi hw hh n8 n9 l1 l2 t1 t2 o0 o1 a0 a1 fun x1 x2 x3 x4 x5 x6=>⟨x1,x2,x3,x4,x5,x6⟩
end
section
open PySem
noncomputable abbrev Spot:=Int×Int
noncomputable abbrev Sd:=Int×Int×Int×Int×Int
noncomputable def wL(d:Sd):List (Nat×V):=[(28,.int d.1),(29,.int d.2.1),(30,.int d.2.2.1),(31,.int d.2.2.2.1),(32,.int d.2.2.2.2)]
noncomputable def aS(a b:Spot):Option Sd:=if a.2=b.2 then none else if a.2<b.2 then some (a.1,a.2,b.1,b.2,1)else some (b.1,b.2,a.1,a.2,-1)
noncomputable def mW(s:List Spot):List (Spot×Spot):=s.zip (s.drop 1)++(if 1<s.length then[(s.getLast?.getD (0,0),s.head?.getD (0,0))]else[])
noncomputable def Gw(p:Spot×Spot):V:=.tup [pv p.1,pv p.2]
noncomputable def gi(s:List Spot):V:=.tup [.tup (s.map pv),.bool true]
theorem Cw n d st(h0:st.length≠0):
  ae PG (n+2) 403 [.int d.1,.int d.2.1,.int d.2.2.1,.int d.2.2.2.1,.int d.2.2.2.2] st=some (.obj 403 st.length,st++[.inst (wL d)]):=by
 refine eP Rh Bj ?_;refine bD (loc0:=[some (.obj 403 st.length),some (.int d.1),some (.int d.2.1),some (.int d.2.2.1),some (.int d.2.2.2.1),some (.int d.2.2.2.2)]) QE rfl rfl ?_;show res (ex PG (ae PG n) JU _ _)=_;unfold JU;simp! [Km,Kn,Ko,Kp,Kq,R0,and_true,Bj,B1,B2,B4,B5,B6,h0,wL]
noncomputable def Xm(o:Option Sd)(i:Nat):V:=match o with
 |none=>.none
 |some _=>.obj 403 i
noncomputable def Xn(o:Option Sd):List Cell:=match o with
 |none=>[]
 |some d=>[.inst (wL d)]
theorem Xo i:Xm none i=.none:=rfl
theorem Xp d i:Xm (some d) i=.obj 403 i:=rfl
theorem SF:Xn none=[]:=rfl
theorem Xq d:Xn (some d)=[.inst (wL d)]:=rfl
theorem Gx vs st:d7 .dZ (.tup vs) st=if vs.length=0 then none else some ([.tup (vs.drop 1)],st):=rfl
theorem Gy n(a b) st (h0:st.length≠0):ae PG (n+3) 414 [pv a,pv b] st=some (Xm (aS a b) st.length,st++Xn (aS a b)):=by
 refine ai (loc0:=[some (pv a),some (pv b),none]) QH rfl rfl ?_;show res (ex PG (ae PG (n+2)) Fn _ _)=_;delta Fn aS;haveI e1:=Cw n (a.1,a.2,b.1,b.2,1) st h0;haveI e2:=Cw n (b.1,b.2,a.1,a.2,-1) st h0
 by_cases h1:a.2=b.2
 ·have hb:(a.2==b.2)=true:=by simpa using h1
  refine(if_pos h1).symm▸?_;refine(bk 0x8 Fn [some (pv a),some (pv b),none] st _ hb).trans ?_;simp! [List.append_nil,pv,hb,Xo,SF,List.append_nil]
 ·have hb:(a.2==b.2)=false:=by simpa using h1
  by_cases h2:a.2<b.2
  ·have hc:decide (a.2<b.2)=true:=decide_eq_true h2
   simp only at e1;rw[if_neg h1,if_pos h2];exact bk 0x88 (S.seq (S.ite (E.cmp CmpOp.Eq (E.sub (E.loc 0) (E.cst (V.int 1))) (E.sub (E.loc 1) (E.cst (V.int 1)))) (S.seq (S.ret (E.cst V.none)) S.skip) S.skip) (S.seq (S.ite (E.cmp CmpOp.Lt (E.sub (E.loc 0) (E.cst (V.int 1))) (E.sub (E.loc 1) (E.cst (V.int 1)))) (S.seq (S.ret (E.call (E.cst (V.fn 403)) (E.cons (E.sub (E.loc 0) (E.cst (V.int 0))) (E.cons (E.sub (E.loc 0) (E.cst (V.int 1))) (E.cons (E.sub (E.loc 1) (E.cst (V.int 0))) (E.cons (E.sub (E.loc 1) (E.cst (V.int 1))) (E.cons (E.cst (V.int 1)) E.nil))))))) S.skip) S.skip) (S.seq (S.ret (E.call (E.cst (V.fn 403)) (E.cons (E.sub (E.loc 1) (E.cst (V.int 0))) (E.cons (E.sub (E.loc 1) (E.cst (V.int 1))) (E.cons (E.sub (E.loc 0) (E.cst (V.int 0))) (E.cons (E.sub (E.loc 0) (E.cst (V.int 1))) (E.cons (E.neg (E.cst (V.int 1))) E.nil))))))) S.skip))) [some (pv a),some (pv b),none] st _ hb _ hc _ e1
  ·have hc:decide (a.2<b.2)=false:=decide_eq_false h2
   simp only at e2;rw[if_neg h1,if_neg h2];exact bk 0x88 (S.seq (S.ite (E.cmp CmpOp.Eq (E.sub (E.loc 0) (E.cst (V.int 1))) (E.sub (E.loc 1) (E.cst (V.int 1)))) (S.seq (S.ret (E.cst V.none)) S.skip) S.skip) (S.seq (S.ite (E.cmp CmpOp.Lt (E.sub (E.loc 0) (E.cst (V.int 1))) (E.sub (E.loc 1) (E.cst (V.int 1)))) (S.seq (S.ret (E.call (E.cst (V.fn 403)) (E.cons (E.sub (E.loc 0) (E.cst (V.int 0))) (E.cons (E.sub (E.loc 0) (E.cst (V.int 1))) (E.cons (E.sub (E.loc 1) (E.cst (V.int 0))) (E.cons (E.sub (E.loc 1) (E.cst (V.int 1))) (E.cons (E.cst (V.int 1)) E.nil))))))) S.skip) S.skip) (S.seq (S.ret (E.call (E.cst (V.fn 403)) (E.cons (E.sub (E.loc 1) (E.cst (V.int 0))) (E.cons (E.sub (E.loc 1) (E.cst (V.int 1))) (E.cons (E.sub (E.loc 0) (E.cst (V.int 0))) (E.cons (E.sub (E.loc 0) (E.cst (V.int 1))) (E.cons (E.neg (E.cst (V.int 1))) E.nil))))))) S.skip))) [some (pv a),some (pv b),none] st _ hb _ hc _ e2
def nQ(st:St):List Nat→List Sd→Prop
 |[],[]=>True
 |i::is,d::ds=>st[i]? =some (.inst (wL d))∧nQ st is ds
 |_,_=>False
def KI(st af:St):Prop:=∀(i:Nat) (fs:List (Nat×V)),st[i]? =some (Cell.inst fs)→af[i]? =some (Cell.inst fs)
theorem KI.aK{st af:St}(p:st<+:af):KI st af:=fun _ _ h=>ag p h
theorem KI.trans{a b c:St}(x:KI a b)(y:KI b c):KI a c:=fun i fs h=>y i fs (x i fs h)
theorem KI.set{st:St}{i:Nat}{vs:List V}{c:Cell}(h:st[i]? =some (.list vs)):KI st (st.set i c):=fun j fs hj=>by
 haveI:i≠j:=fun e=>by subst e;replace hj:=h▸hj;cases hj
 exact((List.getElem?_set_ne this).symm▸hj)
theorem nQ.ki{st af:St}(k:KI st af):∀{is:List Nat} {ds:List Sd},nQ st is ds→nQ af is ds
 |[],[],_=>trivial
 |_::_,_::_,h=>⟨k _ _ h.1,h.2.ki k⟩
 |[],_::_,h=>h.elim
 |_::_,[],h=>h.elim
theorem nQ.append{st:St}:∀{is Z9:List Nat} {ds ds':List Sd},nQ st is ds→nQ st Z9 ds'→nQ st (is++Z9) (ds++ds')
 |[],_,[],_,_,h=>h
 |_::_,_,_::_,_,h,h'=>⟨h.1,h.2.append h'⟩
 |[],_,_::_,_,h,_=>h.elim
 |_::_,_,[],_,h,_=>h.elim
theorem nQ.length{st:St}:∀{is:List Nat} {ds:List Sd},nQ st is ds→is.length=ds.length
 |[],[],_=>rfl
 |_::_,_::_,h=>by simp[h.2.length]
 |[],_::_,h=>h.elim
 |_::_,[],h=>h.elim
theorem nQ.get{st:St}:∀{is:List Nat} {ds:List Sd} {k i:Nat},nQ st is ds→is[k]? =some i→∃d,ds[k]? =some d∧st[i]? =some (.inst (wL d))
 |i'::_,d::_,0,i,h,e=>by simp at e;subst e;exact⟨d,rfl,h.1⟩
 |_::is,_::ds,k+1,i,h,e=>by
  refine b9 (h.2.get (k:=k) (by simpa using e)) fun d h1 h2=>?_;exact⟨d,by exact h1,h2⟩
 |[],_::_,_,_,h,_=>h.elim
 |_::_,[],_,_,h,_=>h.elim
 |[],[],_,_,_,e=>by injection e
theorem jy n(s:List Spot) st (h0:st.length≠0)(hs:s≠[])(hl:s.length≤10){GG:Prop}(kk:∀(af:St) (i:Nat) (is:List Nat),ae PG (n+4) 421 [.tup (s.map pv),.bool true] st=some (.lst i,af)→st<+:af→st.length≤i→af[i]? =some (.list (is.map (V.obj 403)))→(nQ af is ((mW s).filterMap fun p=>aS p.1 p.2))→GG):GG:=by
 generalize Ut:(s.zip (s.drop 1)).map Gw=pz;generalize SG:st++[Cell.list ((mW s).map Gw)]=sP;have lP:sP.length=st.length+1:=by subst SG;simp
 have gP:sP[st.length]? =some (.list ((mW s).map Gw)):=by refine SG▸?_;simp
 haveI pP:st<+:sP:=SG▸List.prefix_append _ _
 obtain⟨lf,s1,e1,⟨o1,o2,o3,rfl⟩,p1,g1,is,hf,hS⟩:=aH (p:=.vars [4,5]) (gs:=[(st.length,(mW s).map Gw)]) (f:=ex PG (ae PG (n+3)) jo) (all:=(mW s).map Gw)
  (fun k lo s'=>(∃o1 o2 o3,lo=[some (.tup (s.map pv)),some (.bool true),some (.lst st.length),some (.lst sP.length),o1,o2,o3,none,none,none,none])∧sP<+:s'∧s'[st.length]? =some (.list ((mW s).map Gw))∧
   ∃is,s'[sP.length]? =some (.list (is.map (V.obj 403)))∧nQ s' is (((mW s).take k).filterMap fun p=>aS p.1 p.2))
  (fun k lo s' hI=>by simp only[ay];exact hI.2.2.1)
  (fun k v lo s' hv hI=>by
   obtain⟨⟨o1,o2,o3,rfl⟩,p,g,is,hf,hS⟩:=hI;rw[List.getElem?_map,Option.map_eq_some_iff]at hv;obtain⟨⟨a,b⟩,hp,rfl⟩:=hv;haveI hlp:(mW s).length≤20:=by unfold mW;split<;>simp<;>exact Nat.le_trans (by assumption) (by decide)
   haveI r7:s'.length≠0:=by haveI:=p.length_le;exact aO 0x22210100280001001112021021 rt lP this
   haveI pY:sP.length<s'.length:=(cN hf);haveI et:(mW s).take (k+1)=(mW s).take k++[(a,b)]:=by simp only[List.take_add_one,hp];rfl
   haveI Xr:is.length≤20:=by
    rw[hS.length];refine Nat.le_trans (List.length_filterMap_le _ _) ?_;simp;lia
   haveI eb:=Gy n a b s' r7;refine iG (aS a b) (fun SH=>?_) fun d SH=>?_
   ·replace eb:=SH▸eb
    simp only[SF,List.append_nil]at eb;refine⟨_,.next,[some (.tup (s.map pv)),some (.bool true),some (.lst st.length),some (.lst sP.length),some (pv a),some (pv b),some .none,none,none,none,none],s',rfl,?_,(fun _ q=>nomatch q),⟨_,_,_,rfl⟩,p,g,is,hf,?_⟩
    ·exact gf 0x0 jo (List.set (List.set [some (V.tup (List.map pv s)),some (V.bool true),some (V.lst (List.length st)),some (V.lst (List.length sP)),o1,o2,o3,none,none,none,none] 4 (some (pv (Prod.fst (a,b))))) 5 (some (pv (Prod.snd (a,b))))) s' _ eb
    ·simp only[et,List.filterMap_append]
     simp[SH];exact hS
   ·haveI eb:=SH▸eb
    simp only[Xp,Xq]at eb;haveI Az:(s'++[Cell.inst (wL d)])[sP.length]? =some (.list (is.map (V.obj 403))):=aA _ hf;haveI L1:sP.length≠0:=aC 0x2210100280111020021 rt lP;haveI yB:(is.map (V.obj 403)).length<100000:=by simp;exact aJ 0x2238bac8100102c10001 rt Xr
    refine⟨_,.next,[some (.tup (s.map pv)),some (.bool true),some (.lst st.length),some (.lst sP.length),some (pv a),some (pv b),some (.obj 403 s'.length),none,none,none,none],
     (s'++[Cell.inst (wL d)]).set sP.length (.list (is.map (V.obj 403)++[.obj 403 s'.length])),rfl,?_,(fun _ q=>nomatch q),⟨_,_,_,rfl⟩,hX (p.trans (List.prefix_append _ _)) (Nat.le_refl _),?_,is++[s'.length],?_,?_⟩
    ·exact gf 0x0 jo (List.set (List.set [some (V.tup (List.map pv s)),some (V.bool true),some (V.lst (List.length st)),some (V.lst (List.length sP)),o1,o2,o3,none,none,none,none] 4 (some (pv (Prod.fst (a,b))))) 5 (some (pv (Prod.snd (a,b))))) s' _ eb (qO Az L1 rfl) (([V.none],List.set (s'++[Cell.inst (wL d)]) (List.length sP) (Cell.list (List.map (V.obj 403) is++[V.obj 403 (List.length s')])))) (by simp! [A26,eb,Az,L1,yB])
    ·rw[List.getElem?_set_ne (by exact aC 0x2211000280111020021 rt lP)];exact aA _ g
    ·rw[List.getElem?_set_self (by simp;exact aC 0x22111020010100011 rt pY)];simp
    ·simp only[et,List.filterMap_append]
     haveI e5:([(a,b)]:List (Spot×Spot)).filterMap (fun p=>aS p.1 p.2)=[d]:=by simp[SH]
     simp only[e5];haveI k1:KI s' ((s'++[Cell.inst (wL d)]).set sP.length (.list (is.map (V.obj 403)++[.obj 403 s'.length]))):=(KI.aK (List.prefix_append _ _)).trans (.set Az);refine(hS.ki k1).append ⟨?_,trivial⟩
     rw[List.getElem?_set_ne (by exact aC 0x2121000280100011 rt pY)];exact List.getElem?_concat_length)
  (l:=[some (.tup (s.map pv)),some (.bool true),some (.lst st.length),some (.lst sP.length),none,none,none,none,none,none,none]) (st:=sP++[.list []])
  ⟨⟨_,_,_,rfl⟩,List.prefix_append _ _,aA _ gP,[],List.getElem?_concat_length,trivial⟩
 rw[List.length_map,List.take_length]at hS;refine kk s1 sP.length is (ai (loc0:=[some (.tup (s.map pv)),some (.bool true),none,none,none,none,none,none,none,none,none]) QI rfl rfl ?_) (pP.trans p1) (aC 0x221100000110021021 rt lP) hf hS;show res (ex PG (ae PG (n+3)) JV _ _)=_;unfold JV
 have hz:((s.map pv).zip ((s.map pv).drop 1)).map (fun(a,b)=>V.tup [a,b])=pz:=by
  refine Ut▸?_;refine(List.map_drop)▸?_;refine(List.zip_map).symm▸?_;refine(List.map_map).symm▸?_;rfl
 have y':pz.length≤100000:=by refine Ut▸?_;simp;exact aJ 0x2238bac9100001a10001 rt hl
 haveI nO:0<s.length:=List.length_pos_iff.mpr hs;have r7:((s.map pv).length=0)=False:=by simp[hs]
 haveI Uu:(mW s).map Gw=pz++(if 1<s.length then[Gw (s.getLast?.getD (0,0),s.head?.getD (0,0))]else[]):=by
  unfold mW;rw[List.map_append,Ut]
  split<;>rfl
 have SJ:(sP++[Cell.list []])[st.length]? =some (.list ((mW s).map Gw)):=aA _ gP
 by_cases h1:1<s.length
 ·rw[if_pos h1]at Uu
  haveI d1:decide (1<((s.map pv).length:Int))=true:=decide_eq_true (by simp;exact aJ 0x220071140001111 rt h1)
  haveI i1:idx (-1) (s.map pv).length=some (s.length - 1):=by
   rw[List.length_map];refine(show s.length=(s.length - 1)+1 by exact aC 0x22111021211021121022111020020001110220011060110211001671000111 rt nO (bE _ _)).symm▸?_;exact jw _
  haveI i0:idx 0 (s.map pv).length=some 0:=dj (D6 0x2010130 rt) (by simp;exact aJ 0x22000110000111 rt nO)
  haveI v1:(s.map pv)[s.length - 1]? =some (pv (s.getLast?.getD (0,0))):=by
   refine(List.getElem?_map).symm▸?_;rw[List.getLast?_eq_getElem?,List.getElem?_eq_getElem (by exact aC 0x21211022100010101100221011060100211101671100111 rt nO (bE _ _))];rfl
  haveI v0:(s.map pv)[0]? =some (pv (s.head?.getD (0,0))):=by
   rw[List.getElem?_map,List.head?_eq_getElem?,List.getElem?_eq_getElem (by exact aJ 0x22000110000111 rt nO)];rfl
  haveI Cx:(st++[Cell.list pz]).set st.length (.list (pz++[V.tup [pv (s.getLast?.getD (0,0)),pv (s.head?.getD (0,0))]]))=sP:=by
   simp only[sQ,←SG,Uu];rfl
  have yB:pz.length<100000:=by refine Ut▸?_;simp;exact aC 0x2121202121138bac8100101011002210110601002111016711a11001 rt hl (bE _ _)
  generalize s.map pv=vs at *;exact bk 0x1e1 (S.seq (S.asg (cD.var 2) (E.dK (E.cons (E.loc 0) (E.cons (E.slice Sl.dZ (E.loc 0)) E.nil)))) (S.seq (S.ite (E.and (E.loc 1) (E.cmp CmpOp.Gt (E.az Bi.len (E.cons (E.loc 0) E.nil)) (E.cst (V.int 1)))) (S.seq (S.expr (E.aF (E.loc 2) 0 (E.cons (E.tup (E.cons (E.sub (E.loc 0) (E.neg (E.cst (V.int 1)))) (E.cons (E.sub (E.loc 0) (E.cst (V.int 0))) E.nil))) E.nil))) S.skip) S.skip) (S.seq (S.asg (cD.var 3) (E.lst E.nil)) (S.seq (S.loop (cD.vars [4,5]) SK.seq (E.loc 2) jo) (S.seq (S.ret (E.loc 3)) S.skip))))) [some (V.tup vs),some (V.bool true),none,none,none,none,none,none,none,none,none] st (([V.tup (List.drop 1 vs)],st)) (by simp! [Kf,Kg,Uh,Ui,Uj,gF,kl,Gx,r7,hz,y',d1,h0,i1,i0,v1,v0,yB,Cx,SJ,e1]) (by simp! [Kf,Kg,Uh,Ui,Uj,gF,kl,Gx,r7,hz,y',d1,h0,i1,i0,v1,v0,yB,Cx,SJ,e1]) _ d1 (qO (List.getElem?_concat_length) h0 rfl) _ (Sf i1 v1) _ (Sf i0 v0) (([V.none],sP)) (by simp! [Kf,Kg,Uh,Ui,Uj,gF,kl,Gx,r7,hz,y',d1,h0,i1,i0,v1,v0,yB,Cx,SJ,e1]) _ (FV SJ) _ e1
 ·rw[if_neg h1,List.append_nil]at Uu
  have d1:decide (1<((s.map pv).length:Int))=false:=decide_eq_false (by simp;exact aJ 0x2211007300011181 rt h1);have Cx:st++[Cell.list pz]=sP:=by rw[←SG,Uu]
  generalize s.map pv=vs at *;simp! [Kf,Kg,Uh,Ui,Uj,gF,kl,Gx,r7,hz,y',d1,Cx,SJ,e1]
noncomputable def aG(aM:List (List Spot)):List Sd:=aM.flatMap fun s=>(mW s).filterMap fun p=>aS p.1 p.2
theorem mZ aM s:aG (aM++[s])=aG aM++(mW s).filterMap fun p=>aS p.1 p.2:=by
 unfold aG;simp[List.flatMap_append]
theorem Gz(h:s.length≤10):(mW s).length≤20:=by unfold mW;split<;>simp<;>exact Nat.le_trans (by assumption) (by decide)
structure m7(aM:List (List Spot)):Prop where
 len:aM.length≤3
 each:∀s∈aM,s≠[]∧s.length≤10∧∀p∈s,-100≤p.1∧p.1≤100∧-100≤p.2∧p.2≤100
theorem qV(n:Nat)(K:m7 aM){st:St}{ci:Nat}(hc:st[ci]? =some (.list (aM.map gi)))(h0:st.length≠0){GG:Prop}(kk:∀(af:St) (i:Nat) (is:List Nat),ae PG (n+5) 429 [.lst ci] st=some (.lst i,af)→st<+:af→af[i]? =some (.list (is.map (V.obj 403)))→nQ af is (aG aM)→is.length≤60→GG):GG:=by
 obtain⟨lf,s1,e1,⟨o1,o2,rfl⟩,p1,is,hf,hS,hl⟩:=aH (p:=.vars [3,4]) (gs:=[(ci,aM.map gi)]) (f:=ex PG (ae PG (n+4)) qz) (all:=aM.map gi)
  (fun k lo s'=>(∃o1 o2,lo=[some (.lst ci),some (.bool true),some (.lst st.length),o1,o2,none])∧st<+:s'∧
   ∃is,s'[st.length]? =some (.list (is.map (V.obj 403)))∧nQ s' is (aG (aM.take k))∧is.length≤20 * k)
  (fun k lo s' hI=>by simp only[ay];exact ag hI.2.1 hc)
  (fun k v lo s' hv hI=>by
   obtain⟨⟨o1,o2,rfl⟩,p,is,hf,hS,hl⟩:=hI;rw[List.getElem?_map,Option.map_eq_some_iff]at hv;refine b9 hv fun s hs eq2=>?_;try clear hv;obtain rfl:=eq2
   haveI k1:=(K.each s (List.mem_of_getElem? hs)).1;haveI k2:=(K.each s (List.mem_of_getElem? hs)).2.1;have hk:k<aM.length:=(cN hs);haveI GA:=K.len;haveI r7:s'.length≠0:=by haveI:=p.length_le;exact aC 0x2220201002800010010110281 rt h0 this
   refine jy n s s' r7 k1 k2 fun s2 i2 Uv e2 p2 rv Az hS2=>?_;haveI hf3:=ag p2 hf;haveI pY:st.length<s'.length:=(cN hf);haveI jK:i2≠st.length:=aO 0x2221000280201011002001 rt rv pY
   have i8:Uv.length≤20:=by
    rw[hS2.length];exact Nat.le_trans (List.length_filterMap_le _ _) (Gz k2)
   haveI hlen:(is.map (V.obj 403)).length+(Uv.map (V.obj 403)).length<100000:=by simp;exact bS 0x222c82c8238bac8110002102c11001313001302011202c30001 rt hl hk GA i8
   haveI et:aM.take (k+1)=aM.take k++[s]:=by rw[List.take_add_one,hs];rfl
   refine⟨_,.next,[some (.lst ci),some (.bool true),some (.lst st.length),some (.tup (s.map pv)),some (.bool true),none],s2.set st.length (.list (is.map (V.obj 403)++Uv.map (V.obj 403))),rfl,?_,(fun _ q=>nomatch q),⟨_,_,rfl⟩,hX (p.trans p2) (Nat.le_refl _),is++Uv,?_,?_,by simp;exact aO 0x222112022c310002002c11001202c30001 rt hl i8⟩
   ·unfold qz
    simp! [Rv,Bool.or_true,hf,e2,hf3,Az,h0,jK,hlen]
   ·rw[List.getElem?_set_self (by haveI:=p2.length_le;exact aO 0x222100010102001200011 rt pY this)];simp
   ·simp only[et,mZ]
    exact((hS.ki (.aK p2)).append hS2).ki (.set hf3))
  (l:=[some (.lst ci),some (.bool true),some (.lst st.length),none,none,none]) (st:=st++[.list []])
  ⟨⟨_,_,rfl⟩,List.prefix_append _ _,[],List.getElem?_concat_length,trivial,(Nat.le_refl _)⟩
 rw[List.length_map,List.take_length]at hS;have GA:=K.len;rw[List.length_map]at hl;have hc2:(st++[Cell.list []])[ci]? =some (.list (aM.map gi)):=aA _ hc;refine kk s1 st.length is (ai (loc0:=[some (.lst ci),some (.bool true),none,none,none,none]) QJ rfl rfl ?_) p1 hf hS (aC 0x22c827c10000311001102c30001 rt hl GA);show res (ex PG (ae PG (n+4)) JW _ _)=_;unfold JW;simp! [hc2,e1]
noncomputable def yC(lo hi:Int)(d:Sd):Bool:=decide (d.2.1<hi)&&decide (lo<d.2.2.2.1)
theorem jz n{st:St}{i:Nat}{is:List Nat}{ds:List Sd}(lo hi)(fE:st[i]? =some (.list (is.map (V.obj 403))))(hS:nQ st is ds)(hl:is.length≤60){GG:Prop}(kk:∀(af:St) (j:Nat) (js:List Nat),ae PG (n+1) 434 [.lst i,.int lo,.int hi] st=some (.lst j,af)→st<+:af→st.length≤j→af[j]? =some (.list (js.map (V.obj 403)))→nQ af js (ds.filter (yC lo hi))→js.length≤60→GG):GG:=by
 obtain⟨acc,lf,s1,e1,_,rfl,js,rfl,hJ,hj⟩:=bg (p:=.var 1) (gs:=[(i,is.map (V.obj 403))]) (cond:=fun l' af=>dA (ev PG (ae PG n) qA l' af)) (elt:=fun l' af=>one (ev PG (ae PG n) qB l' af)) (all:=is.map (V.obj 403))
  (fun k acc l s=>(∃o,l=[none,o,some (.int hi),some (.int lo)])∧s=st∧∃js,acc=js.map (V.obj 403)∧nQ st js ((ds.take k).filter (yC lo hi))∧js.length≤k)
  (fun k acc l s hI=>by simp only[ay,hI.2.1];exact fE)
  (fun k v acc l s hv hI=>by
   obtain⟨⟨o,rfl⟩,rfl,js,rfl,hJ,hj⟩:=hI;rw[List.getElem?_map,Option.map_eq_some_iff]at hv;refine b9 hv fun id Uw eq2=>?_;try clear hv;obtain rfl:=eq2
   refine b9 (hS.get Uw) fun d hd vQ=>?_;haveI et:ds.take (k+1)=ds.take k++[d]:=by simp only[List.take_add_one,hd];rfl
   refine⟨[none,some (.obj 403 id),some (.int hi),some (.int lo)],yC lo hi d,s,rfl,?_,?_⟩
   ·unfold qA
    unfold wL at vQ
    by_cases h1:d.2.1<hi
    ·have d1:decide (d.2.1<hi)=true:=decide_eq_true h1
     simp! [k8,wm,Bool.true_and,vQ,yC,d1]
    ·have d1:decide (d.2.1<hi)=false:=decide_eq_false h1
     simp! [W2,k8,vQ,yC,d1,Bool.false_and]
   ·cases hb:yC lo hi d with
    |true=>
     refine⟨.obj 403 id,s,?_,⟨_,rfl⟩,rfl,js++[id],by simp,?_,by simp;exact aC 0x22100000100001 rt hj⟩
     ·unfold qB
      dsimp only[Ip,Iq,ef,List.getElem?_cons_zero,List.getElem?_cons_succ]
     ·simp only[et,List.filter_append]
      haveI:[d].filter (yC lo hi)=[d]:=by simp[hb]
      exact(this.symm▸(hJ.append ⟨vQ,trivial⟩))
    |false=>
     simp only[if_false];refine⟨⟨_,rfl⟩,trivial,js,rfl,?_,by exact aC 0x22111020000100001 rt hj⟩;simp only[et,List.filter_append];haveI:[d].filter (yC lo hi)=[]:=by simp[hb]
     simp only[this,List.append_nil]
     exact hJ)
  (l:=[none,none,some (.int hi),some (.int lo)]) (st:=st) ⟨⟨_,rfl⟩,rfl,[],rfl,trivial,Nat.le_refl _⟩
 simp only[List.length_map,hS.length,List.take_length]at hJ;simp only[List.length_map]at hj;haveI Gn:(js.map (V.obj 403)).length≤100000:=by simp;exact aC 0x22238bac8100001000017c11001 rt hl hj
 refine kk (s1++[.list (js.map (V.obj 403))]) s1.length js (ai (loc0:=[some (.lst i),some (.int lo),some (.int hi)]) QK rfl rfl ?_) (List.prefix_append _ _) (Nat.le_refl _) List.getElem?_concat_length (hJ.ki (.aK (List.prefix_append _ _))) (aC 0x2227c100001000017c11001 rt hl hj);show res (ex PG (ae PG n) JX _ _)=_;unfold JX;simp! [fE,e1,Gn]
noncomputable def cov(y:Int)(d:Sd):Bool:=decide (d.2.1≤y)&&decide (y<d.2.2.2.1)
def KG(d:Sd):Prop:=-100≤d.1∧d.1≤100∧-100≤d.2.1∧d.2.2.2.1≤100∧-100≤d.2.2.1∧d.2.2.1≤100∧d.2.1<d.2.2.2.1
noncomputable def fh(d:Sd):Int:=d.2.2.2.1 - d.2.1
noncomputable def fX(y:Int)(d:Sd):Int:=d.1 * fh d+(d.2.2.1 - d.1) * (y - d.2.1)
noncomputable def m8(y:Int)(d:Sd):Int:=0 - (0 - (2 * fX y d - 2 * fh d)) / (4 * fh d)
noncomputable def zl(y:Int)(d:Sd):V:=.tup [.int (m8 y d),.int d.2.2.2.2]
theorem Cy n(h:st[i]? =some (.inst (wL d))) y:ae PG (n+1) 393 [.obj 403 i,.int y] st=some (.bool (cov y d),st):=by
 refine ai (loc0:=[some (.obj 403 i),some (.int y)]) QF rfl rfl ?_;show res (ex PG (ae PG n) Fm _ _)=_;unfold Fm;unfold wL at h
 by_cases h1:d.2.1≤y
 ·have d1:decide (d.2.1≤y)=true:=decide_eq_true h1
  simp! [Fz,FA,k8,wm,Bool.true_and,h,d1,cov]
 ·have d1:decide (d.2.1≤y)=false:=decide_eq_false h1
  refine(bk 0x2 Fm [some (V.obj 403 i),some (V.int y)] st _ (gI h) _ d1).trans ?_;simp! [W0,k8,h,d1,cov,Bool.false_and]
theorem uS n(h:st[i]? =some (.inst (wL d)))(hb:KG d)(hy: -1000≤y∧y≤1000):ae PG (n+1) 400 [.obj 403 i,.int y] st=some (.tup [.int (fX y d),.int (fh d)],st):=by
 refine ai (loc0:=[some (.obj 403 i),some (.int y),none]) QG rfl rfl ?_;haveI b1:=hb.1;haveI b2:=hb.2.1;haveI b3:=hb.2.2.1;haveI b4:=hb.2.2.2.1;haveI b5:=hb.2.2.2.2.1;haveI b6:=hb.2.2.2.2.2.1;haveI b7:=hb.2.2.2.2.2.2;haveI m1:cW d.1:=cz (bA 0x22003ec99881630001cc1631 rt b1) (bA 0x223ec9988100301cc10031 rt b2);haveI m2:cW (d.2.2.1 - d.1):=cz (dr 0x222100053ec99881630001cc16311cc11031 rt b2 b5) (dr 0x2223ec9988110005301cc10031101cc1631 rt b1 b6);exact bk 0x0 OT [some (V.obj 403 i),some (V.int y),none] st _ (gI h) _ (gI h) _ (gI h) _ (bK _ _ m1) _ (gI h) _ (gI h) _ (gI h) _ (bK _ _ m2)
theorem yD(n:Nat){st:St}{i:Nat}{is:List Nat}{ds:List Sd}{y:Int}(hy: -1000≤y∧y≤1000)(fE:st[i]? =some (.list (is.map (V.obj 403))))(hS:nQ st is ds)(hl:is.length≤60)(hB:∀d∈ds,KG d)(h0:st.length≠0){GG:Prop}(kk:∀(af:St) (j:Nat),ae PG (n+3) 351 [.lst i,.int y,.int 2] st=some (.lst j,af)→st<+:af→af[j]? =some (.list (((ds.filter (cov y)).map (zl y)).mergeSort cn))→GG):GG:=by
 obtain⟨lf,s1,e1,⟨o,rfl⟩,p1,hf⟩:=aH (p:=.var 4) (gs:=[(i,is.map (V.obj 403))]) (f:=ex PG (ae PG (n+2)) kS) (all:=is.map (V.obj 403))
  (fun k lo s'=>(∃o,lo=[some (.lst i),some (.int y),some (.int 2),some (.lst st.length),o,none,none])∧st<+:s'∧s'[st.length]? =some (.list (((ds.take k).filter (cov y)).map (zl y))))
  (fun k lo s' hI=>by simp only[ay];exact ag hI.2.1 fE)
  (fun k v lo s' hv hI=>by
   obtain⟨⟨o,rfl⟩,p,hf⟩:=hI;rw[List.getElem?_map,Option.map_eq_some_iff]at hv;refine b9 hv fun id Uw eq2=>?_;try clear hv;obtain rfl:=eq2
   refine b9 (hS.get Uw) fun d hd vQ=>?_;have hk:k<is.length:=(cN Uw);have KH:=ag p vQ;haveI bd:=hB d (List.mem_of_getElem? hd);haveI et:ds.take (k+1)=ds.take k++[d]:=by simp only[List.take_add_one,hd];rfl
   haveI ec:=Cy (n+1) KH y;haveI Cz:=KH;cases hb:cov y d with
   |true=>
    haveI ec:=hb▸ec;have ep:=uS (n+1) KH bd hy;haveI eq:=BJ n (fX y d) (fh d) s' (by haveI b7:=bd.2.2.2.2.2.2;unfold fh;exact dr 0x22100050140001041 rt b7) (Int.lt_of_le_of_lt (Int.sub_le_sub bd.2.2.2.1 bd.2.2.1) (by decide))
    haveI yB:(((ds.take k).filter (cov y)).map (zl y)).length<100000:=by
     rw[List.length_map];haveI:=List.length_filter_le (cov y) (ds.take k);simp at this;lia
    haveI pY:st.length<s'.length:=(cN hf);refine⟨_,.next,[some (.lst i),some (.int y),some (.int 2),some (.lst st.length),some (.obj 403 id),none,none],s'.set st.length (.list (((ds.take k).filter (cov y)).map (zl y)++[zl y d])),rfl,?_,(fun _ q=>nomatch q),⟨_,rfl⟩,hX p (Nat.le_refl _),?_⟩
    ·exact gf 0x0 kS (List.set [some (V.lst i),some (V.int y),some (V.int 2),some (V.lst (List.length st)),o,none,none] 4 (some (V.obj 403 id))) s' _ (gI Cz) _ ec (qO hf h0 rfl) _ (gI Cz) _ ep _ eq _ (gI Cz) (([V.none],List.set s' (List.length st) (Cell.list (List.map (zl y) (List.filter (cov y) (List.take k ds))++[V.tup [V.int (0 - (0 - (2 * fX y d - 2 * fh d)) / (4 * fh d)),V.int (Prod.snd (Prod.snd (Prod.snd (Prod.snd d))))]])))) (by simp! [FO,Bj,BZ,B0,Cz,ec,hf,ep,eq,h0,yB,zl,m8])
    ·simp only[List.getElem?_set_self pY,et,List.filter_append,List.map_append]
     simp[hb]
   |false=>
    replace ec:=hb▸ec;refine⟨_,.next,[some (.lst i),some (.int y),some (.int 2),some (.lst st.length),some (.obj 403 id),none,none],s',rfl,?_,(fun _ q=>nomatch q),⟨_,rfl⟩,p,?_⟩
    ·exact gf 0x0 kS (List.set [some (V.lst i),some (V.int y),some (V.int 2),some (V.lst (List.length st)),o,none,none] 4 (some (V.obj 403 id))) s' _ (gI Cz) _ ec
    ·simp only[hf,et,List.filter_append]
     simp[hb])
  (l:=[some (.lst i),some (.int y),some (.int 2),some (.lst st.length),none,none,none]) (st:=st++[.list []])
  ⟨⟨_,rfl⟩,List.prefix_append _ _,List.getElem?_concat_length⟩
 simp only[List.length_map,hS.length,List.take_length]at hf;have rv:(st++[Cell.list []])[i]? =some (.list (is.map (V.obj 403))):=aA _ fE
 have vW:(((ds.filter (cov y)).map (zl y)).all c9)=true:=by
  rw[List.all_eq_true];intro x hx;refine b9 (List.mem_map.mp hx) fun d _ eq2=>?_;obtain rfl:=eq2;rfl
 haveI hlen:((ds.filter (cov y)).map (zl y)).length<64:=by
  rw[List.length_map];have:=List.length_filter_le (cov y) ds;haveI:=hS.length;rename_i q0;exact aO 0x22122188100102010212000017c11001 rt hl q0 this
 refine kk (s1++[.list (((ds.filter (cov y)).map (zl y)).mergeSort cn)]) s1.length (ai (loc0:=[some (.lst i),some (.int y),some (.int 2),none,none,none,none]) QB rfl rfl ?_) (p1.trans (List.prefix_append _ _)) List.getElem?_concat_length;exact bk 0x3 OI [some (V.lst i),some (V.int y),some (V.int 2),none,none,none,none] st _ (FV rv) _ e1 (([V.lst (List.length s1)],s1++[Cell.list (List.mergeSort (List.map (zl y) (List.filter (cov y) ds)) cn)])) (by simp! [A42,rv,e1,hf,vW,hlen,and_self])
noncomputable def cnt:List (Int×Int)→Int→Int
 |[],_=>0
 |p::r,c=>(if p.1≤c∧c<p.2 then 1 else 0)+cnt r c
noncomputable def wsum:List (Int×Int)→Int→Int
 |[],_=>0
 |p::r,c=>(if p.1≤c then p.2 else 0)+wsum r c
noncomputable def dH:List (Int×Int)→Int
 |[]=>0
 |p::r=>p.2+dH r
theorem yE c:cnt [] c=0:=rfl
theorem yF p(r) c:cnt (p::r) c=(if p.1≤c∧c<p.2 then 1 else 0)+cnt r c:=rfl
theorem gM c:wsum [] c=0:=rfl
theorem gN p(r) c:wsum (p::r) c=(if p.1≤c then p.2 else 0)+wsum r c:=rfl
theorem eU:dH []=0:=rfl
theorem eV p(r):dH (p::r)=p.2+dH r:=rfl
theorem jA(l:List (Int×Int))(p:Int×Int)(c:Int):cnt (l++[p]) c=cnt l c+(if p.1≤c∧c<p.2 then 1 else 0):=by
 induction l with
 |nil=>simp[yE,yF]
 |cons q r ih=>simp only[List.cons_append,yE,yF,ih];exact cg 0x202201000222010200250 rt
theorem wsum_snoc(l:List (Int×Int))(p:Int×Int)(c:Int):wsum (l++[p]) c=wsum l c+(if p.1≤c then p.2 else 0):=by
 induction l with
 |nil=>simp[gM,gN]
 |cons q r ih=>simp only[List.cons_append,gM,gN,ih];exact cg 0x202201000222010200250 rt
theorem oR(l:List (Int×Int))(p:Int×Int):dH (l++[p])=dH l+p.2:=by
 induction l with
 |nil=>simp[eU,eV]
 |cons q r ih=>simp only[List.cons_append,eU,eV,ih];exact cg 0x202201000222010200250 rt
theorem CA{l:List (Int×Int)}{c:Int}(h:∀p∈l,p.2≤c):cnt l c=0:=by
 induction l with
 |nil=>rfl
 |cons q r ih=>
  simp only[yE,yF];rw[ih fun p hp=>h p (.tail _ hp),if_neg (by haveI:=h q (.head _);exact cg 0x2122010410003680102031 rt this)];rfl
theorem uT(l:List (Int×Int))(c:Int):0≤cnt l c:=by
 induction l with
 |nil=>exact Int.le_refl _
 |cons q r ih=>simp only[yE,yF];split<;>lia
theorem ng{l:List (Int×Int)}{c:Int}(h:∀p∈l,p.1≤c):wsum l c=dH l:=by
 induction l with
 |nil=>rfl
 |cons q r ih=>
  simp only[gM,gN,eU,eV];refine(ih fun p hp=>h p (.tail _ hp)).symm▸?_;refine(if_pos (h q (.head _))).symm▸?_;try rfl
noncomputable def L2(b:Option Int)(c:Int):Int:=match b with
 |none=>0
 |some x=>if x≤c then 1 else 0
theorem uU c:L2 none c=0:=rfl
theorem uV(x c):L2 (some x) c=if x≤c then 1 else 0:=rfl
structure cF(L:List (Int×Int))(eo:Bool)(k:Nat)(found:List (Int×Int))(w:Int)(b:Option Int):Prop where
 wt:w=dH (L.take k)
 cover:∀c,(∀p∈L.drop k,c<p.1)→cnt found c+L2 b c=if inside eo (wsum (L.take k) c)then 1 else 0
 ends:∀s∈found,∀p∈L.drop k,s.2≤p.1
 Xu:∀x,b=some x→∀p∈L.drop k,x≤p.1
 len:found.length≤k
theorem qW eo:inside eo 0=false:=by cases eo<;>rfl
theorem cF.zero L eo:cF L eo 0 [] 0 none:=
 ⟨rfl,fun c _=>by simp[yE,yF,uU,uV,gM,gN,qW],fun s h=>(nomatch h),fun x h=>(nomatch h),Nat.le_refl _⟩
end
section
open PySem
variable{L:List (Int×Int)}{eo:Bool}{k:Nat}{found:List (Int×Int)}{w:Int}{b:Option Int}
theorem jB(hk:L[k]? =some p):L.drop k=p::L.drop (k+1):=by
 have h:k<L.length:=(cN hk);refine(List.drop_eq_getElem_cons h).symm▸?_;replace hk:=(List.getElem?_eq_getElem h)▸hk;cases hk;rfl
theorem cF.skip(H:cF L eo k found w b)(hk:L[k]? =some p)(hq:L[k+1]? =some q)(e:q.1=p.1):cF L eo (k+1) found (w+p.2) b:=by
 haveI hd:=jB hk;haveI hd2:=jB hq;have ht:L.take (k+1)=L.take k++[p]:=by rw[List.take_add_one,hk];rfl
 refine⟨by simp only[ht,oR,H.wt],fun c hc=>?_,fun s hs r hr=>H.ends s hs r (by rw[hd];exact .tail _ hr),fun x hx r hr=>H.Xu x hx r (by rw[hd];exact .tail _ hr),Nat.le_succ_of_le H.len⟩;have hcq:c<q.1:=hc q (by rw[hd2];exact .head _);haveI e1:wsum (L.take (k+1)) c=wsum (L.take k) c:=by rw[ht,wsum_snoc,if_neg (show ¬p.1≤c by exact cg 0x22121000380201041002051 rt e hcq),Int.add_zero]
 refine e1.symm▸?_;refine H.cover c fun r hr=>?_;replace hr:=hd▸hr;rcases List.mem_cons.mp hr with rfl|hr
 ·exact cg 0x2122100040102051200041 rt hcq e
 ·exact hc r hr
theorem cF.both(hs:L.Pairwise fun a b=>a.1≤b.1)(H:cF L eo k found w b){p:Int×Int}(hk:L[k]? =some p)
  (Xv:∀c,c<p.1→cnt qX c+L2 b' c=cnt found c+L2 b c)
  (SM:∀c,p.1≤c→cnt qX c+L2 b' c=if inside eo (w+p.2)then 1 else 0)
  (rC:∀s∈qX,s∈found∨s.2=p.1) (Xw:∀x,b'=some x→b=some x∨x=p.1) (hl:qX.length≤k+1):cF L eo (k+1) qX (w+p.2) b':=by
 have hd:=jB hk;have ht:L.take (k+1)=L.take k++[p]:=by simp only[List.take_add_one,hk];rfl
 haveI sorted:=hs;rw[←List.take_append_drop k L,List.pairwise_append,hd,List.pairwise_cons]at sorted;obtain⟨s1,⟨s2,s3⟩,s4⟩:=sorted;refine⟨by simp only[ht,oR,H.wt],fun c hc=>?_,fun s hsm r hr=>?_,fun x hx r hr=>?_,hl⟩
 ·rcases Classical.em (c<p.1)with e|e
  ·have e1:wsum (L.take (k+1)) c=wsum (L.take k) c:=by rw[ht,wsum_snoc,if_neg (show ¬p.1≤c by exact dr 0x221000380001041 rt e),Int.add_zero]
   rw[Xv c e,e1];refine H.cover c fun r hr=>?_;replace hr:=hd▸hr;rcases List.mem_cons.mp hr with rfl|hr
   ·exact e
   ·haveI:=s2 r hr;exact cg 0x222100040102031200041 rt e this
  ·have e1:wsum (L.take (k+1)) c=dH (L.take k)+p.2:=by
    rw[ht,wsum_snoc,if_pos (show p.1≤c by exact dr 0x221000300010481 rt e),ng fun q hq=>?_];haveI:=s4 q hq p (.head _);exact cg 0x2221000302000312010481 rt e this
   rw[SM c (dr 0x221000300010481 rt e),H.wt,e1]
 ·rcases rC s hsm with h|h
  ·exact H.ends s h r (by rw[hd];exact .tail _ hr)
  ·rw[h];exact s2 r hr
 ·rcases Xw x hx with h|h
  ·exact H.Xu x h r (by rw[hd];exact .tail _ hr)
  ·rw[h];exact s2 r hr
theorem cF.CB(H:cF L eo k found w b)(hk:L[k]? =some p)(hc:p.1≤c):cnt found c=0:=
 CA fun s hs=>by haveI:=H.ends s hs p (by rw[jB hk];exact .head _);exact cg 0x222100030200031102031 rt hc this
theorem cF.into(hs:L.Pairwise fun a b=>a.1≤b.1)(H:cF L eo k found w b)(hk:L[k]? =some p)(hi:inside eo (w+p.2)=true):cF L eo (k+1) found (w+p.2) (some (b.getD p.1)):=by
 refine H.both hs hk (fun c hc=>?_) (fun c hc=>?_) (fun s h=>.inl h) (fun x hx=>?_) (Nat.le_succ_of_le H.len)
 ·cases b with
  |none=>simp only[Option.getD_none,uU,uV];rw[if_neg (by exact dr 0x221000380001041 rt hc)]
  |some x=>rfl
 ·refine(H.CB hk hc).symm▸?_;refine hi.symm▸?_;refine(if_pos rfl).symm▸?_
  cases b with
  |none=>simp only[Option.getD_none,uU,uV];rw[if_pos hc];rfl
  |some x=>
   haveI:=H.Xu x rfl p (by rw[jB hk];exact .head _);simp only[Option.getD_some,uU,uV];rw[if_pos (by exact cg 0x222100030200031102031 rt hc this)];rfl
 ·cases b with
  |none=>right;simpa using hx.symm
  |some y=>left;exact hx
theorem cF.out(hs:L.Pairwise fun a b=>a.1≤b.1)(H:cF L eo k found w (some x))(hk:L[k]? =some p)(hi:inside eo (w+p.2)=false):cF L eo (k+1) (found++[(x,p.1)]) (w+p.2) none:=by
 refine H.both hs hk (fun c hc=>?_) (fun c hc=>?_) (fun s h=>?_) (fun x hx=>nomatch hx) (by haveI:=H.len;simp;exact aC 0x22100000100001 rt this)
 ·rw[jA]
  simp only[uU,uV];rcases Classical.em (x≤c)with e|e
  ·rw[if_pos ⟨e,hc⟩,if_pos e];exact bA 0x202110020111002250 rt
  ·rw[if_neg fun q=>e q.1,if_neg e];exact bA 0x202010020101002250 rt
 ·rw[jA,H.CB hk hc,hi,if_neg (by exact cg 0x2122010410003680102031 rt hc)]
  rfl
 ·rcases List.mem_append.mp h with h|h
  ·exact .inl h
  ·simp at h;right;rw[h]
theorem cF.Xx(hs:L.Pairwise fun a b=>a.1≤b.1)(H:cF L eo k found w none)(hk:L[k]? =some p)(hi:inside eo (w+p.2)=false):cF L eo (k+1) found (w+p.2) none:=by
 refine H.both hs hk (fun c hc=>rfl) (fun c hc=>?_) (fun s h=>.inl h) (fun x hx=>nomatch hx) (Nat.le_succ_of_le H.len);refine(H.CB hk hc).symm▸?_;refine hi.symm▸?_;exact rfl
theorem le_max:∀(l:List (Int×Int)) (m:Int),∃c,m≤c∧∀p∈l,p.1≤c
 |[],m=>⟨m,Int.le_refl _,fun p h=>nomatch h⟩
 |q::r,m=>by
  refine b9 (le_max r (max m q.1)) fun c h1 h2=>?_;refine⟨c,by lia,fun p hp=>?_⟩;rcases List.mem_cons.mp hp with rfl|hp
  ·lia
  ·exact h2 p hp
theorem cF.fin(H:cF L eo L.length found w b)(h0:dH L=0):∀c,cnt found c=if inside eo (wsum L c)then 1 else 0:=by
 haveI hd:L.drop L.length=[]:=List.drop_length;haveI ht:L.take L.length=L:=List.take_length;haveI cov:=H.cover;replace cov:=ht▸(hd▸cov)
 have hb:b=none:=by
  cases b with
  |none=>rfl
  |some x=>
   exfalso;refine b9 (le_max L x) fun c h1 h2=>?_;haveI:=cov c fun p h=>nomatch h;simp only[ng h2,h0,qW]at this;haveI h3:=uT found c;simp only[uU,uV]at this;rw[if_pos h1]at this;simp at this
   lia
 subst hb;intro c;haveI:=cov c fun p h=>nomatch h;simpa [uU,uV]using this
end
section
open PySem
theorem sV:∀(vs:List V) (k j:Nat) (v:V),(ey (j:Int) vs)[k]? =some v→∃u,vs[k]? =some u∧v=.tup [.int ((j+k:Nat):Int),u]
 |[],k,j,v,h=>by injection h
 |u::vs,0,j,v,h=>by simp[t4]at h;exact⟨u,rfl,by simp[h]⟩
 |u::vs,k+1,j,v,h=>by
  simp only[t4,List.getElem?_cons_succ]at h;refine b9 (sV vs k (j+1) v (h)) fun x h1 h2=>?_;exact⟨x,by exact h1,by rw[h2];congr 4;exact aC 0x202111020021011002220 rt⟩
theorem sW:∀(vs:List V) (j:Int),(ey j vs).length=vs.length
 |[],_=>rfl
 |_::vs,j=>by simp[t4,sW vs]
noncomputable def bV(b:Option Int):V:=match b with
 |none=>.none
 |some x=>.int x
theorem L3:bV none=.none:=rfl
theorem L4 x:bV (some x)=.int x:=rfl
noncomputable def KJ:E:=.and (.cmp .Lt (.bin .Add (.loc 5) (.cst (.int 1))) (.az .len (.cons (.loc 0) .nil))) (.cmp .Eq (.sub (.sub (.loc 0) (.bin .Add (.loc 5) (.cst (.int 1)))) (.cst (.int 0))) (.loc 6))
theorem nh:kT=(.seq (.asg (.var 3) (.bin .Add (.loc 3) (.loc 7))) (.seq (.ite KJ (.seq .cont .skip) .skip) (.seq (.ite (.call (.cst (.fn 316)) (.cons (.loc 3) (.cons (.loc 1) .nil))) (.seq (.asg (.var 4) (.ite (.cmp .Is (.loc 4) (.cst (.none))) (.loc 6) (.loc 4))) .skip) (.seq (.ite (.cmp .IsNot (.loc 4) (.cst (.none))) (.seq (.expr (.aF (.loc 2) 0 (.cons (.tup (.cons (.loc 4) (.cons (.loc 6) .nil))) .nil))) (.seq (.asg (.var 4) (.cst (.none))) .skip)) .skip) .skip)) .skip))):=rfl
inductive CD(st:St)(i:Nat)(L:List (Int×Int))(eo:Bool)(k:Nat)(lo:Loc)(s':St):Prop
 |mk(found)(w)(b)(p1:(∃o1 o2 o3,lo=[some (.lst i),some (iW eo),some (.lst st.length),some (.int w),some (bV b),o1,o2,o3,none,none,none]))(p2:st<+:s')(p3:s'[st.length]? =some (.list (found.map pv)))(p4:cF L eo k found w b):CD st i L eo k lo s'
theorem yG n eo(hi:st[i]? =some (.list (L.map pv)))(hL:L.length≤60)(hs:L.Pairwise fun a b=>a.1≤b.1)(h0:dH L=0)(hn:st.length≠0){GG:Prop}(kk:∀(af:St) (j:Nat) (found:List (Int×Int)),ae PG (n+2) 358 [.lst i,iW eo] st=some (.lst j,af)→st<+:af→st.length≤j→af[j]? =some (.list (found.map pv))→found.length≤60→(∀c,cnt found c=if inside eo (wsum L c)then 1 else 0)→GG):GG:=by
 haveI GB:∀(s:St),s[i]? =some (.list (L.map pv))→bU .enum [.lst i] s=some ⟨ey 0 (L.map pv),[(i,L.map pv)]⟩:=fun s h=>by
  show(match s[i]? with|some (.list vs)=>some (⟨ey 0 vs,[(i,vs)]⟩:It)|_=>none)=_;rw[h]
 obtain⟨lf,s1,e1,found,w,b,⟨o1,o2,o3,rfl⟩,p1,hf,hI⟩:=aH (p:=.nest 5 [6,7]) (gs:=[(i,L.map pv)]) (f:=ex PG (ae PG (n+1)) kT) (all:=ey 0 (L.map pv))
  (CD st i L eo)
  (fun k lo s' hI=>by obtain⟨_,_,_,_,p,_⟩:=hI;simp only[ay];exact ag p hi)
  (fun k v lo s' hv hI=>by
   obtain⟨found,w,b,⟨o1,o2,o3,rfl⟩,p,hf,hI⟩:=hI;refine b9 (sV (L.map pv) k 0 v hv) fun u hu eq2=>?_;obtain rfl:=eq2;rw[List.getElem?_map,Option.map_eq_some_iff]at hu;refine b9 hu fun q hq eq2=>?_;try clear hu;obtain rfl:=eq2
   haveI hk:k<L.length:=(cN hq);haveI fE:=ag p hi;haveI pY:st.length<s'.length:=(cN hf);haveI SN:=BK n (w+q.2) eo s';have hlen:(L.map pv).length=L.length:=by simp
   haveI hz:((0+k:Nat):Int)=(k:Int):=aJ 0x20200700012750 rt
   have asg:cb (.nest 5 [6,7]) (.tup [.int ((0+k:Nat):Int),pv q]) [some (.lst i),some (iW eo),some (.lst st.length),some (.int w),some (bV b),o1,o2,o3,none,none,none]=
     some [some (.lst i),some (iW eo),some (.lst st.length),some (.int w),some (bV b),some (.int k),some (.int q.1),some (.int q.2),none,none,none]:=by simp only[hz];rfl
   rcases Classical.em (∃q',L[k+1]? =some q'∧q'.1=q.1)with wM|wM
   ·refine b9 wM fun q' h1 h2=>?_;try clear wM
    have DM:k+1<L.length:=(cN h1);have d1:decide ((k:Int)+1<(L.length:Int))=true:=decide_eq_true (aC 0x2210711007240101100211 rt DM);have i1:idx ((k:Int)+1) L.length=some (k+1):=by rw[dj (by exact aJ 0x21100720130 rt) (by exact aC 0x2210711007240101100211 rt DM)];congr 1
    have v1:(L.map pv)[k+1]? =some (pv q'):=by simp only[List.getElem?_map,h1];rfl
    haveI d2:(q'.1==q.1)=true:=by simpa using h2
    refine⟨_,.cont,[some (.lst i),some (iW eo),some (.lst st.length),some (.int (w+q.2)),some (bV b),some (.int k),some (.int q.1),some (.int q.2),none,none,none],s',asg,?_,(fun _ q=>nomatch q),found,w+q.2,b,⟨_,_,_,rfl⟩,p,hf,hI.skip hq h1 h2⟩;unfold kT;simp! [Iv,fE,hlen,d1,i1,v1];simp! [S05,S22,pv,d2]
   ·have oS:∀(lo:Loc),lo=[some (.lst i),some (iW eo),some (.lst st.length),some (.int (w+q.2)),some (bV b),some (.int k),some (.int q.1),some (.int q.2),none,none,none]→
      ev PG (ae PG (n+1)) KJ lo s'=some ([.bool false],s'):=by
     rintro _ rfl;unfold KJ
     by_cases DM:k+1<L.length
     ·refine gP fun GP VU=>?_
      have d1:decide ((k:Int)+1<(L.length:Int))=true:=decide_eq_true (aC 0x2210711007240101100211 rt DM);haveI i1:idx ((k:Int)+1) L.length=some (k+1):=by rw[dj (by exact aJ 0x21100720130 rt) (by exact aC 0x2210711007240101100211 rt DM)];congr 1
      haveI v1:(L.map pv)[k+1]? =some (pv L[k+1]):=by simp only[List.getElem?_map,List.getElem?_eq_getElem DM];rfl
      have d2:((L[k+1]).1==q.1)=false:=by
       haveI:(L[k+1]).1≠q.1:=fun e=>wM ⟨_,List.getElem?_eq_getElem DM,e⟩;simpa using this
      refine VU ?_;simp! [Iv,fE,hlen,d1,i1,v1];simp! [pv,d2]
     ·haveI d1:decide ((k:Int)+1<(L.length:Int))=false:=decide_eq_false (aC 0x221071100724801011002181 rt DM)
      simp! [W2,Iv,fE,hlen,d1]
    cases hb:inside eo (w+q.2)with
    |true=>
     rw[hb]at SN;refine⟨_,.next,[some (.lst i),some (iW eo),some (.lst st.length),some (.int (w+q.2)),some (bV (some (b.getD q.1))),some (.int k),some (.int q.1),some (.int q.2),none,none,none],s',asg,?_,(fun _ q=>nomatch q),found,w+q.2,_,⟨_,_,_,rfl⟩,p,hf,hI.into hs hq hb⟩;simp only[nh];cases b<;>(simp only[L3,L4]at oS;simp! [Ke,DP,Option.getD_none,A16,ZW,oS,SN,L3,L4])
    |false=>
     rw[hb]at SN;cases b with
     |none=>
      refine⟨_,.next,[some (.lst i),some (iW eo),some (.lst st.length),some (.int (w+q.2)),some (bV none),some (.int k),some (.int q.1),some (.int q.2),none,none,none],s',asg,?_,(fun _ q=>nomatch q),found,w+q.2,_,⟨_,_,_,rfl⟩,p,hf,hI.Xx hs hq hb⟩;simp only[nh];simp only[L3,L4]at oS;simp! [A22,oS,SN,L3,L4]
     |some x=>
      haveI yB:(found.map pv).length<100000:=by haveI:=hI.len;simp;exact aO 0x222238bac8100102000011020117c11001 rt hL hk this
      refine⟨_,.next,[some (.lst i),some (iW eo),some (.lst st.length),some (.int (w+q.2)),some (bV none),some (.int k),some (.int q.1),some (.int q.2),none,none,none],s'.set st.length (.list ((found++[(x,q.1)]).map pv)),asg,?_,(fun _ q=>nomatch q),found++[(x,q.1)],w+q.2,_,⟨_,_,_,rfl⟩,hX p (Nat.le_refl _),by refine(List.getElem?_set_self pY).symm▸?_;try rfl,hI.out hs hq hb⟩;simp only[nh];simp only[L3,L4]at oS;simp! [A24,oS,SN,L3,L4,hf,hn,yB];refine(List.map_append).symm▸?_
      rfl)
  (l:=[some (.lst i),some (iW eo),some (.lst st.length),some (.int 0),some .none,none,none,none,none,none,none]) (st:=st++[.list []])
  ⟨[],0,none,⟨_,_,_,rfl⟩,List.prefix_append _ _,List.getElem?_concat_length,.zero _ _⟩
 rw[sW,List.length_map]at hI;haveI rv:(st++[Cell.list []])[i]? =some (.list (L.map pv)):=aA _ hi;haveI hle:=hI.len;refine kk s1 st.length found (ai (loc0:=[some (.lst i),some (iW eo),none,none,none,none,none,none,none,none,none]) QC rfl rfl ?_) p1 (Nat.le_refl _) hf (aC 0x2227c100001000017c11001 rt hL hle) (hI.fin h0);show res (ex PG (ae PG (n+1)) JT _ _)=_;unfold JT;simp! [GB _ rv,e1]
noncomputable def DT(a b:Int×Int):Bool:=decide (a.1<b.1∨(a.1=b.1∧a.2≤b.2))
theorem yH(a b):cn (pv a) (pv b)=DT a b:=rfl
theorem GC(l:List (Int×Int)):(l.map pv).mergeSort cn=(l.mergeSort DT).map pv:=
 (List.map_mergeSort (r:=DT) (s:=cn) (f:=pv) (l:=l) fun a _ b _=>(yH a b).symm).symm
theorem GD(l:List (Int×Int)):(l.mergeSort DT).Pairwise fun a b=>a.1≤b.1:=by
 haveI h:=List.pairwise_mergeSort (le:=DT) (fun a b c h1 h2=>by unfold DT at *;simp only[decide_eq_true_eq]at *;lia) (fun a b=>by unfold DT;simp only[Bool.or_eq_true,decide_eq_true_eq];exact rp 0x21210211202211022102121022102202202121203030010560010473020310005610004770 rt) l;refine h.imp fun {a b} h=>?_;unfold DT at h;simp only[decide_eq_true_eq]at h;exact rp 0x2112022100030302031000561000471 rt h
theorem yI{l l':List (Int×Int)}(h:l.Perm l')(c:Int):wsum l c=wsum l' c:=by
 induction h with
 |nil=>rfl
 |cons x _ ih=>simp only[gM,gN,ih]
 |swap x y l=>simp only[gM,gN];exact cg 0x202200021022010200250 rt
 |trans _ _ h1 h2=>simp only[h1,h2]
theorem yJ{l l':List (Int×Int)}(h:l.Perm l'):dH l=dH l':=by
 induction h with
 |nil=>rfl
 |cons x _ ih=>simp only[eU,eV,ih]
 |swap x y l=>simp only[eU,eV];exact cg 0x202200021022010200250 rt
 |trans _ _ h1 h2=>simp only[h1,h2]
noncomputable def Ux(y:Int)(d:Sd):Int×Int:=(m8 y d,d.2.2.2.2)
noncomputable def dR(y:Int)(ds:List Sd):List (Int×Int):=(ds.filter (cov y)).map (Ux y)
theorem uW(n:Nat){st:St}{i:Nat}{is:List Nat}{ds:List Sd}(eo:Bool){row:Int}(hy: -400≤row∧row≤400)(fE:st[i]? =some (.list (is.map (V.obj 403))))(hS:nQ st is ds)(hl:is.length≤60)(hB:∀d∈ds,KG d)(h0:st.length≠0)
  (ht:dH (dR (row * 2+1) ds)=0) {GG:Prop} (kk:∀(af:St) (j:Nat) (found:List (Int×Int)),ae PG (n+4) 365 [.lst i,.int row,iW eo,.int 2,.int 4] st=some (.lst j,af)→st<+:af→st.length≤j→af[j]? =some (.list (found.map pv))→found.length≤60→(∀c,cnt found c=if inside eo (wsum (dR (row * 2+1) ds) c)then 1 else 0)→GG):GG:=by
 refine yD n (y:=row * 2+1) (bA 0x23102131fd811120042311200421fd8163606a81003006a816361 rt hy) fE hS hl hB h0 fun s1 j1 e1 p1 f1=>?_
 haveI hm:((ds.filter (cov (row * 2+1))).map (zl (row * 2+1)))=(dR (row * 2+1) ds).map pv:=by
  unfold dR;simp only[List.map_map];rfl
 rw[hm,GC]at f1;haveI hp:=List.mergeSort_perm (dR (row * 2+1) ds) DT
 haveI hlen:((dR (row * 2+1) ds).mergeSort DT).length≤60:=by
  rw[List.length_mergeSort];unfold dR;rw[List.length_map];haveI:=List.length_filter_le (cov (row * 2+1)) ds;haveI:=hS.length;(rename_i q0;exact aO 0x221227c100002010212000017c11001 rt hl q0 this)
 refine yG (n+1) eo f1 hlen (GD _) (by rw[yJ hp];exact ht) (gJ p1 h0) fun s2 j2 found e2 p2 Gn f2 i8 hc=>?_;refine kk s2 j2 found (ai (loc0:=[some (.lst i),some (.int row),some (iW eo),some (.int 2),some (.int 4),none,none,none,none,none]) QD rfl rfl ?_) (p1.trans p2) (by haveI:=p1.length_le;exact aO 0x222100000200001102001 rt Gn this) f2 i8 (fun c=>by rw[hc c,yI hp]);exact bk 0x0 OM [some (V.lst i),some (V.int row),some (iW eo),some (V.int 2),some (V.int 4),none,none,none,none,none] st _ (FX _ _ _) _ (Kz _ _) _ (bF _ _ er) _ (oQ _) _ e1 _ e2
noncomputable def uX(w h:Nat)(l t:Int)(f:Int→Int→Int):List V:=(dX w l t (h * w)).map fun p=>.int (f p.1 p.2)
theorem wO:(uX w h l t f).length=h * w:=by delta uX dX;simp
theorem sX{w h:Nat}{l t x y:Int}(x1:l≤x)(x2:x<l+w)(y1:t≤y)(y2:y<t+h){GG:Prop}(kk:∀k:Nat,(y - t) * (w:Int) - l+x=(k:Int)→k<h * w→(dX w l t (h * w))[k]? =some (x,y)→GG):GG:=by
 have hw:0<w:=lF 0x2220001100070021041100031 rt x1 x2;have hm:(x - l).toNat<w:=D7 0x212112021212110001010005007510005013601002011000546711001111071020041 rt x2 hw (iq _)
 haveI dB:(y - t).toNat * w+(x - l).toNat<h * w:=by
  haveI:(y - t).toNat+1≤h:=D7 0x212121021210110020000105007500105013601002010010546711070021041100031 rt y1 y2 (iq _);haveI:=Nat.mul_le_mul_right w this;rw[Nat.succ_mul]at this;exact bS 0x222201000210203000201301011 rt hm this
 refine kk ((y - t).toNat * w+(x - l).toNat) ?_ dB ?_
 ·haveI e:(y - t)=((y - t).toNat:Int):=lF 0x2211102121102112102200710005501000500751000501360100201100054671001031 rt y1 (iq _)
  haveI e2:(((y - t).toNat * w:Nat):Int)=(y - t) * w:=by simp only[Int.natCast_mul,←e]
  simp only[Int.natCast_add,e2];exact La 0x2211102121102112102200700220100052501020500751020501360100201102054671201031 rt x1 (iq _)
 ·delta dX pl
  simp only[List.getElem?_map,List.getElem?_range dB];simp only[Option.map_some];simp only[Nat.mul_comm,Nat.mul_add_mod,Nat.mod_eq_of_lt hm,Nat.mul_add_div hw,Nat.div_eq_of_lt hm]
  congr 1
  exact Prod.ext (by simp;lia) (by simp;lia)
theorem wQ{w h:Nat}{l t x y:Int}{f:Int→Int→Int}{k:Nat}(hk:(dX w l t (h * w))[k]? =some (x,y)):(uX w h l t f)[k]? =some (.int (f x y)):=by
 unfold uX;simp only[List.getElem?_map,hk];rfl
noncomputable def yK(f:Int→Int→Int)(x y v:Int):Int→Int→Int:=fun a b=>if a=x∧b=y then v else f a b
theorem GF{w h:Nat}{l t x y v:Int}{f:Int→Int→Int}{k:Nat}(hk:(dX w l t (h * w))[k]? =some (x,y)):(uX w h l t f).set k (.int v)=uX w h l t (yK f x y v):=by
 unfold uX;apply List.ext_getElem?;intro j;rcases Classical.em (k=j)with e|e
 ·subst e
  haveI GA:k<(dX w l t (h * w)).length:=(cN hk);rw[List.getElem?_set_self (by simpa using GA),List.getElem?_map,hk];simp[yK]
 ·simp only[List.getElem?_set_ne e,List.getElem?_map,List.getElem?_map]
  cases hj:(dX w l t (h * w))[j]? with
  |none=>rfl
  |some q=>
   simp only[Option.map_some,yK];rw[if_neg];rintro ⟨rfl,rfl⟩;haveI GA:k<(dX w l t (h * w)).length:=(cN hk);exact e ((List.getElem?_inj GA (ia w l t (h * w))).mp (hk.trans hj.symm))
structure Mk(st:St)(m ki w h:Nat)(l t:Int)(f:Int→Int→Int):Prop where
 m0:m≠0
 k0:ki≠0
 ne:m≠ki
 obj:st[m]? =some (.inst [(5,.int l),(6,.int t),(3,.int w),(4,.int h),(36,.int 2),(37,.lst ki)])
 aM:st[ki]? =some (.list (uX w h l t f))
theorem Mk.pre{st af:St}{m ki w h:Nat}{l t:Int}{f:Int→Int→Int}(H:Mk st m ki w h l t f)(p:st<+:af):Mk af m ki w h l t f:=
 ⟨H.m0,H.k0,H.ne,ag p H.obj,ag p H.aM⟩
theorem CF n st(w h:Nat)(l t)(hw:w≤100)(hh:h≤100)(h0:st.length≠0){GG:Prop}(kk:∀af,ae PG (n+2) 514 [.int l,.int t,.int w,.int h,.int 2] st=some (.obj 514 st.length,af)→st<+:af→(Mk af st.length (st.length+2) w h l t (fun _ _=>0))→GG):GG:=by
 haveI Xy:uX w h l t (fun _ _=>0)=List.replicate (w * h) (.int 0):=by
  dsimp only[uX,dX];simp only[List.map_map];apply List.ext_getElem
  ·simp[Nat.mul_comm]
  ·intro i h1 h2;simp
 haveI hmul:(w:Int) * (h:Int)=((w * h:Nat):Int):=by dsimp only[Int.natCast_mul]
 haveI hwh:w * h≤100 * 100:=Nat.mul_le_mul hw hh;haveI d1:decide ((w:Int)<0)=false:=decide_eq_false (aJ 0x201007480 rt);haveI d2:decide ((h:Int)<0)=false:=decide_eq_false (aJ 0x201007480 rt);haveI d3:decide ((2:Int)<1)=false:=by decide
 haveI w1:(0:Int)≤((w * h:Nat):Int)∧((w * h:Nat):Int)≤(ah:Nat):=by unfold ah;exact aJ 0x2202138bac8170073007013601cc11cc30001 rt hwh
 haveI sw:cW (w:Int):=cz (aJ 0x20073ec99881630 rt) (aJ 0x223ec99881007301cc10001 rt hw);refine kk (((st++[.inst [(5,.int l),(6,.int t),(3,.int w),(4,.int h),(36,.int 2),(37,.lst (st.length+2))]])++[.list [.int 0]])++[.list (uX w h l t (fun _ _=>0))]) (eP Ri oO (bD (loc0:=[some (.obj 514 st.length),some (.int l),some (.int t),some (.int w),some (.int h),some (.int 2),none]) QM rfl rfl ?_)) (((List.prefix_append _ _).trans (List.prefix_append _ _)).trans (List.prefix_append _ _)) ⟨h0,by exact aJ 0x20121002280 rt,by exact aJ 0x212100200280 rt,aA _ (aA _ List.getElem?_concat_length),by simp⟩;show res (ex PG (ae PG n) JY _ _)=_;unfold JY;haveI e1:∀(x y z:Cell),(st++[x]++[y]++[z])[st.length]? =some x:=fun x y z=>aA _ (aA _ List.getElem?_concat_length);haveI e2:∀(x y z x':Cell),(st++[x]++[y]++[z]).set st.length x'=st++[x']++[y]++[z]:=fun x y z x'=>by simp
 haveI e3:∀(x y:Cell),(st++[x]++[y]).length=st.length+2:=fun x y=>by simp
 simp! [Km,Kn,Ko,Kp,ZU,Kq,R0,oO,Ge,Gf,Gg,Gh,Ca,Cb,d1,d2,d3,h0,sw,hmul,w1,and_self,Int.toNat_natCast,e1,e2,e3,Xy]
end
section
open PySem
variable{st:St}{m ki w h:Nat}{l t:Int}{f:Int→Int→Int}
theorem CG n(H:Mk st m ki w h l t f)(hw:w≤100)(x1:l≤x)(x2:x<l+w)(y1:t≤y)(y2:y<t+h):ae PG (n+1) 469 [.obj 514 m,.int x,.int y] st=some (.int ((y - t) * w+(x - l)),st):=by
 refine ai (loc0:=[some (.obj 514 m),some (.int x),some (.int y),none,none]) QO rfl rfl ?_;show res (ex PG (ae PG n) J0 _ _)=_;unfold J0;haveI a1:decide (0≤x - l)=true:=decide_eq_true (dr 0x22100050130001031 rt x1);haveI a2:decide (x - l<(w:Int))=true:=decide_eq_true (lF 0x2200710005400071020041 rt x2);haveI a3:decide (0≤y - t)=true:=decide_eq_true (dr 0x22100050130001031 rt y1);haveI a4:decide (y - t<(h:Int))=true:=decide_eq_true (lF 0x2200710005400071020041 rt y2);haveI sw:cW (w:Int):=cz (aJ 0x20073ec99881630 rt) (aJ 0x223ec99881007301cc10001 rt hw);simp! [Fz,FA,ZJ,ZK,Bt,Bu,Bv,Bw,bF,Bool.not_true,H.obj,a1,a2,a3,a4,sw]
theorem CH n(H:Mk st m ki w h l t f)(hw:w≤100)(x1:l≤x)(x2:x<l+w)(y1:t≤y)(y2:y<t+h):ae PG (n+2) 476 [.obj 514 m,.int x,.int y] st=some (.int (f x y),st):=by
 refine ai (loc0:=[some (.obj 514 m),some (.int x),some (.int y),none]) QP rfl rfl ?_;show res (ex PG (ae PG (n+1)) J1 _ _)=_;unfold J1;refine sX x1 x2 y1 y2 fun k k1 k2 k3=>?_;haveI hk:(y - t) * (w:Int)+(x - l)=(k:Int):=La 0x212022100720105002500071020005251 rt k1;haveI i1:idx (k:Int) (uX w h l t f).length=some k:=(wO.symm▸(la k2));haveI v1:=wQ (f:=f) k3;haveI ep:=CG n H hw x1 x2 y1 y2;rw[hk]at ep;simp! [DP,wo,ZW,oO,B8,H.obj,ep,H.aM,i1,v1]
theorem CJ n(H:Mk st m ki w h l t f)(hw:w≤100)(x1:l≤x)(x2:x<l+w)(y1:t≤y)(y2:y<t+h):ae PG (n+3) 483 [.obj 514 m,.int x,.int y] st=some (.int ((2 * (255 * f x y)+4) / 8),st):=by
 refine ai (loc0:=[some (.obj 514 m),some (.int x),some (.int y),none,none]) QQ rfl rfl ?_;show res (ex PG (ae PG (n+2)) J2 _ _)=_;unfold J2
 haveI em:ae PG (n+2) 462 [.obj 514 m] st=some (.int 4,st):=by
  refine ai (loc0:=[some (.obj 514 m)]) QN rfl rfl ?_;show res (ex PG (ae PG (n+1)) JZ _ _)=_;unfold JZ;simp! [qM,er,Int.reduceMul,H.obj]
 simp! [eX,oO,B7,B',H.obj,CH n H hw x1 x2 y1 y2,em,BH]
end
section
open PySem
noncomputable def ig(b e x:Int):Int:=(if b≤2 * x∧2 * x<e then 1 else 0)+(if b≤2 * x+1∧2 * x+1<e then 1 else 0)
noncomputable def CL(f:Int→Int→Int)(y b e:Int):Int→Int→Int:=fun a c=>f a c+(if c=y then ig b e a else 0)
end
section
open PySem
variable{st:St}{m ki w h:Nat}{l t:Int}{f:Int→Int→Int}
theorem Mk.set(H:Mk st m ki w h l t f){f':Int→Int→Int}:Mk (st.set ki (.list (uX w h l t f'))) m ki w h l t f':=
 ⟨H.m0,H.k0,H.ne,by refine(List.getElem?_set_ne (Ne.symm H.ne)).symm▸?_;exact H.obj,by rw[List.getElem?_set_self (cN H.aM)]⟩
theorem Mk.congr(H:Mk st m ki w h l t f)(e:∀x y,l≤x→x<l+w→t≤y→y<t+h→f x y=f' x y):Mk st m ki w h l t f':=
 ⟨H.m0,H.k0,H.ne,H.obj,by
  refine(H.aM).symm▸?_
  congr 2
  refine List.map_congr_left fun p hp=>?_;obtain⟨a,b⟩:=p;refine zp (hY.mp hp) fun h1 h2 h3 h4=>?_
  refine(e a b h1 h2 h3 h4).symm▸?_;try rfl⟩
theorem GH(h1:2 * x0≤col)(h2:col<bh)(h3:bh≤2 * x0+2):(if a=x0 then bh - col else 0)=ig col bh a:=by
 unfold ig;rcases Classical.em (a=x0)with e|e
 ·subst e
  rw[if_pos rfl]
  by_cases c:col≤2 * a
  ·rw[if_pos (show col≤2 * a∧2 * a<bh from⟨c,by exact cg 0x2221000234020002331102041 rt h2 h1⟩)]
   by_cases d:2 * a+1<bh
   ·rw[if_pos (show col≤2 * a+1∧2 * a+1<bh from⟨by exact dr 0x221110232003010230031 rt c,d⟩)];exact cg 0x2112202221111112100055000112023241202310312120232003110202331 rt h1 h3 c d
   ·rw[if_neg fun q=>d q.2];exact cg 0x22210211201112100055000112023248110202331001041 rt h2 h1 d
  ·rw[if_neg fun q=>c q.1];refine(if_pos (show col≤2 * a+1∧2 * a+1<bh from⟨by exact cg 0x2221110232003021102322031200041 rt h2 h3,by exact cg 0x22210110023240002320381102041 rt h2 c⟩)).symm▸?_;exact cg 0x22210211211012100055020231038121202320031001041 rt h2 h3 c
 ·refine(if_neg e).symm▸?_;refine(if_neg (show ¬(col≤2 * a∧2 * a<bh) by exact rp 0x21321023122010234102300368030105812130232203100302331 rt h1 h3 e)).symm▸?_;refine(if_neg (show ¬(col≤2 * a+1∧2 * a+1<bh) by exact rp 0x21321023122011102324111023200368030105812130232203100302331 rt h1 h3 e)).symm▸?_;rfl
theorem CM{b m e c:Int}(h1:b≤m)(h2:m≤e):(if b≤c∧c<m then 1 else 0)+(if m≤c∧c<e then 1 else 0)=if b≤c∧c<e then(1:Int)else 0:=by
 by_cases q:c<m
 ·rw[if_neg (show ¬(m≤c∧c<e) by exact cg 0x222010410003680001041 rt q)]
  by_cases p:b≤c
  ·rw[if_pos ⟨p,q⟩,if_pos (show b≤c∧c<e from⟨p,by exact cg 0x222100040200041102031 rt h2 q⟩)];rfl
  ·rw[if_neg fun h=>p h.1,if_neg fun h=>p h.1];rfl
 ·rw[if_neg fun h=>q h.2]
  by_cases p:c<e
  ·rw[if_pos (show m≤c∧c<e from⟨by exact dr 0x221000300010481 rt q,p⟩),if_pos (show b≤c∧c<e from⟨by exact cg 0x2221000302010481200031 rt h1 q,p⟩)];rfl
  ·rw[if_neg fun h=>p h.2,if_neg fun h=>p h.2];rfl
theorem GI{b m e x:Int}(h1:b≤m)(h2:m≤e):ig b m x+ig m e x=ig b e x:=by
 haveI a1:=CM (c:=2 * x) h1 h2;haveI a2:=CM (c:=2 * x+1) h1 h2;unfold ig;simp only[←a1,←a2];exact LX.four _ _ _ _
theorem CN{col lim a x0 bh:Int}(h:col<lim)(hx:x0=col / 2)(hb:bh=if lim<(x0+1) * 2 then lim else(x0+1) * 2):(if a=x0 then bh - col else 0)+ig bh lim a=ig col lim a:=by
 haveI d:=dI 2 (by decide) col;haveI d:=hx.symm▸d
 haveI b1:col<bh∧bh≤2 * x0+2∧bh≤lim:=by
  by_cases q:lim<(x0+1) * 2
  ·rw[if_pos q]at hb;exact rp 0x211210221210212123010321202321036100046021120243041301051300041 rt h hb q
  ·rw[if_neg q]at hb;exact YC 0x2112121102111121102211213130103212023210361000460214023200400402336121120243048121120241051402051 rt hx hb q (dI 2 (by decide) _)
 refine(GH d.1 b1.1 b1.2.1).symm▸?_;refine(GI (Int.le_of_lt b1.1) b1.2.2).symm▸?_;try rfl
theorem GJ(n:Nat)(hw:w≤100)(hl: -1000≤l∧l≤1000){y lim:Int}(y1:t≤y)(y2:y<t+h)(ux:lim≤(l+w) * 2){a0 a1 a2 a3 a4 a5 b e:Option V}(SQ:a3=some (.int ((y - t) * w - l))):
  ∀(k:Nat) (col:Int) (st:St) (f:Int→Int→Int) (o1 o2:Option V),l * 2≤col→lim - col≤k→Mk st m ki w h l t f→
   ∃(af:St) (c' SR sY:Option V),bR (fun lo s=>dA (ev PG (ae PG n) eJ lo s)) (ex PG (ae PG n) kU) (k+1) [some (.obj 514 m),a0,a1,a2,a4,a5,a3,b,e,some (.int col),some (.int lim),o1,o2,none,none] st=
     some ([some (.obj 514 m),a0,a1,a2,a4,a5,a3,b,e,c',some (.int lim),SR,sY,none,none],af)∧Mk af m ki w h l t (CL f y col lim)∧ao ki (ki+1) st af:=by
 subst SQ;intro k
 induction k with
 |zero=>
  intro col st f o1 o2 h1 h2 H;have d1:decide (col<lim)=false:=decide_eq_false (dr 0x2210004800170010531 rt h2);refine⟨st,some (.int col),o1,o2,?_,H.congr fun x c _ _ _ _=>?_,.refl _ _ _⟩
  ·refine YM ?_
   show dA (ev PG (ae PG n) eJ _ _)=_;delta eJ;simp! [Bool.false_eq_true,d1]
  ·delta CL ig
   refine(if_neg (show ¬(col≤2 * x∧2 * x<lim) by exact cg 0x222201023410230036800170020531 rt h2)).symm▸?_;refine(if_neg (show ¬(col≤2 * x+1∧2 * x+1<lim) by exact cg 0x222201110232411102320036800170020531 rt h2)).symm▸?_;simp
 |succ k ih=>
  intro col st f o1 o2 h1 h2 H;rcases Classical.em (col<lim)with hc|hc
  ·haveI d1:decide (col<lim)=true:=decide_eq_true hc
   refine sX (w:=w) (h:=h) (l:=l) (t:=t) (x:=col / 2) (y:=y) (cg 0x3212100030211023220420102336120200431 rt h1 (dI 2 (by decide) _)) (UR 0x3122200710200402100232304300023361203041200710242031 rt ux hc (dI 2 (by decide) _)) y1 y2 fun kk k1 k2 k3=>?_;generalize Xz:(if lim<(col / 2+1) * 2 then lim else(col / 2+1) * 2)=bh;haveI SU:col<bh:=by subst Xz;split<;>lia
   haveI i1:idx (kk:Int) (uX w h l t f).length=some kk:=(wO.symm▸(la k2));haveI v1:=wQ (f:=f) k3;haveI xU:=GF (f:=f) (v:=f (col / 2) y+bh - col) k3;haveI H1:=H.set (f':=yK f (col / 2) y (f (col / 2) y+bh - col));refine vh (ih bh _ _ (some (.int (col / 2))) (some (.int bh)) (cg 0x2221020043010204120200431 rt h1 SU) (La 0x22200710005301020411100272000531 rt h2 SU) H1) fun af c' SR sY e1 H2 O2=>?_;refine⟨af,c',SR,sY,?_,H2.congr fun x c _ _ _ _=>?_,(aX _ _ _).trans O2⟩
   ·refine e1▸?_
    haveI et:ev PG (ae PG n) eJ [some (.obj 514 m),a0,a1,a2,a4,a5,some (.int ((y - t) * w - l)),b,e,some (.int col),some (.int lim),o1,o2,none,none] st=some ([.bool true],st):=by
     unfold eJ;simp! [d1]
    haveI eb:ex PG (ae PG n) kU [some (.obj 514 m),a0,a1,a2,a4,a5,some (.int ((y - t) * w - l)),b,e,some (.int col),some (.int lim),o1,o2,none,none] st=
      some (.next,[some (.obj 514 m),a0,a1,a2,a4,a5,some (.int ((y - t) * w - l)),b,e,some (.int bh),some (.int lim),some (.int (col / 2)),some (.int bh),none,none],st.set ki (.list (uX w h l t (yK f (col / 2) y (f (col / 2) y+bh - col))))):=by
     unfold kU;simp! [qM,wo,RM,RN,RO,RP,LW,RQ,bF,er,oQ,H.obj,H.aM,Xz,k1,i1,v1,H.k0,xU]
    exact lwh (congrArg dA et) eb
   ·delta CL yK
    haveI Uy:=CN (a:=x) hc rfl Xz.symm;rcases Classical.em (c=y)with SV|SV
    ·cases SV
     rcases Classical.em (x=col / 2)with hx|hx
     ·subst hx
      rw[if_pos ⟨rfl,rfl⟩,if_pos rfl,if_pos rfl];rw[if_pos rfl]at Uy;exact YC 0x2120221400023020100025250403020105251 rt Uy
     ·rw[if_neg fun q=>hx q.1,if_pos rfl,if_pos rfl]
      rw[if_neg hx]at Uy;exact cg 0x2120221200021000250201001251 rt Uy
    ·rw[if_neg fun q=>SV q.2,if_neg SV,if_neg SV]
  ·haveI d1:decide (col<lim)=false:=decide_eq_false hc
   refine⟨st,some (.int col),o1,o2,?_,H.congr fun x c _ _ _ _=>?_,.refl _ _ _⟩
   ·refine YM ?_
    show dA (ev PG (ae PG n) eJ _ _)=_;delta eJ;simp! [Bool.false_eq_true,d1]
   ·delta CL ig
    refine(if_neg (show ¬(col≤2 * x∧2 * x<lim) by exact cg 0x222201023410230036802000481 rt hc)).symm▸?_;refine(if_neg (show ¬(col≤2 * x+1∧2 * x+1<lim) by exact cg 0x222201110232411102320036802000481 rt hc)).symm▸?_;simp
noncomputable def fQ(found:List (Int×Int))(x:Int):Int:=cnt found (2 * x)+cnt found (2 * x+1)
theorem sZ found p x:fQ (found++[p]) x=fQ found x+ig p.1 p.2 x:=by
 delta fQ ig;simp only[jA,jA];exact rp 0x202301022000223020210002250 rt
theorem wU{b e c f l:Int}(h1:f≤c)(h2:c<l):((if b<f then f else b)≤c∧c<(if l<e then l else e))↔(b≤c∧c<e):=by
 refine and_congr ?_ ?_
 ·by_cases p:b<f
  ·rw[if_pos p];exact⟨fun _=>by exact cg 0x222100030200041102031 rt h1 p,fun _=>h1⟩
  ·rw[if_neg p]
 ·by_cases p:l<e
  ·rw[if_pos p];exact⟨fun _=>by exact cg 0x222100040102041200041 rt h2 p,fun _=>h2⟩
  ·rw[if_neg p]
theorem lh{p q:Prop}[Decidable p][Decidable q](h:p↔q):(if p then(1:Int)else 0)=if q then 1 else 0:=by
 by_cases c:q
 ·rw[if_pos c,if_pos (h.mpr c)]
 ·rw[if_neg c,if_neg fun x=>c (h.mp x)]
theorem CO(h1:first≤2 * x)(h2:2 * x+1<last):ig (if b<first then first else b) (if last<e then last else e) x=ig b e x:=by
 haveI i1:=lh (wU (b:=b) (e:=e) h1 (show 2 * x<last by exact dr 0x221000234010110023241 rt h2));haveI i2:=lh (wU (b:=b) (e:=e) (show first≤2 * x+1 by exact dr 0x221110232003010230031 rt h1) h2);unfold ig;simp only[i1,i2]
theorem GK(n:Nat)(H:Mk st m ki w h l t f)(hw:w≤100)(hl: -1000≤l∧l≤1000){row:Int}(y1:t≤row / 2)(y2:row / 2<t+h){sj:Nat}{found:List (Int×Int)}(hs:st[sj]? =some (.list (found.map pv)))(hsk:sj≠ki){GG:Prop}(kk:∀af,ae PG (n+1) 490 [.obj 514 m,.int row,.lst sj] st=some (.none,af)→(Mk af m ki w h l t (fun x y=>f x y+if y=row / 2 then fQ found x else 0))→ao ki (ki+1) st af→GG):GG:=by
 haveI sw:cW (w:Int):=cz (aJ 0x20073ec99881630 rt) (aJ 0x223ec99881007301cc10001 rt hw)
 obtain⟨lf,s1,e1,⟨o7,o8,o9,o10,o11,o12,rfl⟩,H1,O1⟩:=aH (p:=.vars [7,8]) (gs:=[(sj,found.map pv)]) (f:=ex PG (ae PG n) qC) (all:=found.map pv)
  (fun k lo s'=>(∃o7 o8 o9 o10 o11 o12,lo=[some (.obj 514 m),some (.int row),some (.lst sj),some (.int (row / 2)),some (.int (l * 2)),some (.int ((l+w) * 2)),some (.int ((row / 2 - t) * w - l)),o7,o8,o9,o10,o11,o12,none,none])∧
   Mk s' m ki w h l t (fun x y=>f x y+if y=row / 2 then fQ (found.take k) x else 0)∧ao ki (ki+1) st s')
  (fun k lo s' hI=>by simp only[ay];exact hI.2.2.get hs (aC 0x21202211002101100006800010281 rt hsk))
  (fun k v lo s' hv hI=>by
   obtain⟨⟨o7,o8,o9,o10,o11,o12,rfl⟩,H',O'⟩:=hI;rw[List.getElem?_map,Option.map_eq_some_iff]at hv;refine b9 hv fun p hp eq2=>?_;try clear hv;obtain rfl:=eq2
   have et:found.take (k+1)=found.take k++[p]:=by simp only[List.take_add_one,hp];rfl
   generalize CP:(if p.1<l * 2 then l * 2 else p.1)=col;generalize ux:(if(l+w) * 2<p.2 then(l+w) * 2 else p.2)=lim;haveI c1:l * 2≤col:=by subst CP;split<;>simp_all
   haveI c2:lim≤(l+w) * 2:=by subst ux;split<;>simp_all
   refine vh (GJ n hw hl y1 y2 c2 (a0:=some (.int row)) (a1:=some (.lst sj)) (a2:=some (.int (row / 2))) (a4:=some (.int (l * 2))) (a5:=some (.int ((l+w) * 2))) (b:=some (.int p.1)) (e:=some (.int p.2)) rfl 999 col s' _ o11 o12 c1 (La 0x22231fcf171000530200720240031102204311cc10001 rt hw c1 c2) H') fun s2 c' SR sY e2 H2 O2=>?_;refine⟨_,.next,[some (.obj 514 m),some (.int row),some (.lst sj),some (.int (row / 2)),some (.int (l * 2)),some (.int ((l+w) * 2)),some (.int ((row / 2 - t) * w - l)),some (.int p.1),some (.int p.2),c',some (.int lim),SR,sY,none,none],s2,rfl,?_,(fun _ q=>nomatch q),⟨_,_,_,_,_,_,rfl⟩,H2.congr fun x y a b _ _=>?_,O'.trans O2⟩
   ·unfold qC
    simp! [S17,RZ,CP,ux,e2]
   ·unfold CL
    dsimp only;rw[et,sZ]
    by_cases hy:y=row / 2
    ·simp only[if_pos hy]
     rw[←CP,←ux,CO (by exact dr 0x231023200430100031 rt a) (by exact lF 0x23200710241100232400071020041 rt b)];exact cg 0x202201020022010002250 rt
    ·simp only[if_neg hy];exact bA 0x202010020101002250 rt)
  (l:=[some (.obj 514 m),some (.int row),some (.lst sj),some (.int (row / 2)),some (.int (l * 2)),some (.int ((l+w) * 2)),some (.int ((row / 2 - t) * w - l)),none,none,none,none,none,none,none,none]) (st:=st)
  ⟨⟨_,_,_,_,_,_,rfl⟩,H.congr fun x y _ _ _ _=>by simp[fQ,yE,yF],.refl _ _ _⟩
 rw[List.length_map,List.take_length]at H1;have d1:decide (t≤row / 2)=true:=decide_eq_true y1;have d2:decide (row / 2<t+h)=true:=decide_eq_true y2;refine kk s1 (bD (loc0:=[some (.obj 514 m),some (.int row),some (.lst sj),none,none,none,none,none,none,none,none,none,none,none,none]) QR rfl rfl ?_) H1 O1;show res (ex PG (ae PG n) J3 _ _)=_;unfold J3;simp! [Fz,FA,ZJ,ZK,Bt,Bu,Bv,Bw,qM,bF,er,oQ,Bool.not_true,H.obj,d1,d2,sw,hs,e1]
end
section
open PySem
noncomputable def hit(ds:List Sd)(eo:Bool)(row c:Int):Int:=if inside eo (wsum (dR (row * 2+1) ds) c)then 1 else 0
noncomputable def kH(ds:List Sd)(eo:Bool)(row x:Int):Int:=hit ds eo row (2 * x)+hit ds eo row (2 * x+1)
noncomputable def many(ds:List Sd)(eo:Bool)(x y:Int):Int:=kH ds eo (2 * y) x+kH ds eo (2 * y+1) x
theorem KI.only{s s':St}{ki:Nat}{vs:List V}(h:s[ki]? =some (.list vs))(o:ao ki (ki+1) s s'):KI s s':=fun i fs hi=>by
 haveI:i≠ki:=fun e=>by subst e;replace hi:=h▸hi;cases hi
 exact o.get hi (aC 0x21202211002101100006800010281 rt this)
theorem gO(p:st<+:a)(o:ao lo hi a b)(h:st.length≤lo):st<+:b:=by
 rw[List.prefix_iff_getElem?];intro i hi;haveI:=ag p (List.getElem?_eq_getElem hi);exact o.get this (bS 0x2222010110000680301011003001 rt h hi)
theorem ta{ds:List Sd}{lo hi Y:Int}(h1:lo≤Y)(h2:Y<hi):dR Y (ds.filter (yC lo hi))=dR Y ds:=by
 unfold dR;rw[List.filter_filter]
 congr 1
 refine List.filter_congr fun d _=>?_;delta cov yC;rcases Classical.em (d.2.1≤Y)with q1|q1
 ·rcases Classical.em (Y<d.2.2.2.1)with q2|q2
  ·rw[decide_eq_true q1,decide_eq_true q2,decide_eq_true (Int.lt_of_le_of_lt q1 h2),decide_eq_true (Int.lt_of_le_of_lt h1 q2)];rfl
  ·rw[decide_eq_false q2,Bool.and_false];rfl
 ·rw[decide_eq_false q1];rfl
theorem SW(h:aS a b=some d)(ha: -100≤a.1∧a.1≤100∧-100≤a.2∧a.2≤100)(hb: -100≤b.1∧b.1≤100∧-100≤b.2∧b.2≤100):KG d:=by
 unfold aS at h;unfold KG
 split at h
 ·cases h
 ·refine xm h (fun _ h=>?_) fun _ h=>?_
  ·cases h;dsimp only;(rename_i q0;exact rp 0x2211111111021112111110211112111102121111111021111112110211111112102111111112201041cc13036301cc16361cc12036101cc16361cc10036001cc163602010411cc1203201cc16361cc13036301cc163611cc1103101cc16361cc10036001cc16361 rt ha hb q0)
  ·cases h;exact⟨hb.1,hb.2.1,hb.2.2.1,ha.2.2.2,ha.1,ha.2.1,(Int.lt_or_gt_of_ne ‹¬a.2=b.2›).resolve_left ‹¬a.2<b.2›⟩
theorem lj(hs:s≠[])(h:p∈mW s):p.1∈s∧p.2∈s:=by
 rcases List.mem_append.mp h with h|h
 ·haveI a:=p.1;haveI b:=p.2
  exact⟨(List.of_mem_zip h).1,List.mem_of_mem_drop (List.of_mem_zip h).2⟩
 ·split at h
  ·rw[List.mem_singleton]at h
   subst h;exact((List.getLast?_eq_some_getLast hs).symm▸((List.head?_eq_some_head hs).symm▸(⟨List.getLast_mem hs,List.head_mem hs⟩)))
  ·cases h
theorem GN(K:m7 aM):∀d∈aG aM,KG d:=fun d hd=>by
 unfold aG at hd;refine b9 (List.mem_flatMap.mp hd) fun s hs h1=>?_;refine b9 (List.mem_filterMap.mp h1) fun p hp h2=>?_;refine jZ (K.each s hs) fun k1 k2 k3=>?_;haveI m1:=(lj k1 hp).1;haveI m2:=(lj k1 hp).2;exact SW h2 (k3 _ m1) (k3 _ m2)
inductive MoI(st:St)(aM:List (List Spot))(eo:Bool)(w h:Nat)(l t:Int)(iC:Nat)(SX:List Nat)(k:Nat)(s:St):Prop
 |mk (p:st<+:s) (H:Mk s st.length (st.length+2) w h l t (fun x y=>(if 2 * y<t * 2+k then kH (aG aM) eo (2 * y) x else 0)+(if 2 * y+1<t * 2+k then kH (aG aM) eo (2 * y+1) x else 0)))
  (f:s[iC]? =some (.list (SX.map (V.obj 403)))) (S:nQ s SX ((aG aM).filter (yC (t * 4) ((t+h) * 4)))):MoI st aM eo w h l t iC SX k s
theorem yL ds eo{t k x y:Int}(yM:∀c,cnt found c=if inside eo (wsum (dR ((t * 2+k) * 2+1) ds) c)then 1 else 0):
  ((if 2 * y<t * 2+k then kH ds eo (2 * y) x else 0)+(if 2 * y+1<t * 2+k then kH ds eo (2 * y+1) x else 0))+(if y=(t * 2+k) / 2 then fQ found x else 0)=
   (if 2 * y<t * 2+(k+1)then kH ds eo (2 * y) x else 0)+(if 2 * y+1<t * 2+(k+1)then kH ds eo (2 * y+1) x else 0):=by
 haveI hsp:fQ found x=kH ds eo (t * 2+k) x:=by
  delta fQ kH hit;simp only[yM,yM]
 refine hsp.symm▸?_;refine(Int.add_assoc (t * 2) k 1)▸?_;generalize t * 2+k=row
 by_cases e1:row=2 * y
 ·subst e1
  rw[if_neg (by exact bA 0x200230023480 rt),if_neg (by exact bA 0x200231100232480 rt),if_pos (by exact dr 0x321031210005021102320023400231023361 rt (dI 2 (by decide) _)),if_pos (by exact bA 0x21100232002340 rt),if_neg (by exact bA 0x211002321100232480 rt)];exact bA 0x202010020001012250 rt
 ·rcases Classical.em (row=2 * y+1)with e2|e2
  ·subst e2
   rw[if_pos (by exact bA 0x21100232002340 rt),if_neg (by exact bA 0x211002321100232480 rt),if_pos (by exact dr 0x321031210005021102321100232411002321023361 rt (dI 2 (by decide) _)),if_pos (by exact bA 0x21111002322002340 rt),if_pos (by exact bA 0x21111002322110023240 rt)];exact dr 0x202100021001002250 rt
  ·rw[if_neg (show ¬y=row / 2 by exact cg 0x31212102202203121210005802110232204201023361110023220581002320581 rt e1 e2 (dI 2 (by decide) _))]
   by_cases e3:2 * y<row
   ·rw[if_pos e3,if_pos (by exact dr 0x2120221011002324010002341110023210581 rt e2 e3),if_pos (by exact dr 0x221110200234010002341 rt e3),if_pos (by exact dr 0x221110211002324010002341 rt e3)];exact dr 0x202100020110002250 rt
   ·rw[if_neg e3,if_neg (by exact dr 0x22101100232480100023481 rt e3),if_neg (by exact dr 0x220212111020023480100023481002310581 rt e1 e3),if_neg (by exact dr 0x22111021100232480100023481 rt e3)];exact D6 0x202010120101012250 rt
theorem td(n:Nat){aM:List (List Spot)}(K:m7 aM)(eo:Bool){st:St}{ci:Nat}(hc:st[ci]? =some (.list (aM.map gi)))(h0:st.length≠0){w h:Nat}{l t:Int}(hw:w≤10)(hh:h≤10)(hl: -100≤l∧l≤100)(ht: -100≤t∧t≤100)
  (jf:∀Y,dH (dR Y (aG aM))=0) {GG:Prop} (kk:∀(af:St),ae PG (n+6) 525 [.lst ci,iW eo,.int l,.int t,.int w,.int h,.int 2,.int 4] st=some (.obj 514 st.length,af)→st<+:af→Mk af st.length (st.length+2) w h l t (many (aG aM) eo)→GG):GG:=by
 refine CF (n+3) st w h l t (aJ 0x221cc100001a10001 rt hw) (aJ 0x221cc100001a10001 rt hh) h0 fun sA eA pA HA=>?_;refine qV n K (ag pA hc) (gJ pA h0) fun sB iB isB eB pB fB SB lB=>?_;refine jz (n+4) (t * 4) ((t+h) * 4) fB SB lB fun sC iC SX eC pC jC fC SC lC=>?_;haveI HC:=(HA.pre pB).pre pC;haveI hki:st.length+2<sB.length:=(cN (HA.pre pB).aM);haveI hBd:∀d∈(aG aM).filter (yC (t * 4) ((t+h) * 4)),KG d:=fun d hd=>GN K d (List.mem_filter.mp hd).1
 refine yz (p:=.var 10) (gs:=[]) (f:=ex PG (ae PG (n+5)) qD) (all:=aD (t * 2) 1 (2 * h))
  (fun o=>[some (.lst ci),some (iW eo),some (.int l),some (.int t),some (.int w),some (.int h),some (.int 2),some (.int 4),some (.obj 514 st.length),some (.lst iC),o,none,none,none,none,none])
  (fun k _ s=>MoI st aM eo w h l t iC SX k s) (x0:=none) (st:=sC)
  ⟨(pA.trans pB).trans pC,HC.congr fun x y a b c d=>by rw[if_neg (by exact dr 0x23017210420023480001031 rt c),if_neg (by exact dr 0x23017210421100232480001031 rt c)];rfl,fC,SC⟩
  (fun _ _ _ _=>Sb _)
  (fun k v o s hv hI=>?_) (fun o s1 e1 hI=>?_)
 ·obtain⟨p,H,f,S⟩:=hI
  obtain⟨rfl,hk⟩:=aY hv;refine gP fun GP kP=>?_;haveI hch:dR ((t * 2+k) * 2+1) ((aG aM).filter (yC (t * 4) ((t+h) * 4)))=dR ((t * 2+k) * 2+1) (aG aM):=ta (fy 0x21120072004242400430 rt) (fZ 0x234107002411200720042424010230011 rt hk);refine uW (n+1) eo (row:=t * 2+k) (fZ 0x223130211316a81007200423007200426a816360102300111cc1003001cc163611a11001 rt hh ht hk) f S lC hBd (gJ p h0) (by rw[hch];exact jf _) fun s2 j2 found e2 p2 Gn f2 i8 yM=>?_;haveI GA:st.length+2<s.length:=(cN H.aM);refine GK (n+4) (H.pre p2) (aJ 0x221cc100001a10001 rt hw) (bA 0x22102121fd81003001fd8163601cc1003001cc16361 rt hl) (row:=t * 2+k) (lF 0x3211000302110232007200424007200421023361 rt (dI 2 (by decide) _)) (D7 0x31220071020040210023210721042410721042002336100231011 rt hk (dI 2 (by decide) _)) f2 (aO 0x2222110200280202110211002001 rt Gn GA) fun s3 e3 H3 O3=>?_;haveI yM:=hch▸yM;refine kP ?_;refine .nx (x:=some (.int (t * 2+k))) rfl (gf 0x0 qD [some (.lst ci),some (iW eo),some (.int l),some (.int t),some (.int w),some (.int h),some (.int 2),some (.int 4),some (.obj 514 st.length),some (.lst iC),some (.int (t * 2+k)),none,none,none,none,none] s _ (gI H.obj) _ e2 _ e3) ⟨gO (p.trans p2) O3 (aJ 0x2210020000 rt),H3.congr fun x y a b c d=>yL (aG aM) eo yM,O3.get (ag p2 f) (aO 0x21221121002210110210020680202100211102001 rt jC hki),(S.ki (.aK p2)).ki (.only (H.pre p2).aM O3)⟩
 ·refine gP fun GP pI=>?_
  obtain⟨p1,H1,f1,S1⟩:=hI;rw[aR]at H1;refine pI ?_;refine kk s1 (ai (loc0:=[some (.lst ci),some (iW eo),some (.int l),some (.int t),some (.int w),some (.int h),some (.int 2),some (.int 4),none,none,none,none,none,none,none,none]) QS rfl rfl ?_) p1 (H1.congr fun x y a b c d=>by rw[if_pos (by exact lF 0x2300237210420023400071020041 rt d),if_pos (by exact lF 0x2300237210421100232400071020041 rt d)];rfl);show res (ex PG (ae PG (n+5)) J4 _ _)=_;unfold J4;haveI hr:(t+h) * 2=t * 2+((2 * h:Nat):Int):=fy 0x20200237200422007002450 rt;simp! [bF,er,BD,eA,eB,eC];refine hr.symm▸?_;simp! [fO _ (t * 2) (2 * h) (bA 0x213200438bac816301cc1003001cc16361 rt ht) (bA 0x23138bac812004301cc1003001cc16361 rt ht) (by exact aJ 0x231fd810023001a10001 rt hh),e1]
theorem ko(l l':List (Int×Int))(c:Int):wsum (l++l') c=wsum l c+wsum l' c:=by
 induction l with
 |nil=>simp[gM,gN]
 |cons q r ih=>simp only[List.cons_append,gM,gN,ih];exact cg 0x202201000222010200250 rt
theorem gQ(l l':List (Int×Int)):dH (l++l')=dH l+dH l':=by
 induction l with
 |nil=>simp[eU,eV]
 |cons q r ih=>simp only[List.cons_append,eU,eV,ih];exact cg 0x202201000222010200250 rt
theorem eg Y(a b):dR Y (a++b)=dR Y a++dR Y b:=by unfold dR;simp
noncomputable def vH(Y:Int)(p:Spot):Int:=if p.2≤Y then 1 else 0
theorem tf Y(a b):dH (dR Y ([(a,b)].filterMap fun p=>aS p.1 p.2))=vH Y a - vH Y b:=by
 unfold vH;rcases Classical.em (a.2=b.2)with h1|h1
 ·haveI e:aS a b=none:=by unfold aS;refine(if_pos h1).symm▸?_;try rfl
  simp[e,dR,eU,eV,h1]
 ·by_cases h2:a.2<b.2
  ·have e:aS a b=some (a.1,a.2,b.1,b.2,1):=by unfold aS;rw[if_neg h1,if_pos h2]
   by_cases hc:a.2≤Y∧Y<b.2
   ·have:cov Y (a.1,a.2,b.1,b.2,1)=true:=by dsimp only[cov];simp[hc.1,hc.2]
    simp[e,dR,this,eU,eV,Ux];rw[if_pos hc.1,if_neg (by exact cg 0x2211000380001041020361 rt hc)];rfl
   ·have:cov Y (a.1,a.2,b.1,b.2,1)=false:=by dsimp only[cov];rcases Classical.em (a.2≤Y)with q1|q1;rw[decide_eq_false fun q2=>hc ⟨q1,q2⟩,Bool.and_false];rw[decide_eq_false q1];rfl
    simp[e,dR,this,eU,eV];rw[lh (show a.2≤Y↔b.2≤Y from⟨fun q=>by exact cg 0x2120221000301020310010410203681 rt hc q,fun q=>by exact cg 0x222100030102031200041 rt h2 q⟩)];exact(Int.sub_self _).symm
  ·have e:aS a b=some (b.1,b.2,a.1,a.2,-1):=by unfold aS;rw[if_neg h1,if_neg h2]
   by_cases hc:b.2≤Y∧Y<a.2
   ·have:cov Y (b.1,b.2,a.1,a.2,-1)=true:=by dsimp only[cov];simp[hc.1,hc.2]
    simp[e,dR,this,eU,eV,Ux];rw[if_neg (by exact cg 0x2211000380001041020361 rt hc)];refine(if_pos hc.1).symm▸?_;rfl
   ·have:cov Y (b.1,b.2,a.1,a.2,-1)=false:=by dsimp only[cov];rcases Classical.em (b.2≤Y)with q1|q1;rw[decide_eq_false fun q2=>hc ⟨q1,q2⟩,Bool.and_false];rw[decide_eq_false q1];rfl
    simp[e,dR,this,eU,eV];rw[lh (show a.2≤Y↔b.2≤Y from⟨fun q=>by exact cg 0x2221000301020310020481 rt h2 q,fun q=>by exact cg 0x2120221000301020310010410203681 rt hc q⟩)];exact(Int.sub_self _).symm
theorem CQ Y(p:Spot×Spot) r:dH (dR Y ((p::r).filterMap fun p=>aS p.1 p.2))=vH Y p.1 - vH Y p.2+dH (dR Y (r.filterMap fun p=>aS p.1 p.2)):=by
 rw[show p::r=[p]++r from rfl,List.filterMap_append,eg,gQ,tf]
theorem wV(Y:Int):∀(a:Spot) (r:List Spot),dH (dR Y (((a::r).zip r).filterMap fun p=>aS p.1 p.2))=vH Y a - vH Y ((a::r).getLast (by simp))
 |a,[]=>by simp[dR,eU,eV]
 |a,b::r=>by
  simp only[List.zip_cons_cons,CQ,wV Y b r];simp only[List.getLast_cons_cons];exact cg 0x202200052010510005250 rt
theorem tg(Y:Int)(s:List Spot):dH (dR Y ((mW s).filterMap fun p=>aS p.1 p.2))=0:=by
 unfold mW;cases s with
 |nil=>rfl
 |cons a r=>
  simp only[List.filterMap_append,eg,gQ];haveI h:=wV Y a r;rw[List.drop_succ_cons,List.drop_zero];rw[h]
  split
  ·rename_i hl
   rw[tf,List.getLast?_eq_some_getLast (by simp)];refine(List.head?_cons).symm▸?_;exact dr 0x202010010510005250 rt
  ·rename_i hl
   cases r with
   |nil=>simp[dR,eU,eV]
   |cons b r=>simp at hl
theorem wW(Y:Int)(aM:List (List Spot)):dH (dR Y (aG aM))=0:=by
 unfold aG
 induction aM with
 |nil=>rfl
 |cons s r ih=>simp only[List.flatMap_cons,eg,gQ,tg,ih];rfl
theorem cl1:0 - D≤c↔ -c≤D:=Int.zero_sub D▸⟨Int.neg_le_of_neg_le,Int.neg_le_of_neg_le⟩
theorem cl2: -(4 * P)≤0 - (2 * T - 2 * H)↔T≤2 * P+H:=by lia
theorem uY{Y c:Int}{d:Sd}(h:0<fh d):m8 Y d≤c↔fX Y d≤fh d * (2 * c+1):=by
 unfold m8;haveI h4:0<4 * fh d:=bA 0x2500430140000141 rt h;haveI:=Int.le_ediv_iff_mul_le (a:=-c) (b:=0 - (2 * fX Y d - 2 * fh d)) h4
 haveI e: -c * (4 * fh d)= -(4 * (fh d * c)):=by
  rw[Int.neg_mul,Int.mul_left_comm,Int.mul_comm c]
 simp only[e]at this
 haveI e2:fh d * (2 * c+1)=2 * (fh d * c)+fh d:=by
  simp only[Int.mul_add,Int.mul_one,Int.mul_left_comm]
 simp only[e2];exact cl1.trans (this.trans cl2)
theorem kp(hc:cov Y d=true)(h1:lo≤d.1)(h2:lo≤d.2.2.1)(h3:d.1≤hi)(h4:d.2.2.1≤hi):lo * fh d≤fX Y d∧fX Y d≤hi * fh d:=by
 unfold cov at hc;simp only[Bool.and_eq_true,decide_eq_true_eq]at hc
 haveI e:fX Y d=d.1 * (fh d - (Y - d.2.1))+d.2.2.1 * (Y - d.2.1):=by
  unfold fX;generalize Y - d.2.1=u;simp only[Int.mul_sub,Int.sub_mul];exact cg 0x202102000522010500250 rt
 haveI hu:0≤Y - d.2.1:=cg 0x212100050130200040010361 rt hc;haveI hv:0≤fh d - (Y - d.2.1):=by unfold fh;exact cg 0x221102051000550130002042010361 rt hc
 have sp:∀z:Int,z * fh d=z * (fh d - (Y - d.2.1))+z * (Y - d.2.1):=fun z=>by rw[←Int.mul_add];congr 1;exact cg 0x202201052010500520050 rt
 simp only[e,sp lo,sp hi];haveI a1:=Int.mul_le_mul_of_nonneg_right h1 hv;haveI a2:=Int.mul_le_mul_of_nonneg_right h2 hu;haveI a3:=Int.mul_le_mul_of_nonneg_right h3 hv;haveI a4:=Int.mul_le_mul_of_nonneg_right h4 hu;exact l06 0x22211021122504023020233020210002360503031402031301031200031 rt a1 a2 a3 a4
theorem qY(hc:cov Y d=true):0<fh d:=by
 unfold cov at hc;simp only[Bool.and_eq_true,decide_eq_true_eq]at hc;unfold fh;exact cg 0x222100050140002042010361 rt hc
structure CT(ds:List Sd)(x0 y0 x1 y1:Int):Prop where
 all:∀d∈ds,x0≤d.1∧d.1≤x1∧x0≤d.2.2.1∧d.2.2.1≤x1∧y0≤d.2.1∧d.2.2.2.1≤y1
theorem yN{l:List (Int×Int)}{c:Int}(h:∀p∈l,c<p.1):wsum l c=0:=by
 induction l with
 |nil=>rfl
 |cons q r ih=>
  simp only[gM,gN];rw[ih fun p hp=>h p (.tail _ hp),if_neg (by haveI:=h q (.head _);exact dr 0x221000380001041 rt this)];rfl
theorem GO(B:CT ds x0 y0 x1 y1)(ht:∀Y,dH (dR Y ds)=0) eo
  (h:2 * c+1<x0∨x1≤2 * c+1∨row * 2+1<y0∨y1≤row * 2+1):hit ds eo row c=0:=by
 haveI w0:wsum (dR (row * 2+1) ds) c=0:=by
  rcases h with h|h
  ·refine yN fun p hp=>?_
   unfold dR at hp;refine b9 (List.mem_map.mp hp) fun d hd eq2=>?_;obtain rfl:=eq2;obtain⟨hd,hc⟩:=List.mem_filter.mp hd;refine Mh (B.all d hd) fun b1 b2 b3 b4 _=>?_;haveI hg:=qY hc;haveI ht:=(kp hc b1 b3 b2 b4).1
   haveI hn:¬m8 (row * 2+1) d≤c:=fun q=>by
    haveI q:=(uY hg).mp q
    haveI:fh d * (2 * c+1)<x0 * fh d:=by
     rw[Int.mul_comm];exact Int.mul_lt_mul_of_pos_right h hg
    exact Int.lt_irrefl _ (Int.lt_of_le_of_lt ht (Int.lt_of_le_of_lt q this))
   exact dr 0x221000400010381 rt hn
  ·rw[ng fun p hp=>?_,ht]
   unfold dR at hp;refine b9 (List.mem_map.mp hp) fun d hd eq2=>?_;obtain rfl:=eq2;obtain⟨hd,hc⟩:=List.mem_filter.mp hd;refine I3 (B.all d hd) fun b1 b2 b3 b4 b5 b6=>?_;haveI hg:=qY hc;have htp:=(kp hc b1 b3 b2 b4).2
   haveI hx:x1≤2 * c+1:=by
    rcases h with h|h
    ·exact h
    ·unfold cov at hc
     simp only[Bool.and_eq_true,decide_eq_true_eq]at hc;exact l07 0x21221022121110232003040112604241126042303611126042503201126042471504031302031 rt b5 b6 h hc
   refine(uY hg).mpr ?_
   haveI:x1 * fh d≤fh d * (2 * c+1):=by
    rw[Int.mul_comm (fh d)];exact Int.mul_le_mul_of_nonneg_right hx (bA 0x22000130000141 rt hg)
   exact cg 0x222100030102031200031 rt htp this
 unfold hit;refine w0.symm▸?_;rw[qW];rfl
noncomputable def Iz(p:Spot):PyData:=.tuple [.int p.1,.int p.2]
theorem qZ m st(p:Spot):toPy (m+2) st (pv p)=some (Iz p):=by
 rfl
theorem ni{f:V→Option PyData}{α:Type}{F:α→V}{G:α→PyData}(h:∀a,f (F a)=some (G a)):∀l:List α,(l.map F).mapM f=some (l.map G)
 |[]=>rfl
 |a::l=>by simp[List.mapM_cons,h a,ni h l]
theorem uZ{ps:List Spot}(h:st[i]? =some (.list (ps.map pv))):toPy 8 st (.lst i)=some (.list (ps.map Iz)):=by
 show jO st[i]? (fun vs=>(vs.mapM (toPy 7 st)).map PyData.list)=_;refine(congrArg (jO · _) h).trans ?_;exact congrArg (Option.map _) (ni (fun p=>qZ 5 st p) ps)
theorem eq_nil{st:St}{i j:Nat}{ps:List Spot}(h:st[i]? =some (.list (ps.map pv)))(hj:st[j]? =some (.list [])):vv st (.lst i) (.lst j)=some (ps.isEmpty):=by
 show(match toPy 8 st (.lst i),toPy 8 st (.lst j)with|some p,some q=>some (PyData.eqv p q)|_,_=>none)=_;refine(uZ h).symm▸?_
 haveI:toPy 8 st (.lst j)=some (.list []):=by
  show jO st[j]? (fun vs=>(vs.mapM (toPy 7 st)).map PyData.list)=_;exact congrArg (jO · _) hj
 refine this.symm▸?_;cases ps with
 |nil=>rfl
 |cons a r=>rfl
theorem CU(n:Nat){a:Option V}{st:St}:∀(vs:List V) (o2:Option V),∃sY,cG (.var 2) [] (fun l' af=>one (ev PG (ae PG n) jV l' af)) vs [none,a,o2] st=some (vs,[none,a,sY],st)
 |[],o2=>⟨o2,U9 (by rw[aQ];trivial)⟩
 |v::vs,o2=>by
  obtain⟨sY,e⟩:=CU n vs (some v);refine⟨sY,?_⟩;refine(U' (by rw[aQ];trivial)).trans ?_;haveI e1:cb (.var 2) v [none,a,o2]=some [none,a,some v]:=rfl;haveI e2:one (ev PG (ae PG n) jV [none,a,some v] st)=some (v,st):=rfl;simp only[e1];simp only[Option.bind_some];rw[e2];simp only[Option.bind_some];rw[e];rfl
theorem wX{st:St}{ci:Nat}{all:List V}{inner:Loc→St→Option (List V×Loc×St)}(hc:st[ci]? =some (.list all))
  (HW:∀s o2,∃sY,inner [none,some (gi s),o2] st=some (s.map pv,[none,some (gi s),sY],st)):∀(aM:List (List Spot)) (o1 o2:Option V),
  bf (.var 1) [(ci,all)] inner (aM.map gi) [none,o1,o2] st=some (aM.flatten.map pv,st)
 |[],o1,o2=>Va (by simp only[ay];exact hc)
 |s::aM,o1,o2=>by
  obtain⟨sY,e⟩:=HW s o2;haveI ih:=wX hc HW aM (some (gi s)) sY;refine(Vb (by simp only[ay];exact hc)).trans ?_;haveI e1:cb (.var 1) (gi s) [none,o1,o2]=some [none,some (gi s),o2]:=rfl;simp only[e1];simp only[Option.bind_some];rw[e];simp only[Option.bind_some];simp only[ih];simp
theorem lq:∀(a:Int) (r:List Int),fD a r≤a∧∀b∈r,fD a r≤b
 |a,[]=>⟨Int.le_refl _,fun b h=>nomatch h⟩
 |a,b::r=>by
  haveI h1:=(lq (if b<a then b else a) r).1;haveI h2:=(lq (if b<a then b else a) r).2;haveI e:fD a (b::r)=fD (if b<a then b else a) r:=rfl;refine e.symm▸?_;refine⟨by by_cases hb:b<a<;>simp only[hb,if_true,if_false]at h1⊢<;>lia,fun c hc=>?_⟩;rcases List.mem_cons.mp hc with rfl|hc
  ·rcases Classical.em (c<a)with hb|hb<;>simp only[hb,if_true,if_false]at h1⊢<;>lia
  ·exact h2 c hc
theorem lr:∀(a:Int) (r:List Int),a≤fA a r∧∀b∈r,b≤fA a r
 |a,[]=>⟨Int.le_refl _,fun b h=>nomatch h⟩
 |a,b::r=>by
  haveI h1:=(lr (if a<b then b else a) r).1;haveI h2:=(lr (if a<b then b else a) r).2;haveI e:fA a (b::r)=fA (if a<b then b else a) r:=rfl;refine e.symm▸?_;refine⟨by by_cases hb:a<b<;>simp only[hb,if_true,if_false]at h1⊢<;>lia,fun c hc=>?_⟩;rcases List.mem_cons.mp hc with rfl|hc
  ·rcases Classical.em (a<c)with hb|hb<;>simp only[hb,if_true,if_false]at h1⊢<;>lia
  ·exact h2 c hc
theorem nj:∀(a:Int) (r:List Int),fD a r=a∨fD a r∈r
 |a,[]=>.inl rfl
 |a,b::r=>by
  haveI e:fD a (b::r)=fD (if b<a then b else a) r:=rfl;refine e.symm▸?_;rcases nj (if b<a then b else a) r with h|h
  ·rw[h];split
   ·exact .inr (.head _)
   ·exact .inl rfl
  ·exact .inr (.tail _ h)
theorem nk:∀(a:Int) (r:List Int),fA a r=a∨fA a r∈r
 |a,[]=>.inl rfl
 |a,b::r=>by
  haveI e:fA a (b::r)=fA (if a<b then b else a) r:=rfl;refine e.symm▸?_;rcases nk (if a<b then b else a) r with h|h
  ·rw[h];split
   ·exact .inr (.head _)
   ·exact .inl rfl
  ·exact .inr (.tail _ h)
theorem iZ{α:Type}(F:α→Int):∀l:List α,intsOf (l.map fun a=>V.int (F a))=some (l.map F)
 |[]=>rfl
 |a::l=>congrArg (Option.map (List.cons (F a))) (iZ F l)
theorem fR{call:bj}{l l1:Loc}(h:ex PG call a l st=some (.next,l1,st1)):ex PG call (.seq a b) l st=ex PG call b l1 st1:=by
 show(ex PG call a l st).bind _=_;refine h.symm▸?_;rfl
noncomputable def Uz(n:Nat)(es el:E):Loc→St→Option (List V×Loc×St):=fun l' af=>(one (ev PG (ae PG n) es l' af)).bind fun(x,ak)=>(fT x ak).bind fun pL=>
   cG (.var 2) pL.guards (fun l' af=>one (ev PG (ae PG n) el l' af)) pL.items l' ak
theorem CV{n:Nat}{c7:List (Option Nat)}{p:cD}{sk:SK}{src es el:E}{l:Loc}{st st1 ak:St}{vs r:List V}{it:It}(h1:ev PG (ae PG n) src l st=some (vs,st1))(h2:bU sk vs st1=some it)
  (h3:bf p it.guards (Uz n es el) it.items (a9 c7 l) st1=some (r,ak)) (hl:r.length≤ah):ev PG (ae PG n) (.iu c7 p sk src (.var 2) es el) l st=some ([.lst ak.length],ak++[.list r]):=by
 show(ev PG (ae PG n) src l st).bind _=_;rw[h1];show(bU sk vs st1).bind _=_;rw[h2];show(bf p it.guards (Uz n es el) it.items (a9 c7 l) st1).bind _=_;rw[h3];dsimp only[Option.bind_some];rw[if_pos hl]
theorem SY(n:Nat){aM:List (List Spot)}(K:m7 aM)(jK:aM≠[]){st:St}{ci:Nat}(hc:st[ci]? =some (.list (aM.map gi))):
  ∃(af:St) (x0 y0 x1 y1:Int),ae PG (n+1) 38 [.lst ci] st=some (.tup [.int x0,.int y0,.int x1,.int y1],af)∧st<+:af∧(∀p∈aM.flatten,x0≤p.1∧p.1≤x1∧y0≤p.2∧p.2≤y1)∧
   -100≤x0∧x0≤100∧-100≤y0∧y0≤100∧-100≤x1∧x1≤100∧-100≤y1∧y1≤100:=by
 generalize UA:aM.flatten=ps
 have S0:ps≠[]:=by
  rw[←UA];cases aM with
  |nil=>exact absurd rfl jK
  |cons s r=>
   have:=(K.each s (.head _)).1;simp;intro q;exact absurd q this
 obtain⟨p0,pr,rfl⟩:∃p0 pr,ps=p0::pr:=by
  cases ps with
  |nil=>exact absurd rfl S0
  |cons a r=>exact⟨a,r,rfl⟩
 have HW:∀(s:List Spot) (o2:Option V),∃sY,Uz n mK jV [none,some (gi s),o2] st=some (s.map pv,[none,some (gi s),sY],st):=fun s o2=>by
  obtain⟨sY,e⟩:=CU n (a:=some (gi s)) (st:=st) (s.map pv) o2;refine⟨sY,?_⟩;have e2:one (ev PG (ae PG n) mK [none,some (gi s),o2] st)=some (.tup (s.map pv),st):=rfl;unfold Uz;rw[e2];exact e
 have e1:=wX hc HW aM none none;rw[UA]at e1
 have hlen:(p0::pr).length≤1000:=by
  rw[←UA]
  have:∀(l:List (List Spot)),(∀s∈l,s.length≤10)→l.flatten.length≤10 * l.length:=by
   intro l
   induction l with
   |nil=>intro _;simp
   |cons s r ih=>
    intro h;have h1:=h s (.head _);have h2:=ih fun s hs=>h s (.tail _ hs);simp only[List.flatten_cons,List.length_append,List.length_cons];exact aO 0x222112021a31000200201a310011a10001 rt h1 h2
  have h1:=this aM fun s hs=>(K.each s hs).2.1;have:=K.len;exact aC 0x21a821fd810000311001101a30001 rt h1 this
 generalize qi:st++[Cell.list ((p0::pr).map pv)]=s1;have f1:s1[st.length]? =some (.list ((p0::pr).map pv)):=by rw[←qi];simp
 have pf1:st<+:s1:=qi▸List.prefix_append _ _;generalize qn:s1++[Cell.list []]=s2;have f2:s2[st.length]? =some (.list ((p0::pr).map pv)):=by rw[←qn];exact aA _ f1
 have f2':s2[s1.length]? =some (.list []):=by rw[←qn];simp
 have CW:=eq_nil f2 f2';simp only[List.isEmpty_cons]at CW
 have cmp (el:E) (F:Spot→Int) (s:St) (g:s[st.length]? =some (.list ((p0::pr).map pv))) (hel:∀(p:Spot) (s:St),one (ev PG (ae PG n) el [none,some (pv p)] s)=some (.int (F p),s)):
   aB (.var 1) [(st.length,(p0::pr).map pv)] (fun l' af=>some (true,af)) (fun l' af=>one (ev PG (ae PG n) el l' af)) ((p0::pr).map pv) [none,none] s=some ((p0::pr).map fun p=>.int (F p),s):=by
  obtain⟨r,l',s',e,⟨_,h1⟩,h2⟩:=bg (p:=.var 1) (gs:=[(st.length,(p0::pr).map pv)]) (cond:=fun l' af=>some (true,af)) (elt:=fun l' af=>one (ev PG (ae PG n) el l' af)) (all:=(p0::pr).map pv)
   (fun k acc l s'=>((∃o,l=[none,o])∧acc=((p0::pr).take k).map fun p=>.int (F p))∧s'=s) (fun k acc l s' hI=>by rw[ay,hI.2];exact g)
   (fun k v acc l s' hv hI=>by
    obtain⟨⟨⟨o,rfl⟩,rfl⟩,rfl⟩:=hI;rw[List.getElem?_map,Option.map_eq_some_iff]at hv;refine b9 hv fun p hp eq2=>?_;try clear hv;obtain rfl:=eq2
    refine⟨_,true,s',rfl,rfl,?_⟩;simp only[if_true];refine⟨.int (F p),s',hel p s',⟨⟨_,rfl⟩,?_⟩,rfl⟩
    rw[List.take_add_one,hp];simp)
   (l:=[none,none]) (st:=s) ⟨⟨⟨_,rfl⟩,rfl⟩,rfl⟩
  rw[List.length_map,List.take_length]at h1;rw[e,h1,h2]
 have cX:=cmp qt (fun p=>p.1) s2 f2 (fun p s=>by unfold qt;exact yv 0x0 qt [none,some (pv p)] s);generalize yy:s2++[Cell.list ((p0::pr).map fun p=>.int p.1)]=s3;have f3:s3[st.length]? =some (.list ((p0::pr).map pv)):=by rw[←yy];exact aA _ f2
 have f3':s3[s2.length]? =some (.list ((p0::pr).map fun p=>.int p.1)):=by rw[←yy];simp
 have cY:=cmp qu (fun p=>p.2) s3 f3 (fun p s=>by unfold qu;exact yv 0x0 qu [none,some (pv p)] s);generalize rd:s3++[Cell.list ((p0::pr).map fun p=>.int p.2)]=s4;have f4:s4[s2.length]? =some (.list ((p0::pr).map fun p=>.int p.1)):=by rw[←rd];exact aA _ f3'
 have f4':s4[s3.length]? =some (.list ((p0::pr).map fun p=>.int p.2)):=by rw[←rd];simp
 have iX:=iZ (fun p:Spot=>p.1) (p0::pr);have iY:=iZ (fun p:Spot=>p.2) (p0::pr);replace iX:intsOf ((p0::pr).map fun p=>V.int p.1)=some (p0.1::pr.map fun p=>p.1):=iX;replace iY:intsOf ((p0::pr).map fun p=>V.int p.2)=some (p0.2::pr.map fun p=>p.2):=iY
 have UB:∀p∈p0::pr,-100≤p.1∧p.1≤100∧-100≤p.2∧p.2≤100:=fun p hp=>by
  rw[←UA]at hp;refine b9 (List.mem_flatten.mp hp) fun s hs hp=>?_;exact(K.each s hs).2.2 p hp
 have mX:=lq p0.1 (pr.map fun p=>p.1);have mY:=lq p0.2 (pr.map fun p=>p.2);have MX:=lr p0.1 (pr.map fun p=>p.1);have MY:=lr p0.2 (pr.map fun p=>p.2)
 have mem (F:Spot→Int) {v:Int} (h:v=F p0∨v∈pr.map F):∃p∈p0::pr,v=F p:=by
  rcases h with h|h
  ·exact⟨p0,.head _,h⟩
  ·refine b9 (List.mem_map.mp h) fun p hp e=>?_
   exact⟨p,.tail _ hp,e.symm⟩
 refine b9 (mem (fun p=>p.1) (nj p0.1 (pr.map fun p=>p.1))) fun q1 g1 v1=>?_;refine b9 (mem (fun p=>p.2) (nj p0.2 (pr.map fun p=>p.2))) fun q2 g2 v2=>?_;refine b9 (mem (fun p=>p.1) (nk p0.1 (pr.map fun p=>p.1))) fun q3 g3 v3=>?_;refine b9 (mem (fun p=>p.2) (nk p0.2 (pr.map fun p=>p.2))) fun q4 g4 v4=>?_;have b1:=UB q1 g1;have b2:=UB q2 g2;have b3:=UB q3 g3;have b4:=UB q4 g4;refine⟨s4,fD p0.1 (pr.map fun p=>p.1),fD p0.2 (pr.map fun p=>p.2),fA p0.1 (pr.map fun p=>p.1),fA p0.2 (pr.map fun p=>p.2),ai (loc0:=[some (.lst ci),none,none,none,none,none]) WX rfl rfl ?_,?_,fun p hp=>?_,by exact cg 0x2111221001cc16301cc1203201cc16361cc11036101cc16361100051 rt v1 b1,by exact cg 0x21121121cc100301cc1203201cc16361cc11036101cc16361100051 rt v1 b1,by exact cg 0x2121121001cc16301cc1103101cc16361cc12036201cc16361100051 rt v2 b2,by exact cg 0x22111121cc100301cc1103101cc16361cc12036201cc16361100051 rt v2 b2,by rw[v3];exact b3.1,by exact cg 0x21121121cc100301cc1203201cc16361cc11036101cc16361100051 rt v3 b3,by rw[v4];exact b4.2.2.1,by exact cg 0x22111121cc100301cc1103101cc16361cc12036201cc16361100051 rt v4 b4⟩
 ·show res (ex PG (ae PG n) Wy _ _)=_
  unfold Wy;have l1:((p0::pr).map pv).length≤100000:=by rw[List.length_map];exact aJ 0x2238bac8100001fd810001 rt hlen
  have l2:((p0::pr).map fun p=>V.int p.1).length≤100000:=by rw[List.length_map];exact aJ 0x2238bac8100001fd810001 rt hlen
  have l3:((p0::pr).map fun p=>V.int p.2).length≤100000:=by rw[List.length_map];exact aJ 0x2238bac8100001fd810001 rt hlen
  have ec:ex PG (ae PG n) (.asg (.var 1) (.iu [none,none,none] (.var 1) .seq (.loc 0) (.var 2) mK jV)) [some (.lst ci),none,none,none,none,none] st=some (.next,[some (.lst ci),some (.lst st.length),none,none,none,none],s1):=by
   show(one (ev PG (ae PG n) (.iu [none,none,none] (.var 1) .seq (.loc 0) (.var 2) mK jV) [some (.lst ci),none,none,none,none,none] st)).bind _=_;rw[CV (st1:=st) (vs:=[.lst ci]) (it:=⟨aM.map gi,[(ci,aM.map gi)]⟩) rfl (by simp only[uM,fT,tlT,tlL,U5,hc]) e1 (by rw[kl];exact l1),qi];rfl
  rw[fR ec];clear cmp ec e1 HW qi;generalize (p0::pr).map pv=vs at *;generalize ((p0::pr).map fun p=>V.int p.1)=vx at *;generalize ((p0::pr).map fun p=>V.int p.2)=vy at *;simp! [A37,A38,qn,CW,f2,cX,l2,yy,f3,cY,l3,rd,f4,f4',iX,iY]
 ·rw[←rd,←yy,←qn]
  exact((pf1.trans (List.prefix_append _ _)).trans (List.prefix_append _ _)).trans (List.prefix_append _ _)
 ·rcases List.mem_cons.mp hp with rfl|hp
  ·exact⟨mX.1,MX.1,mY.1,MY.1⟩
  ·exact⟨mX.2 _ (List.mem_map.mpr ⟨p,hp,rfl⟩),MX.2 _ (List.mem_map.mpr ⟨p,hp,rfl⟩),mY.2 _ (List.mem_map.mpr ⟨p,hp,rfl⟩),MY.2 _ (List.mem_map.mpr ⟨p,hp,rfl⟩)⟩
theorem th n{l t w h l2 t2 w2 h2 L T R B:Int} st (hL:(if l<l2 then l2 else l)=L)(hT:(if t<t2 then t2 else t)=T)
  (hR:(if l2+w2<l+w then l2+w2 else l+w)=R) (hB:(if t2+h2<t+h then t2+h2 else t+h)=B):
  ae PG (n+1) 539 [.tup [.int l,.int t,.int w,.int h],.tup [.int l2,.int t2,.int w2,.int h2]] st=some (if R≤L∨B≤T then .none else .tup [.int L,.int T,.int (R - L),.int (B - T)],st):=by
 refine ai (loc0:=[some (.tup [.int l,.int t,.int w,.int h]),some (.tup [.int l2,.int t2,.int w2,.int h2]),none,none,none,none,none,none]) QT rfl rfl ?_;show res (ex PG (ae PG n) J5 _ _)=_;unfold J5
 by_cases h1:R≤L
 ·have d1:decide (R≤L)=true:=decide_eq_true h1
  simp! [Rv,RZ,ft,hL,hT,hR,hB,h1,true_or]
 ·haveI d1:decide (R≤L)=false:=decide_eq_false h1
  rcases Classical.em (B≤T)with h2|h2
  ·have d2:decide (B≤T)=true:=decide_eq_true h2
   simp! [RZ,ft,hL,hT,hR,hB,h1,h2,or_true]
  ·have d2:decide (B≤T)=false:=decide_eq_false h2
   simp! [RZ,ft,hL,hT,hR,hB,h1,h2,or_self]
theorem KL n(x0 y0 x1 y1) st:
  ae PG (n+1) 546 [.tup [.int x0,.int y0,.int x1,.int y1],.int 4] st=some (if x1≤x0∨y1≤y0 then .none else .tup [.int (x0 / 4),.int (y0 / 4),.int (-(-x1 / 4) - x0 / 4),.int (-(-y1 / 4) - y0 / 4)],st):=by
 refine ai (loc0:=[some (.tup [.int x0,.int y0,.int x1,.int y1]),some (.int 4),none,none,none,none]) QU rfl rfl ?_;show res (ex PG (ae PG n) Fp _ _)=_;unfold Fp
 by_cases h1:x1≤x0
 ·haveI d1:decide (x1≤x0)=true:=decide_eq_true h1
  simp! [Rv,Uo,h1,true_or]
 ·haveI d1:decide (x1≤x0)=false:=decide_eq_false h1
  by_cases h2:y1≤y0
  ·have d2:decide (y1≤y0)=true:=decide_eq_true h2
   simp! [Uo,ft,h1,h2,or_true]
  ·have d2:decide (y1≤y0)=false:=decide_eq_false h2
   refine(bk 0x220 Fp [some (V.tup [V.int x0,V.int y0,V.int x1,V.int y1]),some (V.int 4),none,none,none,none] st _ d1 _ d2 _ (mM _) _ (mM _) _ (mM _) _ (mM _)).trans ?_;simp! [mM,Uo,ft,h1,h2,or_self]
set_option genSizeOf false in
set_option genInjectivity false in
structure fz where
 ci:Nat
 aM:List (List Spot)
 eo:Bool
 pi:Nat
 col:dG
 op:Int
noncomputable def CX:V:=.str (Str.ofString "fill")
noncomputable def bQ(f:fz):V:=.tup [CX,.lst f.ci,iW f.eo,.obj 638 f.pi,.int f.op,.none]
structure fu(b:Nat)(st:St)(f:fz):Prop where
 K:m7 f.aM
 ne:f.aM≠[]
 c1:f.ci<b
 c2:st[f.ci]? =some (.list (f.aM.map gi))
 p1:f.pi<b
 p2:st[f.pi]? =some (.inst [(45,cv f.col)])
 o0:1≤f.op
 o1:f.op≤255
 al:bH f.col
theorem fu.only{b:Nat}{st af:St}{f:fz}{lo hi:Nat}(F:fu b st f)(o:ao lo hi st af)(h:b≤lo):fu b af f:=
 ⟨F.K,F.ne,F.c1,o.get F.c2 (by haveI:=F.c1;exact bS 0x2222010110000680301011003001 rt h this),F.p1,o.get F.p2 (by haveI:=F.p1;exact bS 0x2222010110000680301011003001 rt h this),F.o0,F.o1,F.al⟩
noncomputable def gR(f:fz)(x y:Int):Int:=part ((2 * (255 * many (aG f.aM) f.eo x y)+4) / 8) f.op
noncomputable def fst(f:fz)(g:Int→Int→dG):Int→Int→dG:=fun x y=>lay (dq f.col (gR f x y)) (g x y)
theorem lu ds eo(row c):0≤hit ds eo row c∧hit ds eo row c≤1:=by
 unfold hit;split<;>decide
theorem CY ds eo(x y):0≤many ds eo x y∧many ds eo x y≤4:=by
 haveI h1:=lu ds eo (2 * y) (2 * x);haveI h2:=lu ds eo (2 * y) (2 * x+1);haveI h3:=lu ds eo (2 * y+1) (2 * x);haveI h4:=lu ds eo (2 * y+1) (2 * x+1);exact rp 0x2212121210212121212413020210002233020210002201360113033001361112032001361111031001361110030001361 rt h1 h2 h3 h4
theorem rg f(o0:0≤f.op)(o1:f.op≤255)(x y):0≤gR f x y∧gR f x y≤255:=by
 haveI h:=CY (aG f.aM) f.eo x y;haveI:=mU (n:=(2 * (255 * many (aG f.aM) f.eo x y)+4) / 8) (a:=f.op) (dr 0x1882117fe800013018100183241103ff3232441103ff323200183361411031001361 rt h (dI 8 (by decide) _)) (dr 0x188127fe813ff1003018100183241103ff3232441103ff323200183361411031001361 rt h (dI 8 (by decide) _)) o0;exact dr 0x2212021213ff100300013601000300013613ff11031 rt o1 this
theorem i4(hc:bH f.col)(o0:0≤f.op)(o1:f.op≤255)(h:∀x y,bH (g x y)):∀x y,bH (fst f g x y):=fun x y=>by
 haveI:=rg f o0 o1 x y;exact uP (fP hc this.1 this.2) (h x y)
theorem KO(h:many (aG f.aM) f.eo x y=0):gR f x y=0:=by
 unfold gR;refine h.symm▸?_;unfold part;simp
theorem GQ(h:gR f x y=0):fst f g x y=g x y:=by
 unfold fst;simp only[h,Sv,lay0]
theorem S'(K:m7 aM)(h:∀p∈aM.flatten,x0≤p.1∧p.1≤x1∧y0≤p.2∧p.2≤y1):CT (aG aM) x0 y0 x1 y1:=⟨fun d hd=>by
 unfold aG at hd;refine b9 (List.mem_flatMap.mp hd) fun s hs h1=>?_;obtain⟨⟨a,b⟩,hp,h2⟩:=List.mem_filterMap.mp h1;refine jZ (K.each s hs) fun k1 _ _=>?_;haveI m1:=(lj k1 hp).1;haveI m2:=(lj k1 hp).2;haveI b1:=h a (List.mem_flatten.mpr ⟨s,hs,m1⟩);haveI b2:=h b (List.mem_flatten.mpr ⟨s,hs,m2⟩);unfold aS at h2;dsimp only at h2
 split at h2
 ·cases h2
 ·refine xm h2 (fun _ h2=>?_) fun _ h2=>?_
  ·rename_i q;cases h2;exact⟨b1.1,b1.2.1,b2.1,b2.2.1,b1.2.2.1,b2.2.2.2⟩
  ·cases h2;exact⟨b2.1,b2.2.1,b1.1,b1.2.1,b2.2.2.1,b1.2.2.2⟩⟩
theorem oU(h:x1≤x0∨x<x0 / 4∨ -(-x1 / 4)≤x)(h1:x * 4≤e)(h2:e<(x+1) * 4):e<x0∨x1≤e:=by
 rcases h with h|h|h
 ·exact(Classical.em (e<x0)).imp id fun q=>Int.le_trans h (Int.not_lt.mp q)
 ·exact .inl (Int.lt_of_lt_of_le h2 (Int.mul_le_of_le_ediv (by decide) h))
 ·exact .inr (Int.le_trans (Int.neg_le_neg_iff.mp (Int.neg_mul ..▸Int.mul_le_of_le_ediv (by decide) (Int.neg_le_of_neg_le h))) h1)
theorem wY(x:Int):x * 4≤2 * (2 * x)+1∧2 * (2 * x)+1<(x+1) * 4:=by omega
theorem wZ(x:Int):x * 4≤2 * (2 * x+1)+1∧2 * (2 * x+1)+1<(x+1) * 4:=by omega
theorem nq(B:CT (aG aM) x0 y0 x1 y1)(eo:Bool)
  (h:x1≤x0∨y1≤y0∨x<x0 / 4∨ -(-x1 / 4)≤x∨y<y0 / 4∨ -(-y1 / 4)≤y):many (aG aM) eo x y=0:=by
 haveI T:=fun Y=>wW Y aM;delta many kH
 have key:∀r c:Int,(y * 4≤2 * r+1∧2 * r+1<(y+1) * 4)→(x * 4≤2 * c+1∧2 * c+1<(x+1) * 4)→hit (aG aM) eo r c=0:=fun r c k1 k2=>GO B T eo (by
  rw[Int.mul_comm r];rcases h with h|h|h|h|h|h
  ·exact(oU (.inl h) k2.1 k2.2).imp id .inl
  ·exact .inr (.inr (oU (.inl h) k1.1 k1.2))
  ·exact(oU (.inr (.inl h)) k2.1 k2.2).imp id .inl
  ·exact(oU (.inr (.inr h)) k2.1 k2.2).imp id .inl
  ·exact .inr (.inr (oU (.inr (.inl h)) k1.1 k1.2))
  ·exact .inr (.inr (oU (.inr (.inr h)) k1.1 k1.2)))
 rw[key _ _ (wY y) (wY x),key _ _ (wY y) (wZ x),key _ _ (wZ y) (wY x),key _ _ (wZ y) (wZ x)];rfl
theorem Mk.only{st af:St}{m ki w h:Nat}{l t:Int}{f:Int→Int→Int}{lo hi:Nat}(H:Mk st m ki w h l t f)(o:ao lo hi st af)(h1:hi≤m)(h2:hi≤ki):Mk af m ki w h l t f:=
 ⟨H.m0,H.k0,H.ne,o.get H.obj (aO 0x2122010110000680102001 rt h1),o.get H.aM (aO 0x2122010110000680102001 rt h2)⟩
theorem tm n(h:st[pi]? =some (.inst [(45,cv col)]))(x y):ae PG (n+1) 635 [.obj 638 pi,x,y] st=some (cv col,st):=by
 refine ai (loc0:=[some (.obj 638 pi),some x,some y]) Q5 rfl rfl ?_;exact bk 0x0 PO [some (V.obj 638 pi),some x,some y] st _ (gI h)
noncomputable def rx(c:Nat)(f:fz)(tl pt:V)(L T W H:Int)(m:Nat)(CZ rh nT:Option V):Loc:=
 [some (.obj 161 c),some (bQ f),some (.int 2),some (.int 4),some CX,some (.lst f.ci),some (iW f.eo),some (.obj 638 f.pi),some (.int f.op),some .none,some tl,some pt,some (.int L),some (.int T),some (.int W),some (.int H),some (.obj 514 m),CZ,rh,nT,
  none,none,none,none,none,none,none,none,none]
theorem xa{w h i j:Nat}{l t:Int}(hi:i<w)(hj:j<h):(dX w l t (h * w))[j * w+i]? =some (l+(i:Int),t+(j:Int)):=by
 haveI hw:0<w:=aC 0x22000110001011 rt hi
 haveI dB:j * w+i<h * w:=by
  haveI:j+1≤h:=aC 0x22101100200100011 rt hj;haveI:=Nat.mul_le_mul_right w this;rw[Nat.succ_mul]at this;exact bS 0x222201000210203000201301011 rt hi this
 delta dX pl;simp only[List.getElem?_map,List.getElem?_range dB];simp only[Option.map_some];simp only[Nat.mul_comm,Nat.mul_add_mod,Nat.mod_eq_of_lt hi,Nat.mul_add_div hw,Nat.div_eq_of_lt hi,Nat.add_zero]
end
section
open PySem
variable{st:St}{c hi w h m ki pw ph:Nat}{l t L T:Int}{g:Int→Int→dG}{ri:Nat}{rs:List Nat}{f:fz}
theorem yO(n:Nat)(H:Cv st c hi w h l t g ri rs)(hg:∀x y,bH (g x y))(M:Mk st m ki pw ph L T (many (aG f.aM) f.eo))(tR:pw≤100)(hp:st[f.pi]? =some (.inst [(45,cv f.col)]))(vW:bH f.col)(o0:1≤f.op)(o1:f.op≤255)
  {tl pt:V} {W H' x y:Int} (nT:Option V) (x1:L≤x) (x2:x<L+pw) (y1:T≤y) (y2:y<T+ph) (x3:l≤x) (x4:x<l+w) (y3:t≤y) (y4:y<t+h) {GG:Prop} (kk:∀af ob,ex PG (ae PG (n+3)) hU (rx c f tl pt L T W H' m (some (.int y)) (some (.int x)) nT) st=some (.next,rx c f tl pt L T W H' m (some (.int y)) (some (.int x)) ob,af)→Cv af c hi w h l t (upd g x y (fst f g x y)) ri rs→ao c hi st af→GG):GG:=by
 haveI e1:=CJ n M tR x1 x2 y1 y2;have so:cW f.op:=cz (bA 0x22003ec99881630001131 rt o0) (bA 0x223ec9988100303ff10031 rt o1);haveI e2:=FW (n+1) ((2 * (255 * many (aG f.aM) f.eo x y)+4) / 8) f.op (.int x) (.int y) st so;haveI y9:=rg f (bA 0x22000130001131 rt o0) o1 x y;haveI Lg:ae PG (n+3) 560 [.int ((2 * (255 * many (aG f.aM) f.eo x y)+4) / 8),.int f.op,.none,.int x,.int y] st=some (.int (gR f x y),st):=e2
 by_cases ha:0<gR f x y
 ·have d1:decide (0<gR f x y)=true:=decide_eq_true ha
  haveI e3:=tm (n+2) hp (.int x) (.int y);haveI sa:cW (gR f x y):=cz (bA 0x22003ec99881630000141 rt ha) (bA 0x2213ec9988100303ff10030001361 rt y9);refine sN (n+1) f.col (gR f x y) st sa fun s1 e4 p1=>?_;have H1:=H.pre p1;haveI e5:=wH (n+1) H1 x3 x4 y3 y4;haveI Xk:=fP vW y9.1 y9.2;refine BL (n+1) (dq f.col (gR f x y)) (g x y) s1 (jv Xk) fun s2 e6 p2=>?_;haveI H2:=H1.pre p2;refine qU (n+1) H2 (lay (dq f.col (gR f x y)) (g x y)) x3 x4 y3 y4 fun s3 e7 H3 O3=>?_;refine kk s3 (some (.int (gR f x y))) ?_ H3 (((ao.aK p1).trans (.aK p2)).trans O3);delta hU rx;simp! [kj,qQ,mN,oO,sO,Bk,Cd,M.obj,e1,Lg,d1,H.obj,hp,e3,e4,H1.obj,e5,e6,e7]
 ·have d1:decide (0<gR f x y)=false:=decide_eq_false ha
  have h0:gR f x y=0:=bA 0x22110211201005000014813ff10030001361 rt y9 ha;refine kk st (some (.int (gR f x y))) ?_ (H.congr fun a b _ _ _ _=>?_) (.refl _ _ _)
  ·delta hU rx
   simp! [oO,sO,M.obj,e1,Lg,d1]
  ·unfold upd
   rw[GQ h0]
   by_cases e:a=x∧b=y
   ·rw[if_pos e,e.1,e.2]
   ·rw[if_neg e]
end
section
open PySem
theorem KP(hF:∀x y,bH (F x y))(hg:∀x y,bH (g x y)):∀x y,bH (jx T F g x y):=fun x y=>by
 unfold jx;split
 ·exact hF x y
 ·exact hg x y
theorem Ta{l q L:Int}(h:(if l<q then q else l)=L):l≤L∧(L≤q∨L=l):=by
 subst h;rcases Classical.em (l<q)with c|c
 ·rw[if_pos c];exact⟨Int.le_of_lt c,.inl (Int.le_refl _)⟩
 ·rw[if_neg c];exact⟨Int.le_refl _,.inr rfl⟩
theorem Tb{p e R:Int}(h:(if p<e then p else e)=R):R≤e:=by
 subst h
 by_cases c:p<e
 ·rw[if_pos c];exact Int.le_of_lt c
 ·rw[if_neg c];exact Int.le_refl _
theorem Tc{l q L x:Int}(h:(if l<q then q else l)=L)(h1:l≤x)(h2:q≤x):L≤x:=by
 subst h
 by_cases c:l<q
 ·rw[if_pos c];exact h2
 ·rw[if_neg c];exact h1
theorem Td{p e R x:Int}(h:(if p<e then p else e)=R)(h1:x<p)(h2:x<e):x<R:=by
 subst h
 by_cases c:p<e
 ·rw[if_pos c];exact h1
 ·rw[if_neg c];exact h2
theorem C0{l w t h x0 y0 x1 y1 L R T B x y:Int}(hL:(if l<x0 / 4 then x0 / 4 else l)=L)(hT:(if t<y0 / 4 then y0 / 4 else t)=T)(hR:(if x0 / 4+(-(-x1 / 4) - x0 / 4)<l+w then x0 / 4+(-(-x1 / 4) - x0 / 4)else l+w)=R)
  (hB:(if y0 / 4+(-(-y1 / 4) - y0 / 4)<t+h then y0 / 4+(-(-y1 / 4) - y0 / 4)else t+h)=B) (a1:l≤x) (a2:x<l+w) (a3:t≤y) (a4:y<t+h) (hm:¬(L≤x∧x<R∧T≤y∧y<B)):
  x1≤x0∨y1≤y0∨x<x0 / 4∨ -(-x1 / 4)≤x∨y<y0 / 4∨ -(-y1 / 4)≤y:=Classical.byContradiction fun q=>by
 haveI q:=not_or.mp (not_or.mp (not_or.mp q).2).2;haveI q2:=not_or.mp q.2;haveI q3:=not_or.mp q2.2;exact hm ⟨Tc hL a1 (Int.not_lt.mp q.1),Td hR (by rw[Int.add_comm,Int.sub_add_cancel];exact Int.not_le.mp q2.1) a2,Tc hT a3 (Int.not_lt.mp q3.1),Td hB (by rw[Int.add_comm,Int.sub_add_cancel];exact Int.not_le.mp q3.2) a4⟩
end
section
open PySem
variable{st:St}{c hi w h m ki pw ph:Nat}{l t L T:Int}{g:Int→Int→dG}{ri:Nat}{rs:List Nat}{f:fz}
theorem C6(n:Nat){j:Nat}(hj:j<ph)(H:Cv st c hi w h l t (jx ((dX pw L T (ph * pw)).take (j * pw)) (fst f g) g) ri rs)(hg:∀x y,bH (g x y))(M:Mk st m ki pw ph L T (many (aG f.aM) f.eo))(hm:hi≤m)(hk:hi≤ki)(tR:pw≤100)
  (hp:st[f.pi]? =some (.inst [(45,cv f.col)])) (L5:f.pi<c) (vW:bH f.col) (o0:1≤f.op) (o1:f.op≤255) {tl pt:V} {W H':Int} (rh nT:Option V) (x1:l≤L) (x2:L+pw≤l+w) (y1:t≤T) (y2:T+ph≤t+h) {GG:Prop} (kk:∀tP af u0 ob,aw (.var 18) [] (ex PG (ae PG (n+3)) hU) (aD L 1 pw) (rx c f tl pt L T W H' m (some (.int (T+j))) rh nT) st=some (tP,af)→tP=rx c f tl pt L T W H' m (some (.int (T+j))) u0 ob→Cv af c hi w h l t (jx ((dX pw L T (ph * pw)).take ((j+1) * pw)) (fst f g) g) ri rs→ao c hi st af→GG):GG:=by
 obtain⟨lf,s1,e1,⟨a,b,rfl⟩,C1,O1⟩:=aH (p:=.var 18) (gs:=[]) (f:=ex PG (ae PG (n+3)) hU) (all:=aD L 1 pw)
  (fun k lo s=>(∃rh nT,lo=rx c f tl pt L T W H' m (some (.int (T+j))) rh nT)∧Cv s c hi w h l t (jx ((dX pw L T (ph * pw)).take (j * pw+k)) (fst f g) g) ri rs∧ao c hi st s)
  (fun _ _ _ _=>by rw[aQ];trivial)
  (fun k v lo s hv hI=>by
   obtain⟨⟨rh,nT,rfl⟩,C,O⟩:=hI;obtain⟨rfl,fU⟩:=aY hv;haveI hx:=xa (l:=L) (t:=T) fU hj;haveI fV:=mV (F:=fst f g) (g:=g) (ia pw L T (ph * pw)) hx;refine yO n (tl:=tl) (pt:=pt) (W:=W) (H':=H') C (KP (i4 vW (bA 0x22000130001131 rt o0) o1 hg) hg) (M.only O hm hk) tR (O.get hp (aO 0x222010110000680001011 rt L5)) vW o0 o1 nT (x:=L+k) (y:=T+j) (fy 0x20070020030 rt) (fZ 0x2210700200700240100011 rt fU) (fy 0x20070020030 rt) (fZ 0x2210700200700240100011 rt hj) (lF 0x220071020030100031 rt x1) (T1 0x2221071020070024020001110710220700231 rt x2 fU) (lF 0x220071020030100031 rt y1) (T1 0x2221071020070024010710220700231200011 rt hj y2) fun s2 ob e2 C2 O2=>?_
   haveI hf:fst f (jx ((dX pw L T (ph * pw)).take (j * pw+k)) (fst f g) g) (L+k) (T+j)=fst f g (L+k) (T+j):=by
    unfold fst;dsimp only[fst]at fV;refine(fV.2).symm▸?_;try rfl
   simp only[hf,fV.1]at C2
   exact⟨_,.next,_,s2,rfl,e2,(fun _ q=>nomatch q),⟨_,_,rfl⟩,C2,O.trans O2⟩)
  (l:=rx c f tl pt L T W H' m (some (.int (T+j))) rh nT) (st:=st) ⟨⟨_,_,rfl⟩,H,.refl _ _ _⟩
 rw[aR]at C1;rw[Nat.succ_mul]at kk;exact kk _ s1 a b e1 rfl C1 O1
theorem yP n(H:Cv st c hi w h l t g ri rs)(hg:∀x y,bH (g x y))(M:Mk st m ki pw ph L T (many (aG f.aM) f.eo))(hm:hi≤m)(hk:hi≤ki)(tR:pw≤100)
  (hp:st[f.pi]? =some (.inst [(45,cv f.col)])) (L5:f.pi<c) (vW:bH f.col) (o0:1≤f.op) (o1:f.op≤255) (CZ rh nT) (x1:l≤L) (x2:L+pw≤l+w) (y1:t≤T) (y2:T+ph≤t+h) (hL: -1000≤L∧L≤1000) {GG:Prop} (kk:∀tP af KQ u0 ob,aw (.var 17) [] (ex PG (ae PG (n+3)) jq) (aD T 1 ph) (rx c f tl pt L T (pw:Int) H' m CZ rh nT) st=some (tP,af)→tP=rx c f tl pt L T (pw:Int) H' m KQ u0 ob→Cv af c hi w h l t (jx (dX pw L T (ph * pw)) (fst f g) g) ri rs→ao c hi st af→GG):GG:=by
 obtain⟨lf,s1,e1,⟨a,b,d,rfl⟩,C1,O1⟩:=aH (p:=.var 17) (gs:=[]) (f:=ex PG (ae PG (n+3)) jq) (all:=aD T 1 ph)
  (fun k lo s=>(∃CZ rh nT,lo=rx c f tl pt L T (pw:Int) H' m CZ rh nT)∧Cv s c hi w h l t (jx ((dX pw L T (ph * pw)).take (k * pw)) (fst f g) g) ri rs∧ao c hi st s)
  (fun _ _ _ _=>by rw[aQ];trivial)
  (fun k v lo s hv hI=>by
   refine gP fun GP kP=>?_;obtain⟨⟨CZ,rh,nT,rfl⟩,C,O⟩:=hI;obtain⟨rfl,fU⟩:=aY hv;refine kP ?_;refine C6 n (tl:=tl) (pt:=pt) (W:=(pw:Int)) (H':=H') fU C hg (M.only O hm hk) hm hk tR (O.get hp (aO 0x222010110000680001011 rt L5)) L5 vW o0 o1 rh nT x1 x2 y1 y2 fun lo2 s2 u0 ob e2 z7 C2 O2=>?_;subst z7;refine⟨rx c f tl pt L T (pw:Int) H' m (some (.int (T+k))) rh nT,.next,rx c f tl pt L T (pw:Int) H' m (some (.int (T+k))) u0 ob,s2,rfl,?_,(fun _ q=>nomatch q),⟨_,_,_,rfl⟩,C2,O.trans O2⟩;unfold jq;unfold rx at e2⊢
   simp! [fO _ L pw (bA 0x2120038bac816301fd81003001fd816361 rt hL) (bA 0x22138bac8100301fd81003001fd816361 rt hL) (aJ 0x221fd8100001cc10001 rt tR),e2])
  (l:=rx c f tl pt L T (pw:Int) H' m CZ rh nT) (st:=st) ⟨⟨_,_,_,rfl⟩,H.congr fun x y _ _ _ _=>by unfold jx;simp,.refl _ _ _⟩
 rw[aR]at C1;haveI hl:(dX pw L T (ph * pw)).length=ph * pw:=by unfold dX;simp
 rw[List.take_of_length_le (Nat.le_of_eq hl)]at C1;exact kk _ s1 a b d e1 rfl C1 O1
theorem GR(n:Nat)(H:Cv st c hi w h l t g ri rs)(hg:∀x y,bH (g x y))(M:Mk st m ki pw ph L T (many (aG f.aM) f.eo))(hm:hi≤m)(hk:hi≤ki)(tR:pw≤100)
  (hp:st[f.pi]? =some (.inst [(45,cv f.col)])) (L5:f.pi<c) (vW:bH f.col) (o0:1≤f.op) (o1:f.op≤255) {tl pt:V} {H':Int} (CZ rh nT:Option V) (x1:l≤L) (x2:L+pw≤l+w) (y1:t≤T) (y2:T+ph≤t+h) (hL: -1000≤L∧L≤1000):
  ∃tP af KQ u0 ob,aw (.var 17) [] (ex PG (ae PG (n+3)) jq) (aD T 1 ph) (rx c f tl pt L T (pw:Int) H' m CZ rh nT) st=some (tP,af)∧tP=rx c f tl pt L T (pw:Int) H' m KQ u0 ob∧
   Cv af c hi w h l t (jx (dX pw L T (ph * pw)) (fst f g) g) ri rs∧ao c hi st af:=yP n H hg M hm hk tR hp L5 vW o0 o1 CZ rh nT x1 x2 y1 y2 hL fun x1 x2 x3 x4 x5 x6 x7 x8 x9=>⟨x1,x2,x3,x4,x5,x6,x7,x8,x9⟩
theorem nu n(H:Cv st c hi w h l t g ri rs)(hg:∀x y,bH (g x y))(hw:w≤10)(hh:h≤10)(hl: -100≤l∧l≤50)(ht: -100≤t∧t≤50)(F:fu b st f)(hb:b≤c){GG:Prop}(kk:∀af,ae PG (n+7) 572 [.obj 161 c,bQ f,.int 2,.int 4] st=some (.none,af)→Cv af c hi w h l t (fst f g) ri rs→ao c hi st af→GG):GG:=by
 haveI h0:st.length≠0:=by haveI:=H.len;haveI:=H.le;(rename_i q0;exact aO 0x2220100280102011001001 rt q0 this)
 obtain⟨sA,x0,y0,x1,y1,eA,pA,XA,b1,b2,b3,b4,b5,b6,b7,b8⟩:=SY (n+5) F.K F.ne F.c2;have B:=S' F.K XA;have HA:=H.pre pA;haveI hop:(f.op==0)=false:=by haveI:=F.o0;simp;exact bA 0x220100580001131 rt this
 haveI eT:=KL (n+5) x0 y0 x1 y1 sA;haveI eR:=Cr (n+5) HA;refine(Classical.em (x1≤x0∨y1≤y0)).elim (fun hd=>?_) fun hd=>?_
 ·refine gP fun GP XB=>?_
  haveI eT:=(if_pos hd)▸eT;refine XB ?_;refine kk sA (ai (loc0:=[some (.obj 161 c),some (bQ f),some (.int 2),some (.int 4),none,none,none,none,none,none,none,none,none,none,none,none,none,none,none,none,none,none,none,none,none,none,none,none,none]) Bg rfl rfl ?_) (HA.congr fun x y _ _ _ _=>?_) (.aK pA)
  ·show res (ex PG (ae PG (n+6)) uH _ _)=_
   exact bk 0x0 uH [some (V.obj 161 c),some (bQ f),some (V.int 2),some (V.int 4),none,none,none,none,none,none,none,none,none,none,none,none,none,none,none,none,none,none,none,none,none,none,none,none,none] st _ eA _ eT
  ·exact(GQ (KO (nq B f.eo (by rcases hd with q|q;exact .inl q;exact .inr (.inl q))))).symm
 replace eT:=(if_neg hd)▸eT;generalize hL:(if l<x0 / 4 then x0 / 4 else l)=L;generalize hT:(if t<y0 / 4 then y0 / 4 else t)=T;generalize hR:(if x0 / 4+(-(-x1 / 4) - x0 / 4)<l+w then x0 / 4+(-(-x1 / 4) - x0 / 4)else l+w)=R;generalize UC:(if y0 / 4+(-(-y1 / 4) - y0 / 4)<t+h then y0 / 4+(-(-y1 / 4) - y0 / 4)else t+h)=Bo;haveI eC:=th (n+5) sA hL hT hR UC;haveI oA:ao c hi st sA:=.aK pA;refine(Classical.em (R≤L∨Bo≤T)).elim (fun hd2=>?_) fun hd2=>?_
 ·rw[if_pos hd2]at eC
  refine kk sA (ai (loc0:=[some (.obj 161 c),some (bQ f),some (.int 2),some (.int 4),none,none,none,none,none,none,none,none,none,none,none,none,none,none,none,none,none,none,none,none,none,none,none,none,none]) Bg rfl rfl ?_) (HA.congr fun x y a1 a2 a3 a4=>?_) oA
  ·show res (ex PG (ae PG (n+6)) uH _ _)=_
   exact bk 0x0 uH [some (V.obj 161 c),some (bQ f),some (V.int 2),some (V.int 4),none,none,none,none,none,none,none,none,none,none,none,none,none,none,none,none,none,none,none,none,none,none,none,none,none] st _ eA _ eT _ eR _ eC
  ·exact(GQ (KO (nq B f.eo (C0 hL hT hR UC a1 a2 a3 a4 fun q=>by lia)))).symm
 rw[if_neg hd2]at eC;obtain⟨pw,tR⟩:∃pw:Nat,R - L=(pw:Int):=⟨(R - L).toNat,by exact UR 0x221111021211102120212007100055010005007510005013601002011000546713020310003781 rt hd2 (iq _)⟩;obtain⟨ph,KR⟩:∃ph:Nat,Bo - T=(ph:Int):=⟨(Bo - T).toNat,by exact UR 0x221111021211102210221007100055010005007510005013601002011000546711000330203781 rt hd2 (iq _)⟩;simp only[tR,KR]at eC;have r1:=Ta hL;have r2:=Ta hT;haveI r3:=Tb hR;haveI r4:=Tb UC;refine td n F.K f.eo (ag pA F.c2) (gJ pA h0) (w:=pw) (h:=ph) (l:=L) (t:=T) (TY 0x22112212022122121a10000107202003120105301037102036100710005511a11001 rt hw tR r1 r3) (TY 0x22112212022122121a10000107202003120105301037102036100710005511a11001 rt hh KR r2 r4) (Mt 0x211211121102111211121022111221202112111211cc1003001cc16360007102203110005500037001036140303002037816a1103101cc163611a10001 rt hw hl hd2 r1 r3) (Mt 0x211211121102111211121022112121202112111211cc1003001cc16360007102403110005500037001036100403302037816a1103101cc163611a10001 rt hh ht hd2 r2 r4) (fun Y=>wW Y f.aM) fun sB eB pB MB=>?_;haveI HB:=HA.pre pB;haveI hlen:=HA.len;have oB:ao c hi st sB:=oA.trans (.aK pB)
 obtain⟨tP,s1,CZ,rh,nT,e1,rfl,C1,O1⟩:=GR (n+3) (tl:=.tup [.int (x0 / 4),.int (y0 / 4),.int (-(-x1 / 4) - x0 / 4),.int (-(-y1 / 4) - y0 / 4)]) (pt:=.tup [.int L,.int T,.int pw,.int ph]) (H':=(ph:Int)) HB hg MB (aC 0x22100000100001 rt hlen) (aC 0x22211020000100001 rt hlen) (TY 0x22112212022122121cc10000107202003120105301037102036100710005511a11001 rt hw tR r1 r3)
  (oB.get F.p2 (by haveI:=F.p1;exact bS 0x2222010110000680301011003001 rt hb this)) (by haveI:=F.p1;exact aO 0x222100010200011102001 rt hb this) F.al F.o0 F.o1 none none none (cg 0x21120212100030001052010371000361 rt r1) (YD 0x22211071020070023010710220310070020551 rt tR r3) (cg 0x21120212100030001052010371000361 rt r2) (YD 0x22211071020070023010710220310070020551 rt KR r4) (Mt 0x211211121102111211121022111221202112111211fd81003001fd816360007102203110005500037001036140303002037816a1103101cc163611a10001 rt hw hl hd2 r1 r3)
 refine kk s1 (bD (loc0:=[some (.obj 161 c),some (bQ f),some (.int 2),some (.int 4),none,none,none,none,none,none,none,none,none,none,none,none,none,none,none,none,none,none,none,none,none,none,none,none,none]) Bg rfl rfl ?_) (C1.congr fun x y a1 a2 a3 a4=>?_) (oB.trans O1)
 ·show res (ex PG (ae PG (n+6)) uH _ _)=_
  unfold uH;unfold rx at e1;simp! [DP,Uo,bQ,eA,eT,eR,eC,hop,eB,fO _ T ph (cg 0x2112120212120038bac816301000520003700103616a1103101cc16361 rt ht r2) (l15 0x222121238bac810030007102403100403302037816a1103101cc163611a10001 rt hh ht hd2 r4) (TY 0x22112212022122121fd810000107202003120105301037102036100710005511a11001 rt hh KR r2 r4)];simp only[bQ]at e1;simp only[ZR,LQ,ZS,res_some,e1]
 ·unfold jx
  rcases Classical.em ((x,y)∈dX pw L T (ph * pw))with hm|hm
  ·rw[if_pos hm]
  ·rw[if_neg hm]
   rw[hY]at hm;exact(GQ (KO (nq B f.eo (C0 hL hT hR UC a1 a2 a3 a4 (fun q=>hm ⟨q.1,by exact Mt 0x211211200710200405040440303620004600103610071020551 rt tR q,q.2.2.1,by exact Mt 0x221111200710200402000400103650404640303610071020551 rt KR q⟩))))).symm
end
section
open PySem
theorem Te:idx 0 6=some 0:=rfl
theorem IA:idx 1 6=some 1:=rfl
theorem IB:idx 2 6=some 2:=rfl
theorem Tf:idx 4 6=some 4:=rfl
theorem tn:idx 0 1=some 0:=rfl
noncomputable def pushS:V:=.str (Str.ofString "push")
noncomputable def KU:V:=.str (Str.ofString "pop")
noncomputable def bz(o:Int):V:=.tup [pushS,.int o,jL,.none]
noncomputable def fv:V:=.tup [KU]
theorem XC:(Str.ofString "push"==Str.ofString "fill")=false:=by decide+kernel
theorem C':(Str.ofString "push"==Str.ofString "push")=true:=by decide+kernel
theorem XD:(Str.ofString "pop"==Str.ofString "fill")=false:=by decide+kernel
theorem Tg:(Str.ofString "pop"==Str.ofString "push")=false:=by decide+kernel
theorem Ti:(Str.ofString "pop"==Str.ofString "pop")=true:=by decide+kernel
theorem XE:(Str.ofString "fill"==Str.ofString "push")=false:=by decide+kernel
theorem XF:(Str.ofString "fill"==Str.ofString "pop")=false:=by decide+kernel
theorem aT{l l1 l2:Loc}(hg:au gs st)(h1:cb p v l=some l1)(h2:f l1 st=some (.next,l2,ak)):
  aw p gs f (v::vs) l st=aw p gs f vs l2 ak:=by
 conv=>lhs;dsimp only[aw]
 rw[if_pos hg,h1];dsimp only[Option.bind_some];refine h2.symm▸?_;rfl
theorem gS(hg:au gs st):aw p gs f [] l st=some (l,st):=by
 dsimp only[aw];rw[if_pos hg]
theorem Lay.only{st af:St}{L si:Nat}{cs:List Nat}{lo hi:Nat}(H:Lay st L si cs)(o:ao lo hi st af)(h1:L<lo∨hi≤L)(h2:si<lo∨hi≤si):Lay af L si cs:=
 ⟨H.L0,H.s0,o.get H.obj (aO 0x2120222010110000680102000010171 rt h1),o.get H.uQ (aO 0x2120222010110000680102000010171 rt h2)⟩
noncomputable def tS(oi ca L wi:Nat)(o6 o7 o8 o9 o10:Option V):Loc:=
 [some (.lst oi),some (.obj 161 ca),some (.int 2),some (.int 4),some (.obj 304 L),some (.lst wi),o6,o7,o8,o9,o10,none,none,none,none,none]
end
section
open PySem
variable{st:St}{c hi w h L si:Nat}{l t:Int}{g:Int→Int→dG}{ri:Nat}{rs:List Nat}{f:fz}
theorem oV(n:Nat){cs:List Nat}(Y:Lay st L si (cs++[c]))(H:Cv st c hi w h l t g ri rs)(hg:∀x y,bH (g x y))(hw:w≤10)(hh:h≤10)(hl: -100≤l∧l≤50)(ht: -100≤t∧t≤50){b:Nat}(F:fu b st f)(hb:b≤c)
  {oi ca wi:Nat} {o7 o8 o9 o10:Option V} {GG:Prop} (kk:∀af,ex PG (ae PG (n+7)) dh (tS oi ca L wi (some (bQ f)) o7 o8 o9 o10) st=some (.next,tS oi ca L wi (some (bQ f)) o7 o8 o9 o10,af)→Cv af c hi w h l t (fst f g) ri rs→ao c hi st af→GG):GG:=by
 refine nu n H hg hw hh hl ht F hb fun s1 e1 C1 O1=>?_;haveI e0:=Ct (n+6) Y;haveI e0':ae PG (n+7) 280 [.obj 304 L] st=some (.obj 161 c,st):=e0;refine kk s1 ?_ C1 O1;exact gf 0x0 dh [some (V.lst oi),some (V.obj 161 ca),some (V.int 2),some (V.int 4),some (V.obj 304 L),some (V.lst wi),some (V.tup [V.str (Str.ofString "fill"),V.lst (fz.ci f),iW (fz.eo f),V.obj 638 (fz.pi f),V.int (fz.op f),V.none]),o7,o8,o9,o10,none,none,none,none,none] st _ (gI Y.obj) _ e0' _ e1
theorem GU(n:Nat){cs:List Nat}(Y:Lay st L si (cs++[c]))(H:Cv st c hi w h l t g ri rs)(hg:∀x y,bH (g x y))(hw:w≤10)(hh:h≤10)(hl: -100≤l∧l≤50)(ht: -100≤t∧t≤50){b:Nat}(F:fu b st f)(hb:b≤c)
  {oi ca wi:Nat} {o7 o8 o9 o10:Option V}:
  ∃af,ex PG (ae PG (n+7)) dh (tS oi ca L wi (some (bQ f)) o7 o8 o9 o10) st=some (.next,tS oi ca L wi (some (bQ f)) o7 o8 o9 o10,af)∧Cv af c hi w h l t (fst f g) ri rs∧ao c hi st af:=oV n Y H hg hw hh hl ht F hb fun x1 x2 x3 x4=>⟨x1,x2,x3,x4⟩
noncomputable def jD(fs:List fz)(g:Int→Int→dG):Int→Int→dG:=fs.foldl (fun g f=>fst f g) g
theorem ny(n:Nat){oi ca wi b:Nat}{all:List V}(hw:w≤10)(hh:h≤10)(hl: -100≤l∧l≤50)(ht: -100≤t∧t≤50)(hb:b≤c)(dJ:oi<b)(hL:hi≤L)(hsi:hi≤si):
  ∀(fs:List fz) (st:St) (g:Int→Int→dG) (o6 o7 o8 o9 o10:Option V),Lay st L si [c]→Cv st c hi w h l t g ri rs→(∀x y,bH (g x y))→(∀f∈fs,fu b st f)→st[oi]? =some (.list all)→
   ∃af DU,aw (.var 6) [(oi,all)] (ex PG (ae PG (n+7)) dh) (fs.map bQ) (tS oi ca L wi o6 o7 o8 o9 o10) st=some (tS oi ca L wi DU o7 o8 o9 o10,af)∧
    Cv af c hi w h l t (jD fs g) ri rs∧ao c hi st af
 |[],st,g,o6,o7,o8,o9,o10,Y,H,hg,hF,ho=>⟨st,o6,gS (by simp only[ay];exact ho),H,.refl _ _ _⟩
 |f::fs,st,g,o6,o7,o8,o9,o10,Y,H,hg,hF,ho=>by
  haveI F:=hF f (.head _);refine gP fun GP kP=>?_;refine oV n (cs:=[]) Y H hg hw hh hl ht F hb (oi:=oi) (ca:=ca) (wi:=wi) (o7:=o7) (o8:=o8) (o9:=o9) (o10:=o10) fun s1 e1 C1 O1=>?_;obtain⟨s2,DU,e2,C2,O2⟩:=ny n hw hh hl ht hb dJ hL hsi fs s1 (fst f g) (some (bQ f)) o7 o8 o9 o10 (Y.only O1 (aO 0x212002001000170002001 rt hL) (aO 0x212002001000170002001 rt hsi)) C1 (i4 F.al (by haveI:=F.o0;exact bA 0x22000130001131 rt this) F.o1 hg) (fun f' oM=>(hF f' (.tail _ oM)).only O1 hb) (O1.get ho (bS 0x2222010110000680301011003001 rt hb dJ));refine kP ?_;refine⟨s2,DU,?_,C2,O1.trans O2⟩;rw[List.map_cons,aT (by simp only[ay];exact ho) rfl e1];exact e2
end
section
open PySem
theorem Dc:PyData.strOk (Str.ofString "push")=true:=by decide+kernel
theorem GW:PyData.strOk (Str.ofString "normal")=true:=by decide+kernel
theorem GX(h:st[i]? =some (.list [bz o]))(hj:st[j]? =some (.list [])):vv st (.lst i) (.lst j)=some false:=by
 show(match toPy 8 st (.lst i),toPy 8 st (.lst j)with|some p,some q=>some (PyData.eqv p q)|_,_=>none)=_
 haveI h1:toPy 8 st (.lst i)=some (.list [.tuple [.str (Str.ofString "push"),.int o,.str (Str.ofString "normal"),.none]]):=by
  show jO st[i]? (fun vs=>(vs.mapM (toPy 7 st)).map PyData.list)=_;refine(congrArg (jO · _) h).trans ?_;haveI a1:toPy 6 st (.str (Str.ofString "push"))=some (.str (Str.ofString "push")):=if_pos Dc;haveI a2:toPy 6 st (.str (Str.ofString "normal"))=some (.str (Str.ofString "normal")):=if_pos GW
  haveI a3:[V.str (Str.ofString "push"),.int o,.str (Str.ofString "normal"),.none].mapM (toPy 6 st)=some [.str (Str.ofString "push"),.int o,.str (Str.ofString "normal"),.none]:=by
   rw[List.mapM_cons,a1,List.mapM_cons,List.mapM_cons,a2];rfl
  haveI a4:toPy 7 st (bz o)=some (.tuple [.str (Str.ofString "push"),.int o,.str (Str.ofString "normal"),.none]):=congrArg (Option.map PyData.tuple) a3;show([bz o].mapM (toPy 7 st)).map PyData.list=_;rw[List.mapM_cons,a4];rfl
 haveI h2:toPy 8 st (.lst j)=some (.list []):=by
  show jO st[j]? (fun vs=>(vs.mapM (toPy 7 st)).map PyData.list)=_;exact congrArg (jO · _) hj
 refine h1.symm▸?_;refine h2.symm▸?_;simp[PyData.eqv,PyData.eqvAll]
theorem tq{st:St}{i j:Nat}(h:st[i]? =some (.list []))(hj:st[j]? =some (.list [])):vv st (.lst i) (.lst j)=some true:=
 eq_nil (ps:=[]) h hj
theorem ao.trans'(h1:ao lo hi a b)(hl:b.length≤c.length)(fr:∀i,i<b.length→i≠si→¬(lo≤i∧i<hi)→c[i]? =b[i]?)(hs:a.length≤si):ao lo hi a c:=
 ⟨Nat.le_trans h1.len hl,fun i hi hn=>by rw[fr i (Nat.lt_of_lt_of_le hi h1.len) (aO 0x21221000280200011102001 rt hs hi) hn,h1.eq i hi hn]⟩
end
section
open PySem
variable{st:St}{c hi w h:Nat}{l t:Int}{g:Int→Int→dG}{ri:Nat}{rs:List Nat}
theorem nB n(H:Cv st c hi w h l t g ri rs)(hg:∀x y,bH (g x y))(hw:w≤10)(hh:h≤10)(hl: -100≤l∧l≤50)(ht: -100≤t∧t≤50)(hb:b≤c)(dJ:oi<b)
  (hF:∀f∈fs,fu b st f) (ho:st[oi]? =some (.list (fs.map bQ))) {GG:Prop} (kk:∀af,ae PG (n+8) 593 [.lst oi,.obj 161 c,.int 2,.int 4] st=some (.none,af)→Cv af c hi w h l t (jD fs g) ri rs→ao c hi st af→GG):GG:=by
 have h0:st.length≠0:=by have:=H.len;have:=H.le;(rename_i q0;exact aO 0x2220100280102011001001 rt q0 this)
 refine zt (sU (n+5) st c h0) fun s1 e1 Y1 p1 l1=>?_;have hlen:=H.len;have p2:s1<+:s1++[Cell.list []]:=List.prefix_append _ _;have oA:ao c hi st (s1++[Cell.list []]):=.aK (p1.trans p2);have Y2:Lay (s1++[Cell.list []]) st.length (st.length+1) [c]:=⟨Y1.L0,Y1.s0,aA _ Y1.obj,aA _ Y1.uQ⟩
 obtain⟨s3,DU,e3,C3,O3⟩:=ny n (oi:=oi) (ca:=c) (wi:=s1.length) (all:=fs.map bQ) hw hh hl ht hb dJ (by exact aC 0x22100000100001 rt hlen) (by exact aC 0x22111020000100001 rt hlen) fs (s1++[Cell.list []]) g none none none none none Y2 ((H.pre p1).pre p2) hg
  (fun f hf=>(hF f hf).only oA hb) (oA.get ho (bS 0x2222010110000680301011003001 rt hb dJ))
 have w3:s3[s1.length]? =some (.list []):=O3.get (by simp) (bS 0x212212010110000680302001213021021 rt l1 hlen);have XG:=tq (aA [Cell.list []] w3) (j:=s3.length) (by simp);have Lh:(s1++[Cell.list []])[oi]? =some (.list (fs.map bQ)):=oA.get ho (bS 0x2222010110000680301011003001 rt hb dJ);refine kk (s3++[.list []]) (bD (loc0:=[some (.lst oi),some (.obj 161 c),some (.int 2),some (.int 4),none,none,none,none,none,none,none,none,none,none,none,none]) Ig rfl rfl ?_) (C3.pre (List.prefix_append _ _)) ((oA.trans O3).trans (.aK (List.prefix_append _ _)));show res (ex PG (ae PG (n+7)) Be _ _)=_;unfold Be;unfold tS at e3;generalize fs.map bQ=all at *;simp! [FK,Bool.not_true,e1,Lh,e3,XG]
theorem jE n(H:Cv st c hi w h l t g ri rs)(hg:∀x y,bH (g x y))(hw:w≤10)(hh:h≤10)(hl: -100≤l∧l≤50)(ht: -100≤t∧t≤50)(hb:b≤c)(dJ:oi<b)
  (hF:∀f∈fs,fu b st f) (ho:st[oi]? =some (.list (fs.map bQ))):
  ∃af,ae PG (n+8) 593 [.lst oi,.obj 161 c,.int 2,.int 4] st=some (.none,af)∧Cv af c hi w h l t (jD fs g) ri rs∧ao c hi st af:=nB n H hg hw hh hl ht hb dJ hF ho fun x1 x2 x3 x4=>⟨x1,x2,x3,x4⟩
theorem od n(H:Cv st c hi w h l t (fun _ _=>zc) ri rs)(IE:1≤w)(IG:1≤h)(hw:w≤10)(hh:h≤10)(hl: -100≤l∧l≤50)(ht: -100≤t∧t≤50)(hb:b≤c)(dJ:oi<b)
  (o0:0≤o) (o1:o≤255) (F:fu b st f) (hF:∀f∈fs,fu b st f) (ho:st[oi]? =some (.list (bz o::bQ f::fv::fs.map bQ))) {GG:Prop} (kk:∀af,ae PG (n+8) 593 [.lst oi,.obj 161 c,.int 2,.int 4] st=some (.none,af)→(Cv af c hi w h l t (jD fs (fun x y=>lay (dq (fst f (fun _ _=>zc) x y) o) zc)) ri rs)→ao c hi st af→GG):GG:=by
 have h0:st.length≠0:=by have:=H.len;have:=H.le;(rename_i q0;exact aO 0x2220100280102011001001 rt q0 this)
 have zm:∀x y:Int,bH ((fun _ _=>zc:Int→Int→dG) x y):=fun _ _=>sT;obtain⟨s1,e1,Y1,p1,l1⟩:=sU (n+5) st c h0;have hlen:=H.len;generalize zT:bz o::bQ f::fv::fs.map bQ=all at ho;generalize qn:s1++[Cell.list []]=s2;have l2:s2.length=st.length+3:=by rw[←qn];simp[l1]
 have p2:s1<+:s2:=qn▸List.prefix_append _ _;have oA:ao c hi st s2:=.aK (p1.trans p2);have Y2:Lay s2 st.length (st.length+1) [c]:=⟨Y1.L0,Y1.s0,ag p2 Y1.obj,ag p2 Y1.uQ⟩;have H2:=(H.pre p1).pre p2;have w2:s2[s1.length]? =some (.list []):=by rw[←qn];simp
 obtain⟨s3,c1,Gr,Gs,Gu,e3,Y3,C3,xG,O3⟩:=KD (n+3) Y2 H2 IE IG (aJ 0x221fd8100001a10001 rt hw) (aJ 0x221fd8100001a10001 rt hh);have w3:s3[s1.length]? =some (.list []):=O3.get w2 (aC 0x21211111002210110110020680210021021 rt l1);have XH:s1.length≠0:=aC 0x2210100280211020021 rt l1;generalize rd:s3.set s1.length (.list [bz o])=s4;have O4:ao s1.length (s1.length+1) s3 s4:=rd▸aX _ _ _;have w4:s4[s1.length]? =some (.list [bz o]):=by rw[←rd,List.getElem?_set_self (cN w3)]
 have Y4:=Y3.only O4 (aC 0x221001110201000170210021021 rt l1) (aC 0x221110021110201011002170210021021 rt l1);have C4:=C3.only O4 (yZ 0x2122112201110201000070204001313024021213021021 rt l1 l2 xG);have oD:ao c hi st s4:=(oA.since O3 (by lia)).since O4 (by lia);have H4:=(H2.only O3 (aO 0x22201111102201110200070100001 rt hlen)).only O4 (bS 0x2221201110201000070300001213021021 rt l1 hlen)
 have x1:ex PG (ae PG (n+7)) dh (tS oi c st.length s1.length (some (bz o)) none none none none) s2=some (.next,tS oi c st.length s1.length (some (bz o)) none none none none,s4):=by
  delta dh tS;have lz:0<100000:=by decide
  simp only[bz,pushS]at rd⊢;refine(gf 0x0 dh [some (V.lst oi),some (V.obj 161 c),some (V.int 2),some (V.int 4),some (V.obj 304 (List.length st)),some (V.lst (List.length s1)),some (V.tup [V.str (Str.ofString "push"),V.int o,jL,V.none]),none,none,none,none,none,none,none,none,none] s2 _ (gI Y2.obj) _ e3 (qO w3 XH C') _ (BA w3 (Nat.le_of_ble_eq_true rt))).trans ?_;simp! [dP,sF,BW,XC,C',Y2.obj,e3,w3,XH,lz,rd]
 have Tj:=H.lo;have hle:=H.le;have lb:b≤c1:=l70 0x22222122100000306011602011105001314025021403001200001 rt hb hlen l2 xG Tj hle;refine zr (GU n (cs:=[c]) Y4 C4 zm hw hh hl ht (F.only oD hb) lb (oi:=oi) (ca:=c) (wi:=s1.length) (o7:=none) (o8:=none) (o9:=none) (o10:=none)) fun s5 x2 C5 O5=>?_;have oE:ao c hi st s5:=oD.since O5 (by lia);have Y5:=Y4.only O5 (bS 0x2221002001000170103001310023021 rt l2 xG) (bS 0x2221110022001011002170103001310023021 rt l2 xG);have H5:=H4.only O5 (y7 0x22212302001000070105001314025021400001 rt hlen l2 xG);have w5:s5[s1.length]? =some (.list [bz o]):=O5.get w4 (yZ 0x2221122010110000680004001313024021213021021 rt l1 l2 xG);generalize Dd:s5++[Cell.list []]=s6;have p6:s5<+:s6:=Dd▸List.prefix_append _ _;have w6:=ag p6 w5;have XG:vv s6 (.lst s1.length) (.lst s5.length)=some false:=GX w6 (by rw[←Dd];simp);generalize KV:s6.set s1.length (.list [])=s7;have O7:ao s1.length (s1.length+1) s6 s7:=KV▸aX _ _ _;have w7:s7[s1.length]? =some (.list []):=by rw[←KV,List.getElem?_set_self (cN w6)]
 have Y7:Lay s7 st.length (st.length+1) [c,c1]:=Lay.only ⟨Y5.L0,Y5.s0,ag p6 Y5.obj,ag p6 Y5.uQ⟩ O7 (aC 0x221001110201000170210021021 rt l1) (aC 0x221110021110201011002170210021021 rt l1);have C7:=(C5.pre p6).only O7 (yZ 0x2122112201110201000070204001313024021213021021 rt l1 l2 xG);have H7:=(H5.pre p6).only O7 (bS 0x2221201110201000070300001213021021 rt l1 hlen);have oF:ao c hi st s7:=(oE.trans (.aK p6)).since O7 (by lia);refine I4 (SE (n+1) Y7 H7 C7 (bS 0x22212100000103001312023021200001 rt hlen l2 xG) (aO 0x212110022001011002170002001 rt hlen) (bS 0x2221110022001011002170103001310023021 rt l2 xG) (aO 0x212002001000170002001 rt hlen) IE IG hw hh (bA 0x212001fd816306a1003001cc16361 rt hl) (bA 0x2211fd8100306a1003001cc16361 rt hl) (bA 0x212001fd816306a1003001cc16361 rt ht) (bA 0x2211fd8100306a1003001cc16361 rt ht) o0 o1 zm (i4 F.al (by have:=F.o0;exact bA 0x22000130001131 rt this) F.o1 zm)) fun s8 e8 Y8 C8 l8 fr=>?_;have oG:ao c hi st s8:=oF.trans' l8 fr (aJ 0x2110020000 rt);have w8:s8[s1.length]? =some (.list []):=by rw[fr _ (cN w7) (aC 0x2211110200280211020021 rt l1) (bS 0x212212010110000680302001213021021 rt l1 hlen)];exact w7
 have x3:ex PG (ae PG (n+7)) dh (tS oi c st.length s1.length (some fv) none none none none) s5=some (.next,tS oi c st.length s1.length (some fv) (some pushS) (some (.int o)) (some jL) (some .none),s8):=by
  delta dh tS;have gl:[bz o].getLast? =some (bz o):=rfl;have dl:[bz o].dropLast=[]:=rfl;have ec:=Ky (n+6) s7;simp only[fv,KU];simp only[bz]at gl dl w6;simp! [dP,Bool.or_true,sF,Gb,tn,XD,Tg,Ti,Dd,XG,w6,gl,dl,XH,KV,Y7.obj,ec,e8]
 obtain⟨s9,DU,e9,C9,O9⟩:=ny n (oi:=oi) (ca:=c) (wi:=s1.length) (all:=all) hw hh hl ht hb dJ (by exact aC 0x22100000100001 rt hlen) (aC 0x22111020000100001 rt hlen) fs s8 _ (some fv) (some pushS) (some (.int o)) (some jL) (some .none) Y8 C8
  (fun x y=>uP (fP (i4 F.al (by have:=F.o0;exact bA 0x22000130001131 rt this) F.o1 zm x y) o0 o1) sT) (fun f' oM=>(hF f' oM).only oG hb) (oG.get ho (bS 0x2222010110000680301011003001 rt hb dJ))
 have w9:s9[s1.length]? =some (.list []):=O9.get w8 (bS 0x212212010110000680302001213021021 rt l1 hlen);have XI:=tq (aA [Cell.list []] w9) (j:=s9.length) (by simp);have Lh:s2[oi]? =some (.list all):=oA.get ho (bS 0x2222010110000680301011003001 rt hb dJ);have ho4:s4[oi]? =some (.list all):=oD.get ho (bS 0x2222010110000680301011003001 rt hb dJ);have ho5:s5[oi]? =some (.list all):=oE.get ho (bS 0x2222010110000680301011003001 rt hb dJ)
 have eL:aw (.var 6) [(oi,all)] (ex PG (ae PG (n+7)) dh) all (tS oi c st.length s1.length none none none none none) s2=some (tS oi c st.length s1.length DU (some pushS) (some (.int o)) (some jL) (some .none),s9):=by
  rw[←e9]
  conv=>lhs;arg 4;rw[←zT]
  rw[aT (by rw[ay];exact Lh) rfl x1,aT (by rw[ay];exact ho4) rfl x2,aT (by rw[ay];exact ho5) rfl x3]
 refine kk (s9++[.list []]) (bD (loc0:=[some (.lst oi),some (.obj 161 c),some (.int 2),some (.int 4),none,none,none,none,none,none,none,none,none,none,none,none]) Ig rfl rfl ?_) (C9.pre (List.prefix_append _ _)) ((oG.trans O9).trans (.aK (List.prefix_append _ _)));show res (ex PG (ae PG (n+7)) Be _ _)=_;unfold Be;unfold tS at eL;simp! [FK,Bool.not_true,e1,qn,Lh,eL,XI]
theorem tu n(H:Cv st c hi w h l t (fun _ _=>zc) ri rs)(IE:1≤w)(IG:1≤h)(hw:w≤10)(hh:h≤10)(hl: -100≤l∧l≤50)(ht: -100≤t∧t≤50)(hb:b≤c)(dJ:oi<b)
  (o0:0≤o) (o1:o≤255) (F:fu b st f) (hF:∀f∈fs,fu b st f) (ho:st[oi]? =some (.list (bz o::bQ f::fv::fs.map bQ))):
  ∃af,ae PG (n+8) 593 [.lst oi,.obj 161 c,.int 2,.int 4] st=some (.none,af)∧Cv af c hi w h l t (jD fs (fun x y=>lay (dq (fst f (fun _ _=>zc) x y) o) zc)) ri rs∧ao c hi st af:=od n H IE IG hw hh hl ht hb dJ o0 o1 F hF ho fun x1 x2 x3 x4=>⟨x1,x2,x3,x4⟩
noncomputable def iF(sh:Option Int)(fs:List fz):List V:=match sh,fs with
 |some o,f::r=>bz o::bQ f::fv::r.map bQ
 |_,fs=>fs.map bQ
noncomputable def oZ(sh:Option Int)(fs:List fz):Int→Int→dG:=match sh,fs with
 |some o,f::r=>jD r (fun x y=>lay (dq (fst f (fun _ _=>zc) x y) o) zc)
 |_,fs=>jD fs (fun _ _=>zc)
theorem GY(n:Nat){oi b:Nat}(H:Cv st c hi w h l t (fun _ _=>zc) ri rs)(IE:1≤w)(IG:1≤h)(hw:w≤10)(hh:h≤10)(hl: -100≤l∧l≤50)(ht: -100≤t∧t≤50)(hb:b≤c)(dJ:oi<b)
  {sh:Option Int} (hs:∀o,sh=some o→0≤o∧o≤255) {fs:List fz} (hF:∀f∈fs,fu b st f) (ho:st[oi]? =some (.list (iF sh fs))):
  ∃af,ae PG (n+8) 593 [.lst oi,.obj 161 c,.int 2,.int 4] st=some (.none,af)∧Cv af c hi w h l t (oZ sh fs) ri rs∧ao c hi st af:=by
 have zm:∀x y:Int,bH ((fun _ _=>zc:Int→Int→dG) x y):=fun _ _=>sT;cases sh with
 |none=>exact jE n H zm hw hh hl ht hb dJ hF ho
 |some o=>
  cases fs with
  |nil=>exact jE n H zm hw hh hl ht hb dJ hF ho
  |cons f r=>
   obtain⟨o0,o1⟩:=hs o rfl;exact tu n H IE IG hw hh hl ht hb dJ o0 o1 (hF f (.head _)) (fun f' h=>hF f' (.tail _ h)) ho
end
section
open PySem
theorem Tn{L:Int}(h:0≤L):(if 0<L then L else 0)=L:=by
 by_cases c:0<L
 ·rw[if_pos c]
 ·rw[if_neg c];exact Int.le_antisymm h (Int.not_lt.mp c)
theorem To{p e:Int}(h:p≤e):(if p<e then p else e)=p:=by
 by_cases c:p<e
 ·rw[if_pos c]
 ·rw[if_neg c];exact Int.le_antisymm (Int.not_lt.mp c) h
end
section
open PySem
variable{st:St}{c hi w h p hp pw ph:Nat}{l t L T:Int}{g d:Int→Int→dG}{ri Tp:Nat}{rs rsp:List Nat}
noncomputable def De(c p:Nat)(y x:Option V):Loc:=[some (.obj 161 c),some (.obj 161 p),y,x,none]
theorem Df(n:Nat)(hj:j<ph)(H:Cv st c hi w h l t (jx ((dX pw L T (ph * pw)).take (j * pw)) d g) ri rs)(P:Cv st p hp pw ph L T d Tp rsp)(hd:hi≤p)
  (o3:Option V) (x1:l≤L) (x2:L+pw≤l+w) (y1:t≤T) (y2:T+ph≤t+h) {GG:Prop} (kk:∀tP af XJ,aw (.var 3) [] (ex PG (ae PG (n+2)) kW) (aD L 1 pw) (De c p (some (.int (T+j))) o3) st=some (tP,af)→tP=De c p (some (.int (T+j))) XJ→Cv af c hi w h l t (jx ((dX pw L T (ph * pw)).take ((j+1) * pw)) d g) ri rs→ao c hi st af→GG):GG:=by
 obtain⟨lf,s1,e1,⟨b,rfl⟩,C1,O1⟩:=aH (p:=.var 3) (gs:=[]) (f:=ex PG (ae PG (n+2)) kW) (all:=aD L 1 pw)
  (fun k lo s=>(∃o3,lo=De c p (some (.int (T+j))) o3)∧Cv s c hi w h l t (jx ((dX pw L T (ph * pw)).take (j * pw+k)) d g) ri rs∧ao c hi st s)
  (fun _ _ _ _=>by rw[aQ];trivial)
  (fun k v lo s hv hI=>by
   obtain⟨⟨o3,rfl⟩,C,O⟩:=hI;obtain⟨rfl,fU⟩:=aY hv;haveI hx:=xa (l:=L) (t:=T) fU hj;haveI fV:=mV (F:=d) (g:=g) (ia pw L T (ph * pw)) hx;haveI P1:=P.only O (.inr hd);haveI e0:=wH n P1 (x:=L+k) (y:=T+j) (fy 0x20070020030 rt) (fZ 0x2210700200700240100011 rt fU) (fy 0x20070020030 rt) (fZ 0x2210700200700240100011 rt hj);refine qU n C (d (L+k) (T+j)) (x:=L+k) (y:=T+j) (lF 0x220071020030100031 rt x1) (T1 0x2221071020070024020001110710220700231 rt x2 fU) (lF 0x220071020030100031 rt y1) (T1 0x2221071020070024010710220700231200011 rt hj y2) fun s2 e2 C2 O2=>?_;rw[fV.1]at C2;refine⟨_,.next,De c p (some (.int (T+j))) (some (.int (L+k))),s2,rfl,?_,(fun _ q=>nomatch q),⟨_,rfl⟩,C2,O.trans O2⟩;delta kW De
   simp! [kj,qQ,mN,C.obj,P1.obj,e0,e2])
  (l:=De c p (some (.int (T+j))) o3) (st:=st) ⟨⟨_,rfl⟩,H,.refl _ _ _⟩
 rw[aR]at C1;rw[Nat.succ_mul]at kk;exact kk _ s1 b e1 rfl C1 O1
theorem og n(H:Cv st c hi w h l t g ri rs)(P:Cv st p hp pw ph L T d Tp rsp)(hd:hi≤p)(tR:pw≤100)(KR:ph≤100)
  (x1:l≤L) (x2:L+pw≤l+w) (y1:t≤T) (y2:T+ph≤t+h) (hL: -1000≤L∧L≤1000) (hT: -1000≤T∧T≤1000) {GG:Prop} (kk:∀af,ae PG (n+3) 600 [.obj 161 c,.obj 161 p] st=some (.none,af)→Cv af c hi w h l t (jx (dX pw L T (ph * pw)) d g) ri rs→ao c hi st af→GG):GG:=by
 obtain⟨lf,s1,e1,⟨a,b,rfl⟩,C1,O1⟩:=aH (p:=.var 2) (gs:=[]) (f:=ex PG (ae PG (n+2)) qE) (all:=aD T 1 ph)
  (fun k lo s=>(∃o2 o3,lo=De c p o2 o3)∧Cv s c hi w h l t (jx ((dX pw L T (ph * pw)).take (k * pw)) d g) ri rs∧ao c hi st s)
  (fun _ _ _ _=>by rw[aQ];trivial)
  (fun k v lo s hv hI=>by
   obtain⟨⟨o2,o3,rfl⟩,C,O⟩:=hI;obtain⟨rfl,fU⟩:=aY hv;have P1:=P.only O (.inr hd);refine Df n fU C P1 hd o3 x1 x2 y1 y2 fun lo2 s2 XJ e2 eq4 C2 O2=>?_;obtain rfl:=eq4;refine⟨De c p (some (.int (T+k))) o3,.next,De c p (some (.int (T+k))) XJ,s2,rfl,?_,(fun _ q=>nomatch q),⟨_,_,rfl⟩,C2,O.trans O2⟩;unfold De at e2⊢
   exact gf 0x3 qE [some (V.obj 161 c),some (V.obj 161 p),some (V.int (T+↑k)),o3,none] s _ (gI P1.obj) _ (gI P1.obj) _ (gI P1.obj) _ (fO _ L pw (bA 0x2120038bac816301fd81003001fd816361 rt hL) (bA 0x22138bac8100301fd81003001fd816361 rt hL) (aJ 0x221fd8100001cc10001 rt tR)) _ e2)
  (l:=De c p none none) (st:=st) ⟨⟨_,_,rfl⟩,H.congr fun x y _ _ _ _=>by unfold jx;simp,.refl _ _ _⟩
 rw[aR]at C1;haveI hl:(dX pw L T (ph * pw)).length=ph * pw:=by unfold dX;simp
 rw[List.take_of_length_le (Nat.le_of_eq hl)]at C1;refine kk s1 (bD (loc0:=[some (.obj 161 c),some (.obj 161 p),none,none,none]) QZ rfl rfl ?_) C1 O1;exact bk 0x3 PF [some (V.obj 161 c),some (V.obj 161 p),none,none,none] st _ (gI P.obj) _ (gI P.obj) _ (gI P.obj) _ (fO _ T ph (bA 0x2120038bac816301fd81003001fd816361 rt hT) (bA 0x22138bac8100301fd81003001fd816361 rt hT) (aJ 0x221fd8100001cc10001 rt KR)) _ e1
end
section
open PySem
noncomputable abbrev Tl:=Int×Int×Nat×Nat
noncomputable def jF(k:Tl):V:=.tup [.int k.1,.int k.2.1,.int k.2.2.1,.int k.2.2.2]
noncomputable def Tq(k:Tl):List (Int×Int):=dX k.2.2.1 k.1 k.2.1 (k.2.2.2 * k.2.2.1)
structure GZ(w h:Nat)(k:Tl):Prop where
 l0:0≤k.1
 t0:0≤k.2.1
 w1:1≤k.2.2.1
 h1:1≤k.2.2.2
 r:k.1+k.2.2.1≤w
 b:k.2.1+k.2.2.2≤h
structure Ops(b:Nat)(st:St)(oi:Nat)(sh:Option Int)(fs:List fz):Prop where
 lt:oi<b
 KW:st[oi]? =some (.list (iF sh fs))
 UD:∀o,sh=some o→0≤o∧o≤255
 L6:∀f∈fs,fu b st f
theorem Ops.only{b:Nat}{st af:St}{oi:Nat}{sh:Option Int}{fs:List fz}{lo hi:Nat}(X:Ops b st oi sh fs)(o:ao lo hi st af)(h:b≤lo):Ops b af oi sh fs:=
 ⟨X.lt,o.get X.KW (by haveI:=X.lt;exact bS 0x2222010110000680301011003001 rt h this),X.UD,fun f hf=>(X.L6 f hf).only o h⟩
theorem Ops.pre{b:Nat}{st af:St}{oi:Nat}{sh:Option Int}{fs:List fz}(X:Ops b st oi sh fs)(p:st<+:af):Ops b af oi sh fs:=X.only (.aK (lo:=b) (hi:=b) p) (Nat.le_refl _)
theorem jW n(X:Ops b st oi sh fs)(hb:b≤st.length)(K:GZ w h k)(hw:w≤10)(hh:h≤10){GG:Prop}(kk:∀af hp Tp rsp,ae PG (n+9) 607 [.lst oi,jF k,.int 2,.int 4] st=some (.obj 161 st.length,af)→Cv af st.length hp k.2.2.1 k.2.2.2 k.1 k.2.1 (oZ sh fs) Tp rsp→st<+:af→GG):GG:=by
 obtain⟨L,T,pw,ph⟩:=k;obtain⟨k1,k2,k3,k4,k5,k6⟩:=K;dsimp only at k1 k2 k3 k4 k5 k6;haveI h0:st.length≠0:=by haveI:=X.lt;exact aO 0x2220100280102011001001 rt hb this
 refine mS (n+6) st pw ph L T h0 k3 k4 (fZ 0x22221fd810000107007002310001311a11001 rt hw k1 k5) (fZ 0x22221fd810000107007002310001311a11001 rt hh k2 k6) fun s1 ri rs e1 C1 p1=>?_;haveI X1:=X.pre p1;refine zr (GY n C1 k3 k4 (fZ 0x22221a10000107007002310001311a11001 rt hw k1 k5) (fZ 0x22221a10000107007002310001311a11001 rt hh k2 k6) (fZ 0x2212021216a1003001cc16360007107002310001311a10001 rt hw k1 k5) (fZ 0x2212021216a1003001cc16360007107002310001311a10001 rt hh k2 k6) hb X.lt X.UD X1.L6 X1.KW) fun s2 e2 C2 O2=>?_;refine kk s2 s1.length ri rs (ai (loc0:=[some (.lst oi),some (jF (L,T,pw,ph)),some (.int 2),some (.int 4),none,none,none,none,none,none,none]) Q0 rfl rfl ?_) C2 (gO p1 O2 (Nat.le_refl _));exact bk 0x0 PI [some (V.lst oi),some (jF (L,T,pw,ph)),some (V.int 2),some (V.int 4),none,none,none,none,none,none,none] st _ e1 _ e2
noncomputable def KY(D:Int→Int→dG)(ks:List Tl)(g:Int→Int→dG):Int→Int→dG:=ks.foldl (fun g k=>jx (Tq k) D g) g
theorem u3{D:Int→Int→dG}{x y:Int}:∀{ks:List Tl} {g:Int→Int→dG},(g x y=D x y∨∃k∈ks,(x,y)∈Tq k)→KY D ks g x y=D x y
 |[],g,h=>by
  rcases h with h|⟨k,hk,_⟩
  ·exact h
  ·cases hk
 |k::ks,g,h=>by
  show KY D ks (jx (Tq k) D g) x y=D x y;refine u3 ?_;rcases Classical.em ((x,y)∈Tq k)with hm|hm
  ·left;unfold jx;rw[if_pos hm]
  ·rcases h with h|⟨k',fU,hm'⟩
   ·left;unfold jx;rw[if_neg hm];exact h
   ·rcases List.mem_cons.mp fU with rfl|fU
    ·exact absurd hm' hm
    ·exact .inr ⟨k',fU,hm'⟩
theorem kq(n:Nat){st:St}{b oi se ti:Nat}{sh:Option Int}{fs:List fz}(X:Ops b st oi sh fs)(hb:b≤st.length){w h:Nat}(hw:w≤10)(hh:h≤10)(IE:1≤w)(IG:1≤h)(G0:st[se]? =some (.inst [(47,.int 4),(36,.int 2),(3,.int w),(4,.int h)]))
  {ks:List Tl} (hK:∀k∈ks,GZ w h k) (KZ:st[ti]? =some (.list (ks.map jF))) {GG:Prop} (kk:∀af hi ri rs,ae PG (n+10) 614 [.lst oi,.obj 659 se,.lst ti] st=some (.obj 161 st.length,af)→(Cv af st.length hi w h 0 0 (KY (oZ sh fs) ks (fun _ _=>zc)) ri rs)→st<+:af→GG):GG:=by
 haveI h0:st.length≠0:=by haveI:=X.lt;exact aO 0x2220100280102011001001 rt hb this
 haveI XK:se<st.length:=(cN G0);haveI XM:ti<st.length:=(cN KZ);refine sR (n+7) st w h h0 IE IG (aJ 0x221fd8100001a10001 rt hw) (aJ 0x221fd8100001a10001 rt hh) fun s1 ri rs e1 C1 p1=>?_;haveI X1:=X.pre p1;haveI e2:=Cr (n+8) C1
 obtain⟨lf,s3,e3,⟨a,a',rfl⟩,C3,O3⟩:=aH (p:=.var 5) (gs:=[(ti,ks.map jF)]) (f:=ex PG (ae PG (n+9)) kX) (all:=ks.map jF)
  (fun k lo s=>(∃o5 o6,lo=[some (.lst oi),some (.obj 659 se),some (.lst ti),some (.obj 161 st.length),some (.tup [.int 0,.int 0,.int w,.int h]),o5,o6,none,none,none,none,none])∧
   Cv s st.length s1.length w h 0 0 (KY (oZ sh fs) (ks.take k) (fun _ _=>zc)) ri rs∧ao st.length s1.length s1 s)
  (fun k lo s hI=>by simp only[ay];exact hI.2.2.get (ag p1 KZ) (aO 0x222010110000680001011 rt XM))
  (fun k v lo s hv hI=>by
   obtain⟨⟨o5,o6,rfl⟩,C,O⟩:=hI;rw[List.getElem?_map,Option.map_eq_some_iff]at hv;refine b9 hv fun q hq eq2=>?_;try clear hv;obtain rfl:=eq2
   have et:ks.take (k+1)=ks.take k++[q]:=by simp only[List.take_add_one,hq];rfl
   have Q:=hK q (List.mem_of_getElem? hq);have Xs:=X1.only O hb;haveI hlen:=C.len;haveI Tr:=O.get (ag p1 G0) (aO 0x222010110000680001011 rt XK);haveI hle:=p1.length_le;refine jW n Xs (bS 0x2222100000302001103001200001 rt hb hlen hle) Q hw hh fun s4 hp Tp rsp e4 P4 p4=>?_;haveI C4:=C.pre p4;obtain⟨L,T,pw,ph⟩:=q;obtain⟨q1,q2,q3,q4,q5,q6⟩:=Q;dsimp only at q1 q2 q3 q4 q5 q6 P4;haveI hL:(if 0<L then L else 0)=L:=Tn (bA 0x22000130000131 rt q1);haveI hT:(if 0<T then T else 0)=T:=Tn (bA 0x22000130000131 rt q2);haveI hR:(if L+pw<0+w then L+pw else 0+(w:Int))=L+pw:=To (fZ 0x221070120070023010700700231 rt q5);haveI hB:(if T+ph<0+h then T+ph else 0+(h:Int))=T+ph:=To (fZ 0x221070120070023010700700231 rt q6);haveI e0:=th (n+8) s hL hT hR hB;rw[if_neg (by exact D7 0x2210212101071023000070023780101101001101 rt q3 q4),show L+(pw:Int) - L=pw by exact fy 0x20200700007002550 rt,show T+(ph:Int) - T=ph by exact fy 0x20200700007002550 rt]at e0;refine og (n+6) C4 P4 (aC 0x22100000100001 rt hlen) (fZ 0x22221cc10000107007002310001311a11001 rt hw q1 q5) (fZ 0x22221cc10000107007002310001311a11001 rt hh q2 q6) q1 (fZ 0x221070120070023010700700231 rt q5) q2 (fZ 0x221070120070023010700700231 rt q6) (fZ 0x2212021211fd81003001fd816360007107002310001311a10001 rt hw q1 q5) (fZ 0x2212021211fd81003001fd816360007107002310001311a10001 rt hh q2 q6) fun s5 e5 C5 O5=>?_;refine⟨_,.next,[some (.lst oi),some (.obj 659 se),some (.lst ti),some (.obj 161 st.length),some (.tup [.int 0,.int 0,.int w,.int h]),some (jF (L,T,pw,ph)),some (jF (L,T,pw,ph)),none,none,none,none,none],s5,rfl,?_,(fun _ q=>nomatch q),⟨_,_,rfl⟩,?_,(O.trans (.aK p4)).trans O5⟩
   ·unfold kX
    exact gf 0x0 kX (List.set [some (V.lst oi),some (V.obj 659 se),some (V.lst ti),some (V.obj 161 (List.length st)),some (V.tup [V.int 0,V.int 0,V.int ↑w,V.int ↑h]),o5,o6,none,none,none,none,none] 5 (some (V.tup [V.int L,V.int T,V.int ↑pw,V.int ↑ph]))) s _ e0 _ (gI Tr) _ (gI Tr) _ e4 _ e5
   ·rw[et]
    unfold KY at C5⊢;rw[List.foldl_append]
    exact C5)
  (l:=[some (.lst oi),some (.obj 659 se),some (.lst ti),some (.obj 161 st.length),some (.tup [.int 0,.int 0,.int w,.int h]),none,none,none,none,none,none,none]) (st:=s1)
  ⟨⟨_,_,rfl⟩,C1,.refl _ _ _⟩
 rw[List.length_map,List.take_length]at C3;refine kk s3 s1.length ri rs (ai (loc0:=[some (.lst oi),some (.obj 659 se),some (.lst ti),none,none,none,none,none,none,none,none,none]) Q3 rfl rfl ?_) C3 (gO p1 O3 (Nat.le_refl _));haveI XN:=ag p1 KZ;exact bk 0x1 PK [some (V.lst oi),some (V.obj 659 se),some (V.lst ti),none,none,none,none,none,none,none,none,none] st _ (gI G0) _ (gI G0) _ e1 _ e2 _ (FV XN) _ e3
theorem Dg:binI .Pow 10 18=some 1000000000000000000:=rfl
theorem II a:binI .Mod a 2147483629=some (a % 2147483629):=bmod _ _ (by decide)
theorem Dh a:binI .Mod a 2147483647=some (a % 2147483647):=bmod _ _ (by decide)
theorem tv:cW 48271:=by unfold cW;decide
theorem Di:cW 39373:=by unfold cW;decide
theorem xc p[Decidable p]:cW (if p then 1 else 0):=by split;exact Xd;exact Xc
theorem K0 a:binI .FloorDiv a 32=some (a / 32):=bdiv _ _ (by decide) (by decide)
inductive Src(s:Nat)(st:St):Prop
 |mk(p1:s≠0)(a)(b)(p2:st[s]? =some (.list [.int a,.int b])):Src s st
noncomputable def u4(i:Int):Int:=if i< -1 - i then -1 - i else i
theorem Dj(n:Nat)(ns:List Int){GG:Prop}(kk:∀a b,ae PG (n+1) 670 [.lst 0] [.list (ns.map .int)]=some (.lst 1,[.list (ns.map .int),.list [.int a,.int b]])→GG):GG:=by
 cases ns with
 |nil=>
  refine kk (u4 0 * (if decide (1000000000000000000≤u4 0)=true then 1 else 0)) ((u4 0 % 2147483629+17) * 48271 % 2147483647) (ai (loc0:=[some (.lst 0),none,none,none,none,none]) Ih rfl rfl ?_);rfl
 |cons i r=>
  refine kk (u4 i * (if decide (1000000000000000000≤u4 i)=true then 1 else 0)) ((u4 i % 2147483629+17) * 48271 % 2147483647) (ai (loc0:=[some (.lst 0),none,none,none,none,none]) Ih rfl rfl ?_);haveI d:decide ((0:Int)<(((r.map V.int).length+1:Nat):Int))=true:=decide_eq_true (aJ 0x21100270140 rt);haveI hb:∀i:Int,(if i< -1 - i then -1 - i else i)=u4 i:=fun _=>rfl;exact bk 0xc (S.seq (S.asg (cD.var 1) (E.cst (V.int 0))) (S.seq (S.ite (E.cmp CmpOp.Gt (E.az Bi.len (E.cons (E.loc 0) E.nil)) (E.cst (V.int 0))) (S.seq (S.asg (cD.var 1) (E.sub (E.loc 0) (E.cst (V.int 0)))) S.skip) S.skip) (S.seq (S.asg (cD.var 2) (E.az Bi.ja (E.cons (E.az Bi.int (E.cons (E.loc 1) E.nil)) (E.cons (E.az Bi.int (E.cons (E.bin Operator.Sub (E.neg (E.cst (V.int 1))) (E.loc 1)) E.nil)) E.nil)))) (S.seq (S.ret (E.lst (E.cons (E.bin Operator.Mult (E.loc 2) (E.az Bi.int (E.cons (E.cmp CmpOp.GtE (E.loc 2) (E.bin Operator.Pow (E.cst (V.int 10)) (E.cst (V.int 18)))) E.nil))) (E.cons (E.bin Operator.Mod (E.az Bi.int (E.cons (E.bin Operator.Mult (E.bin Operator.Add (E.bin Operator.Mod (E.loc 2) (E.cst (V.int 2147483629))) (E.cst (V.int 17))) (E.cst (V.int 48271))) E.nil)) (E.cst (V.int 2147483647))) E.nil)))) S.skip)))) [some (V.lst 0),none,none,none,none,none] [Cell.list (List.map V.int (i::r))] _ d (V.int i) (by simp! [RY,Iv,W5,W6,RZ,d,Xf,Dg,hb,II,Dh,bF _ _ (xc _),bF _ _ tv]) _ Dg _ (bF _ _ (xc _)) _ (II _) _ (bF _ _ tv) _ (Dh _)
theorem K1 n(ns:List Int):∃a b,ae PG (n+1) 670 [.lst 0] [.list (ns.map .int)]=some (.lst 1,[.list (ns.map .int),.list [.int a,.int b]]):=Dj n ns fun x1 x2 x3=>⟨x1,x2,x3⟩
theorem Src.lt{s:Nat}{st:St}(X:Src s st):s<st.length:=by
 obtain⟨_,a,b,h⟩:=X;exact(cN h)
theorem Src.pre{s:Nat}{st af:St}(X:Src s st)(p:st<+:af):Src s af:=by
 obtain⟨h0,a,b,h⟩:=X;exact⟨h0,a,b,ag p h⟩
theorem Src.only{s:Nat}{st af:St}{lo hi:Nat}(X:Src s st)(o:ao lo hi st af)(h:s<lo∨hi≤s):Src s af:=by
 obtain⟨h0,a,b,e⟩:=X;exact⟨h0,a,b,o.get e (aO 0x2120222010110000680102000010171 rt h)⟩
theorem eh(n:Nat){s:Nat}{st:St}(X:Src s st){top:Int}(t0:0<top)(t1:top<2^30){GG:Prop}(kk:∀d af,ae PG (n+1) 677 [.lst s,.int top] st=some (.int d,af)→0≤d→d<top→Src s af→ao s (s+1) st af→GG):GG:=by
 obtain⟨h0,a,b,h⟩:=X;haveI hl:=(cN h)
 by_cases ha:0<a
 ·have d1:decide (0<a)=true:=decide_eq_true ha
  refine kk (a % top) (st.set s (.list [.int (a / top),.int b])) (ai (loc0:=[some (.lst s),some (.int top),none,none]) Ii rfl rfl ?_) (Int.emod_nonneg _ (bA 0x220100580000141 rt t0)) (Int.emod_lt_of_pos _ t0) ⟨h0,a / top,b,by refine(List.getElem?_set_self hl).symm▸?_;try rfl⟩ (aX _ _ _);show res (ex PG (ae PG n) Bf _ _)=_;unfold Bf;simp! [RM,RN,RO,RP,LW,RQ,W5,h,d1,bmod _ _ t0,bdiv _ _ t0 t1,h0]
 ·have d1:decide (0<a)=false:=decide_eq_false ha
  haveI hs:(st.set s (.list [.int a,.int ((b * 39373+7) % 2147483647)]))[s]? =some (.list [.int a,.int ((b * 39373+7) % 2147483647)]):=by rw[List.getElem?_set_self hl]
  refine kk ((b * 39373+7) % 2147483647 / 32 % top) (st.set s (.list [.int a,.int ((b * 39373+7) % 2147483647)])) (ai (loc0:=[some (.lst s),some (.int top),none,none]) Ii rfl rfl ?_) (Int.emod_nonneg _ (bA 0x220100580000141 rt t0)) (Int.emod_lt_of_pos _ t0) ⟨h0,_,_,hs⟩ (aX _ _ _);show res (ex PG (ae PG n) Bf _ _)=_;unfold Bf;simp! [RM,RN,RO,RP,LW,RQ,W5,h,d1,bF _ _ Di,Dh,h0,hs,K0,bmod _ _ t0]
theorem nC(n:Nat){s:Nat}{st:St}(X:Src s st){top:Int}(t0:0<top)(t1:top<2^30):
  ∃d af,ae PG (n+1) 677 [.lst s,.int top] st=some (.int d,af)∧0≤d∧d<top∧Src s af∧ao s (s+1) st af:=eh n X t0 t1 fun x1 x2 x3 x4 x5 x6 x7=>⟨x1,x2,x3,x4,x5,x6,x7⟩
theorem lx(n:Nat)(X:Src s st)(hq:st[q]? =some (.list vs))(hqs:q≠s)(h0:0<vs.length)(h1:vs.length<100){GG:Prop}(kk:∀v af,ae PG (n+2) 684 [.lst s,.lst q] st=some (v,af)→v∈vs→Src s af→ao s (s+1) st af→GG):GG:=by
 refine eh n X (top:=(vs.length:Int)) (aJ 0x220070140000111 rt h0) (by lia) fun d s1 e1 d0 d1 X1 O1=>?_;haveI Jv:s1[q]? =some (.list vs):=O1.get hq (aC 0x21202211002101100006800010281 rt hqs);haveI hd:d.toNat<vs.length:=fZ 0x212121021211210001000007500013601002010046711070041100111 rt h0 d1 (iq _);haveI i1:idx d vs.length=some d.toNat:=dj d0 (fy 0x2200700400070041 rt d1);haveI v1:vs[d.toNat]? =some vs[d.toNat]:=List.getElem?_eq_getElem hd;refine kk (vs[d.toNat]) s1 (ai (loc0:=[some (.lst s),some (.lst q),none,none]) Q7 rfl rfl ?_) (List.getElem_mem hd) X1 O1;exact bk 0x3 PV [some (V.lst s),some (V.lst q),none,none] st _ (Sg hq) _ e1 _ (Bz Jv i1 v1)
theorem IJ st(p q:Spot):vv st (pv p) (pv q)=some (PyData.eqv (Iz p) (Iz q)):=by
 show(match toPy 8 st (pv p),toPy 8 st (pv q)with|some p,some q=>some (PyData.eqv p q)|_,_=>none)=_;rw[qZ 6,qZ 6]
def K2(ps:List Spot):Prop:=∀p∈ps,-100≤p.1∧p.1≤100∧-100≤p.2∧p.2≤100
theorem jG(h:ps≠[]):idx (-1) (ps.map pv).length=some (ps.length - 1)∧(ps.map pv)[ps.length - 1]? =some (pv (ps.getLast h)):=by
 haveI hl:0<ps.length:=List.length_pos_iff.mpr h;refine⟨?_,?_⟩
 ·rw[List.length_map];refine(show ps.length=(ps.length - 1)+1 by exact aC 0x22111021211021121022111020020001110220011060110211001671000111 rt hl (bE _ _)).symm▸?_;exact jw _
 ·refine(List.getElem?_map).symm▸?_;refine(List.getLast?_eq_getElem?)▸?_;refine(List.getLast?_eq_some_getLast h).symm▸?_;rfl
inductive Dk(s:Nat)(st:St)(k:Nat)(lo:Loc)(s':St):Prop
 |mk(p1:(∃o3 o4,lo=[some (.lst s),some (.int 12),some (.lst st.length),o3,o4,none,none,none,none]))(ps:List Spot)(p2:s'[st.length]? =some (.list (ps.map pv)))(p3:ps.length≤k)(p4:(1≤k→ps≠[]))(p5:K2 ps)(p6:Src s s')(p7:ao s (s+1) st s'):Dk s st k lo s'
theorem tx n(X:Src s st){GG:Prop}(kk:∀ps af,ae PG (n+2) 691 [.lst s,.int 12] st=some (gi ps,af)→ps≠[]→ps.length≤10→K2 ps→Src s af→ao s (s+1) st af→GG):GG:=by
 have nO:=X.lt;refine eh n (X.pre (List.prefix_append st [Cell.list []])) (top:=2) (by decide) (by decide) fun d s1 e1 d0 d1 X1 O1=>?_;obtain⟨m,hm⟩:∃m:Nat,3+d=(m:Int):=⟨(3+d).toNat,by exact fy 0x2211102121102202200700312500031200750031201360100201003124671000131 rt d0 (iq _)⟩;haveI f1:s1[st.length]? =some (.list []):=O1.get (by simp) (aC 0x2121100210110000680100011 rt nO)
 obtain⟨lf,s2,e2,⟨a,a',rfl⟩,ps,f2,i8,jK,hB,X2,O2⟩:=aH (p:=.var 3) (gs:=[]) (f:=ex PG (ae PG (n+1)) jr) (all:=aD 0 1 m)
  (Dk s st)
  (fun _ _ _ _=>by rw[aQ];trivial)
  (fun k v lo s' hv hI=>by
   refine gP fun GP kP=>?_;obtain⟨⟨o3,o4,rfl⟩,ps,f,hl,jK,hB,X',O'⟩:=hI;obtain⟨rfl,hk⟩:=aY hv;refine kP ?_;refine gP fun GP kP=>?_;refine eh n X' (top:=21) (by decide) (by decide) fun x s3 e3 x0 x1 X3 O3=>?_;refine eh n X3 (top:=21) (by decide) (by decide) fun y s4 e4 y0 y1 X4 O4=>?_;have f4:s4[st.length]? =some (.list (ps.map pv)):=O4.get (O3.get f (aC 0x2121100210110000680100011 rt nO)) (aC 0x2121100210110000680100011 rt nO);refine kP ?_;generalize yQ:s4++[Cell.list []]=s5;have p5:s4<+:s5:=yQ▸List.prefix_append _ _;have f5:=ag p5 f4;have CW:=eq_nil f5 (j:=s4.length) (by refine yQ▸?_;simp);have O5:ao s (s+1) st s5:=((O'.trans O3).trans O4).trans (.aK p5);haveI pY:st.length<s5.length:=(cN f5);haveI h0:st.length≠0:=aC 0x220100280001011 rt nO;haveI yB:(ps.map pv).length<100000:=by rw[List.length_map];exact l31 0x22221238bac8100101020112000011070031251210041 rt d1 hm hl hk
   haveI app:∃s6,s5.set st.length (.list (ps.map pv++[pv (x - 4,y - 4)]))=s6∧s6[st.length]? =some (.list ((ps++[(x - 4,y - 4)]).map pv))∧ao s (s+1) st s6∧Src s s6:=by
    refine⟨_,rfl,by refine(List.getElem?_set_self pY).symm▸?_;simp,?_,(X4.pre p5).only (aX _ _ _) (aC 0x22001110201000170100011 rt nO)⟩;exact O5.since (aX _ _ _) (by lia)
   refine zt app fun s6 Dd f6 O6 X6=>?_;try clear app
   haveI hB6:K2 (ps++[(x - 4,y - 4)]):=fun p hp=>by
    rcases List.mem_append.mp hp with hp|hp
    ·exact hB p hp
    ·rw[List.mem_singleton]at hp;subst hp;dsimp only;exact dr 0x221110212110211210211121cc1411053411051cc16361cc14100536410051cc163602d110411001312d10041000131 rt x0 x1 y0 y1
   haveI UE:V.tup [V.int (x - 4),V.int (y - 4)]=pv (x - 4,y - 4):=rfl;rcases Classical.em (ps=[])with hn|hn
   ·have XO:ps.isEmpty=true:=by refine hn.symm▸?_;rfl
    replace CW:=XO▸CW;generalize UG:ps.map pv=vs at *;refine⟨_,.next,[some (.lst s),some (.int 12),some (.lst st.length),some (.int (0+k)),some (pv (x - 4,y - 4)),none,none,none,none],s6,rfl,?_,(fun _ q=>nomatch q),⟨_,_,rfl⟩,_,f6,by simp;assumption,fun _=>by simp,hB6,X6,O6⟩;exact gf 0x1 jr (List.set [some (V.lst s),some (V.int 12),some (V.lst (List.length st)),o3,o4,none,none,none,none] 3 (some (V.int (0+↑k)))) s' _ e3 _ e4 (V.bool true) (by simp! [Rv,Int.reduceAdd,e3,e4,yQ,CW,f5,yB,h0,UE,Dd]) (qO (aA _ f4) h0 rfl) (([V.none],s6)) (by simp! [Rv,Int.reduceAdd,e3,e4,yQ,CW,f5,yB,h0,UE,Dd])
   ·haveI XO:ps.isEmpty=false:=by rw[List.isEmpty_eq_false_iff];exact hn
    haveI CW:=XO▸CW;haveI i1:=(jG hn).1;haveI v1:=(jG hn).2;haveI DV:=IJ s5 (x - 4,y - 4) (ps.getLast hn);generalize UG:ps.map pv=vs at *;cases hb:PyData.eqv (Iz (x - 4,y - 4)) (Iz (ps.getLast hn))with
    |true=>
     rw[hb]at DV;refine⟨_,.next,[some (.lst s),some (.int 12),some (.lst st.length),some (.int (0+k)),some (pv (x - 4,y - 4)),none,none,none,none],s5,rfl,?_,(fun _ q=>nomatch q),⟨_,_,rfl⟩,ps,by rw[UG];exact f5,by exact aC 0x22111020000100001 rt hl,fun _=>hn,hB,X4.pre p5,O5⟩;unfold jr;simp! [FK,Bool.not_true,Int.reduceAdd,e3,e4,yQ,CW,f5,UE,i1,v1,DV]
    |false=>
     rw[hb]at DV;refine⟨_,.next,[some (.lst s),some (.int 12),some (.lst st.length),some (.int (0+k)),some (pv (x - 4,y - 4)),none,none,none,none],s6,rfl,?_,(fun _ q=>nomatch q),⟨_,_,rfl⟩,_,f6,by simp;exact aC 0x22100000100001 rt hl,fun _=>by simp,hB6,X6,O6⟩;unfold jr
     simp! [FK,Bool.not_false,Int.reduceAdd,e3,e4,yQ,CW,f5,h0,UE,i1,v1,DV,yB,Dd])
  (l:=[some (.lst s),some (.int 12),some (.lst st.length),none,none,none,none,none,none]) (st:=s1)
  ⟨⟨_,_,rfl⟩,[],f1,Nat.le_refl _,fun h=>absurd h (by decide),jM,X1,(ao.aK (List.prefix_append st [Cell.list []])).trans O1⟩
 rw[aR]at i8 jK;have hn:=jK (fy 0x21220011000070031251000131 rt d0 hm);haveI i1:=(jG hn).1;haveI v1:=(jG hn).2;have y':0<ps.length:=List.length_pos_iff.mpr hn;have i0:idx 0 (ps.map pv).length=some 0:=dj (D6 0x2010130 rt) (by rw[List.length_map];exact aJ 0x220070140000111 rt y')
 have v0:(ps.map pv)[0]? =some (pv (ps.head hn)):=by
  refine(List.getElem?_map).symm▸?_;refine(List.head?_eq_getElem?)▸?_;refine(List.head?_eq_some_head hn).symm▸?_;rfl
 have DV:=IJ s2 (ps.head hn) (ps.getLast hn);have pY:st.length<s2.length:=(cN f2);have h0:st.length≠0:=aC 0x220100280001011 rt nO
 haveI pop:∃s3,s2.set st.length (.list (ps.map pv).dropLast)=s3∧s3[st.length]? =some (.list (ps.map pv).dropLast)∧ao s (s+1) st s3∧Src s s3:=
  ⟨_,rfl,by refine(List.getElem?_set_self pY).symm▸?_;try rfl,O2.since (aX _ _ _) (by lia),X2.only (aX _ _ _) (aC 0x22001110201000170100011 rt nO)⟩
 refine zt pop fun s3 yy f3 O3 X3=>?_;try clear pop
 haveI gl:(ps.map pv).getLast? =some (pv (ps.getLast hn)):=by simp only[List.getLast?_map,List.getLast?_eq_some_getLast hn];rfl
 by_cases h1:1<ps.length
 ·have d1:decide ((1:Int)<((ps.map pv).length:Int))=true:=decide_eq_true (by simp;exact aJ 0x220071140001111 rt h1)
  refine Mq (PyData.eqv (Iz (ps.head hn)) (Iz (ps.getLast hn))) (fun hb=>?_) fun hb=>?_
  ·replace DV:=hb▸DV
   refine kk ps s2 (ai (loc0:=[some (.lst s),some (.int 12),none,none,none,none,none,none,none]) Bh rfl rfl ?_) hn (by rename_i q0;exact fZ 0x222121a100001000011070031251210041 rt q0 hm i8) hB X2 O2;show res (ex PG (ae PG (n+1)) uI _ _)=_;delta uI gi;generalize ps.map pv=vs at *;simp! [Iv,DS,e1,hm,dQ _ m (by rename_i q0;exact fy 0x22121fd8100000070031251210041 rt q0 hm),e2,f2,d1,i0,i1,v0,v1,DV]
  ·rw[hb]at DV
   refine kk ps.dropLast s3 (ai (loc0:=[some (.lst s),some (.int 12),none,none,none,none,none,none,none]) Bh rfl rfl ?_) ?_ (by simp;(rename_i q0;exact fZ 0x222121b100001000011070031251210041 rt q0 hm i8)) (fun p hp=>hB p ((List.dropLast_sublist ps).subset hp)) X3 O3
   ·show res (ex PG (ae PG (n+1)) uI _ _)=_
    unfold uI;have hc:gi ps.dropLast=.tup [.tup (ps.map pv).dropLast,.bool true]:=by unfold gi;refine(List.map_dropLast).symm▸?_;try rfl
    refine hc.symm▸?_;generalize ps.map pv=vs at *;simp! [Iv,DS,Bool.or_true,e1,hm,dQ _ m (by rename_i q0;exact fy 0x22121fd8100000070031251210041 rt q0 hm),e2,f2,d1,i0,i1,v0,v1,DV,gl,h0,yy,f3]
   ·intro q
    haveI:=congrArg List.length q;simp at this;lia
 ·refine gP fun GP pI=>?_
  haveI d1:decide ((1:Int)<((ps.map pv).length:Int))=false:=decide_eq_false (by simp;exact aJ 0x2211007300011181 rt h1);refine pI ?_;refine kk ps s2 (ai (loc0:=[some (.lst s),some (.int 12),none,none,none,none,none,none,none]) Bh rfl rfl ?_) hn (aJ 0x221a100000011181 rt h1) hB X2 O2;show res (ex PG (ae PG (n+1)) uI _ _)=_;delta uI gi;generalize ps.map pv=vs at *;simp! [W2,Iv,DS,e1,hm,dQ _ m (by rename_i q0;exact fy 0x22121fd8100000070031251210041 rt q0 hm),e2,f2,d1]
noncomputable def xf(x y:Int)(a b:Spot):Int:=(x - a.1) * (b.2 - a.2) - (b.1 - a.1) * (y - a.2)
noncomputable def gT(x y:Int)(a b:Spot):Int:=
 if a.2<b.2 then(if a.2≤y∧y<b.2∧0≤xf x y a b then 1 else 0)
 else(if b.2≤y∧y<a.2∧0≤xf x y b a then -1 else 0)
theorem Dl(c y)(a b):gT (2 * c+1) y a b=wsum (dR y ([(a,b)].filterMap fun p=>aS p.1 p.2)) c:=by
 have key:∀(a b:Spot) (v:Int),a.2<b.2→(if a.2≤y∧y<b.2∧0≤xf (2 * c+1) y a b then v else 0)=wsum (dR y [(a.1,a.2,b.1,b.2,v)]) c:=by
  intro a b v nK
  by_cases hc:a.2≤y∧y<b.2
  ·have h1:cov y (a.1,a.2,b.1,b.2,v)=true:=by dsimp only[cov];simp[hc.1,hc.2]
   haveI h2:dR y [(a.1,a.2,b.1,b.2,v)]=[(m8 y (a.1,a.2,b.1,b.2,v),v)]:=by simp[dR,h1,Ux]
   haveI hg:=qY h1;haveI h3:=uY (Y:=y) (c:=c) hg;refine h2.symm▸?_;simp only[gM,gN,Int.add_zero]
   have h4:0≤xf (2 * c+1) y a b↔fX y (a.1,a.2,b.1,b.2,v)≤fh (a.1,a.2,b.1,b.2,v) * (2 * c+1):=by
    delta xf fX fh;dsimp only;rw[Int.sub_mul,Int.mul_comm (b.2 - a.2),Int.sub_sub];exact Int.sub_nonneg
   rcases Classical.em (0≤xf (2 * c+1) y a b)with h5|h5
   ·rw[if_pos ⟨hc.1,hc.2,h5⟩,if_pos (h3.mpr (h4.mp h5))]
   ·rw[if_neg fun q=>h5 q.2.2,if_neg fun q=>h5 (h4.mpr (h3.mp q))]
  ·have h1:cov y (a.1,a.2,b.1,b.2,v)=false:=by dsimp only[cov];rcases Classical.em (a.2≤y)with q1|q1;rw[decide_eq_false fun q2=>hc ⟨q1,q2⟩,Bool.and_false];rw[decide_eq_false q1];rfl
   have h2:dR y [(a.1,a.2,b.1,b.2,v)]=[]:=by simp[dR,h1]
   refine h2.symm▸?_;rw[if_neg fun q=>hc ⟨q.1,q.2.1⟩];rfl
 unfold gT;rcases Classical.em (a.2<b.2)with h1|h1
 ·haveI e:[(a,b)].filterMap (fun p:Spot×Spot=>aS p.1 p.2)=[(a.1,a.2,b.1,b.2,1)]:=by
   have h2:a.2≠b.2:=dr 0x2121000580100041 rt h1;simp[aS,h1,h2]
  simp only[if_pos h1,e,←key a b 1 h1]
 ·refine(if_neg h1).symm▸?_
  by_cases h2:a.2=b.2
  ·have e:[(a,b)].filterMap (fun p:Spot×Spot=>aS p.1 p.2)=[]:=by simp[aS,h2]
   rw[e,if_neg (by exact rp 0x22123001320104610003680002051 rt h2)];rfl
  ·have e:[(a,b)].filterMap (fun p:Spot×Spot=>aS p.1 p.2)=[(b.1,b.2,a.1,a.2,-1)]:=by simp[aS,h1,h2]
   rw[e,←key b a (-1) (dr 0x22102210004000105810010481 rt h1 h2)]
noncomputable def ei(x y:Int):List (Spot×Spot)→Int
 |[]=>0
 |p::r=>gT x y p.1 p.2+ei x y r
theorem rj(x y):ei x y []=0:=rfl
theorem rk(x y) p (r):ei x y (p::r)=gT x y p.1 p.2+ei x y r:=rfl
theorem u5(x y:Int)(l:List (Spot×Spot))(p:Spot×Spot):ei x y (l++[p])=ei x y l+gT x y p.1 p.2:=by
 induction l with
 |nil=>simp[rj,rk]
 |cons q r ih=>simp only[List.cons_append,rj,rk,ih];exact cg 0x202201000222010200250 rt
theorem tB(c y:Int):∀l:List (Spot×Spot),ei (2 * c+1) y l=wsum (dR y (l.filterMap fun p=>aS p.1 p.2)) c
 |[]=>rfl
 |p::r=>by
  rw[show p::r=[p]++r from rfl,List.filterMap_append,eg,ko,←Dl];show gT (2 * c+1) y p.1 p.2+ei (2 * c+1) y r=_;rw[tB c y r]
noncomputable def Dm(s:List Spot):List (Spot×Spot):=s.zip (s.drop 1++s.take 1)
theorem tC:∀(r:List Spot) (a b:Spot),(a::r).zip (r++[b])=(a::r).zip r++[((a::r).getLast (by simp),b)]
 |[],a,b=>rfl
 |c::r,a,b=>by
  simp only[List.cons_append,List.zip_cons_cons,tC r c b,List.zip_cons_cons];rfl
theorem Dp(c y:Int)(s:List Spot):ei (2 * c+1) y (Dm s)=wsum (dR y ((mW s).filterMap fun p=>aS p.1 p.2)) c:=by
 cases s with
 |nil=>rfl
 |cons a r=>
  cases r with
  |nil=>
   haveI:gT (2 * c+1) y a a=0:=by unfold gT;rw[if_neg (by exact bA 0x20000480 rt),if_neg (by exact cg 0x222001300104610003680 rt)]
   simp[Dm,mW,rj,rk,this,dR,gM,gN]
  |cons b r=>
   rw[←tB]
   congr 1
   exact tC (b::r) a a
theorem yR{k:Nat}(h:k<s.length){GG:Prop}(kk:∀a b,s[k]? =some a→s[(k+1) % s.length]? =some b→(Dm s)[k]? =some (a,b)→GG):GG:=by
 have h2:(k+1) % s.length<s.length:=Nat.mod_lt _ (aC 0x22000110001011 rt h);refine kk (s[k]) (s[(k+1) % s.length]) (List.getElem?_eq_getElem h) (List.getElem?_eq_getElem h2) ?_;unfold Dm;rw[List.getElem?_zip_eq_some];refine⟨List.getElem?_eq_getElem h,?_⟩
 by_cases hk:k+1<s.length
 ·rw[List.getElem?_append_left (by simp;exact aO 0x22112022100010201110222011060110211201671201100211 rt hk (bE _ _)),List.getElem?_drop];refine(Nat.add_comm 1 k).symm▸?_
  haveI:(k+1) % s.length=k+1:=Nat.mod_eq_of_lt hk;rw[List.getElem?_eq_getElem hk]
  congr 1
  congr 1
  exact this.symm
 ·haveI fU:k+1=s.length:=aC 0x21202211011002201011002181100011 rt h hk
  rw[List.getElem?_append_right (by simp;exact aC 0x221110200000011102181 rt hk),List.length_drop,show k - (s.length - 1)=0 by exact bS 0x22111212021111111021112021111111021111211021111111021111211021111111010020201130222011060130211201671103000221030060100230101671201011 rt h (bE _ _) (bE _ _),List.getElem?_take_of_lt (by decide),List.getElem?_eq_getElem (by exact aC 0x22000110001011 rt h)]
  congr 1
  congr 1
  simp only[fU,Nat.mod_self]
theorem xg(s:List Spot):(Dm s).length=s.length:=by
 cases s with
 |nil=>rfl
 |cons a r=>
  refine(List.length_zip (l₁:=a::r) (l₂:=r++[a])).trans ?_;rw[List.length_append];exact Nat.min_self _
noncomputable def G1(ci:Nat)(x y f:Int)(s:V)(b:Option V)(o6 o7 o8 o9 o10 o11:Option V):Loc:=[some (.lst ci),some (.int x),some (.int y),some (.int f),some s,b,o6,o7,o8,o9,o10,o11,none,none]
theorem G2(n:Nat){st:St}{s:List Spot}(hB:K2 s){ci k:Nat}{x y f:Int}(hk:k<s.length)(hx: -1000≤x∧x≤1000){bb o7 o8 o9 o10 o11:Option V}{a b:Spot}(ha:s[k]? =some a)(hb:s[(k+1) % s.length]? =some b):
  ∃DW ry Dq G5 gU,ex PG (ae PG n) jt (G1 ci x y f (.tup (s.map pv)) bb (some (.int (0+k))) o7 o8 o9 o10 o11) st=some (.next,G1 ci x y (f+gT x y a b) (.tup (s.map pv)) bb (some (.int (0+k))) DW ry Dq G5 gU,st):=by
 have Ba:=hB a (List.mem_of_getElem? ha);have Bb:=hB b (List.mem_of_getElem? hb);have i1:idx (0+(k:Int)) (s.map pv).length=some k:=by rw[dj (by exact aJ 0x20070120130 rt) (by rw[List.length_map];exact aC 0x2210700701240100011 rt hk)];congr 1;exact aC 0x21210221102021121000201070120075107012013601002011070124671 rt (iq _)
 have hm:(0+(k:Int)+1) % ((s.map pv).length:Int)=(((k+1) % s.length:Nat):Int):=by rw[List.length_map];simp
 have h2:(k+1) % s.length<s.length:=Nat.mod_lt _ (aC 0x22000110001011 rt hk);have i2:idx (((k+1) % s.length:Nat):Int) (s.map pv).length=some ((k+1) % s.length):=la (by rw[List.length_map];exact h2);have v1:(s.map pv)[k]? =some (pv a):=by rw[List.getElem?_map,ha];rfl
 have v2:(s.map pv)[(k+1) % s.length]? =some (pv b):=by rw[List.getElem?_map,hb];rfl
 have m1:binI .Mod (0+(k:Int)+1) ((s.map pv).length:Int)=some (((k+1) % s.length:Nat):Int):=by rw[bmod _ _ (by rw[List.length_map];exact aC 0x220070140001011 rt hk),hm]
 generalize hj:(k+1) % s.length=j at *;generalize s.map pv=vs at *;unfold jt G1 gT;have s1:cW (x - a.1):=cz (cg 0x2112112100053ec998816301cc1203201cc16361cc11036101cc163611fd81003001fd816361 rt hx Ba) (cg 0x21112213ec9988110005301cc1203201cc16361cc11036101cc163611fd81003001fd816361 rt hx Ba);have s2:cW (x - b.1):=cz (cg 0x2112112100053ec998816301cc1203201cc16361cc11036101cc163611fd81003001fd816361 rt hx Bb) (cg 0x21112213ec9988110005301cc1203201cc16361cc11036101cc163611fd81003001fd816361 rt hx Bb);have s3:cW (b.1 - a.1):=cz (rp 0x211121121100053ec998816301cc1303301cc16361cc10036001cc163611cc1203201cc16361cc11036101cc16361 rt Ba Bb) (rp 0x2112111123ec9988110005301cc1303301cc16361cc10036001cc163611cc1203201cc16361cc11036101cc16361 rt Ba Bb);have s4:cW (a.1 - b.1):=cz (rp 0x211211112100053ec998816301cc1303301cc16361cc11036101cc163611cc1203201cc16361cc10036001cc16361 rt Ba Bb) (rp 0x2111211213ec9988110005301cc1303301cc16361cc11036101cc163611cc1203201cc16361cc10036001cc16361 rt Ba Bb);have E1:(x - a.1) * (b.2 - a.2) - (b.1 - a.1) * (y - a.2)=xf x y a b:=rfl;have E2:(x - b.1) * (a.2 - b.2) - (a.1 - b.1) * (y - b.2)=xf x y b a:=rfl
 by_cases h1:a.2<b.2
 ·have d1:decide (a.2<b.2)=true:=decide_eq_true h1
  by_cases h3:a.2≤y
  ·have d3:decide (a.2≤y)=true:=decide_eq_true h3
   by_cases h4:y<b.2
   ·have d4:decide (y<b.2)=true:=decide_eq_true h4
    by_cases h5:0≤xf x y a b
    ·have d5:decide (0≤xf x y a b)=true:=decide_eq_true h5
     simp! [Fz,FA,Ke,RY,i1,v1,m1,i2,v2,pv,s1,s3,E1,h1,h3,h4,h5,and_self];exact⟨_,_,_,_,_,rfl⟩
    ·have d5:decide (0≤xf x y a b)=false:=decide_eq_false h5
     simp! [Fz,FA,Ke,RY,i1,v1,m1,i2,v2,pv,s1,s3,E1,h1,h3,h4,h5,and_false,Int.add_zero];exact⟨_,_,_,_,_,rfl⟩
   ·have d4:decide (y<b.2)=false:=decide_eq_false h4
    simp! [Fz,FA,Ke,i1,v1,m1,i2,v2,pv,h1,h3,h4,and_false,false_and,Int.add_zero];exact⟨_,_,_,_,_,rfl⟩
  ·have d3:decide (a.2≤y)=false:=decide_eq_false h3
   simp! [W0,Ke,i1,v1,m1,i2,v2,pv,h1,h3,false_and,Int.add_zero];exact⟨_,_,_,_,_,rfl⟩
 ·have d1:decide (a.2<b.2)=false:=decide_eq_false h1
  by_cases h3:b.2≤y
  ·have d3:decide (b.2≤y)=true:=decide_eq_true h3
   by_cases h4:y<a.2
   ·have d4:decide (y<a.2)=true:=decide_eq_true h4
    by_cases h5:0≤xf x y b a
    ·have d5:decide (0≤xf x y b a)=true:=decide_eq_true h5
     simp! [Fz,FA,DP,RY,i1,v1,m1,i2,v2,pv,s2,s4,E2,h1,h3,h4,h5,and_self];exact⟨_,_,_,_,_,rfl⟩
    ·have d5:decide (0≤xf x y b a)=false:=decide_eq_false h5
     simp! [Fz,FA,DP,RY,i1,v1,m1,i2,v2,pv,s2,s4,E2,h1,h3,h4,h5,and_false,Int.add_zero];exact⟨_,_,_,_,_,rfl⟩
   ·have d4:decide (y<a.2)=false:=decide_eq_false h4
    simp! [Fz,FA,DP,i1,v1,m1,i2,v2,pv,h1,h3,h4,and_false,false_and,Int.add_zero];exact⟨_,_,_,_,_,rfl⟩
  ·have d3:decide (b.2≤y)=false:=decide_eq_false h3
   simp! [W0,DP,i1,v1,m1,i2,v2,pv,h1,h3,false_and,Int.add_zero];exact⟨_,_,_,_,_,rfl⟩
theorem Dr(n:Nat){st:St}{s:List Spot}(hB:K2 s)(hl:s.length≤10){ci:Nat}{x y:Int}(hx: -1000≤x∧x≤1000){bb:Option V}(f:Int)(o6 o7 o8 o9 o10 o11:Option V){GG:Prop}(kk:∀DU DW ry Dq G5 gU,aw (.var 6) [] (ex PG (ae PG n) jt) (aD 0 1 s.length) (G1 ci x y f (.tup (s.map pv)) bb o6 o7 o8 o9 o10 o11) st=
   some (G1 ci x y (f+ei x y (Dm s)) (.tup (s.map pv)) bb DU DW ry Dq G5 gU,st)→GG):GG:=by
 obtain⟨lf,s1,e1,⟨a,b,c,d,e,g,rfl⟩,rfl⟩:=aH (p:=.var 6) (gs:=[]) (f:=ex PG (ae PG n) jt) (all:=aD 0 1 s.length)
  (fun k lo s'=>(∃o6 o7 o8 o9 o10 o11,lo=G1 ci x y (f+ei x y ((Dm s).take k)) (.tup (s.map pv)) bb o6 o7 o8 o9 o10 o11)∧s'=st)
  (fun _ _ _ _=>by rw[aQ];trivial)
  (fun k v lo s' hv hI=>by
   obtain⟨⟨o6,o7,o8,o9,o10,o11,rfl⟩,rfl⟩:=hI;obtain⟨rfl,hk⟩:=aY hv;refine gP fun GP kP=>?_;refine yR hk fun a b ha hb hr=>?_;refine I8 (G2 n (st:=s') (ci:=ci) (x:=x) (y:=y) (f:=f+ei x y ((Dm s).take k)) (bb:=bb) (o7:=o7) (o8:=o8) (o9:=o9) (o10:=o10) (o11:=o11) hB hk hx ha hb) fun DW ry Dq G5 gU e=>?_
   haveI hw:f+ei x y ((Dm s).take k)+gT x y a b=f+ei x y ((Dm s).take (k+1)):=by
    simp only[List.take_add_one,hr];simp only[Option.toList_some];simp only[u5,Int.add_assoc]
   haveI e:=hw▸e;refine kP ?_
   exact⟨G1 ci x y (f+ei x y ((Dm s).take k)) (.tup (s.map pv)) bb (some (.int (0+k))) o7 o8 o9 o10 o11,.next,_,s',rfl,e,(fun _ q=>nomatch q),⟨_,_,_,_,_,_,rfl⟩,rfl⟩)
  (l:=G1 ci x y f (.tup (s.map pv)) bb o6 o7 o8 o9 o10 o11) (st:=st) ⟨⟨o6,o7,o8,o9,o10,o11,by simp[rj,rk]⟩,rfl⟩
 rw[aR,←xg s,List.take_length,xg]at e1;exact kk _ _ _ _ _ _ e1
inductive Ds(aM:List (List Spot))(st:St)(ci:Nat)(c:Int)(y:Int)(k:Nat)(lo:Loc)(s':St):Prop
 |mk(p1:(∃o4 o5 o6 o7 o8 o9 o10 o11,lo=[some (.lst ci),some (.int (2 * c+1)),some (.int y),some (.int (wsum (dR y (aG (aM.take k))) c)),o4,o5,o6,o7,o8,o9,o10,o11,none,none]))(p2:s'=st):Ds aM st ci c y k lo s'
theorem yS(n:Nat){aM:List (List Spot)}(K:m7 aM){st:St}{ci:Nat}(hc:st[ci]? =some (.list (aM.map gi))){c y:Int}(hx: -400≤c∧c≤400):
  ae PG (n+1) 698 [.lst ci,.int (2 * c+1),.int y] st=some (.int (wsum (dR y (aG aM)) c),st):=by
 refine gP fun GP kQ=>?_
 obtain⟨lf,s1,e1,⟨o4,o5,a,b,c',d,e,g,rfl⟩,rfl⟩:=aH (p:=.vars [4,5]) (gs:=[(ci,aM.map gi)]) (f:=ex PG (ae PG n) qF) (all:=aM.map gi)
  (Ds aM st ci c y)
  (fun k lo s' hI=>by simp only[ay,hI.2];exact hc)
  (fun k v lo s' hv hI=>by
   obtain⟨⟨o4,o5,o6,o7,o8,o9,o10,o11,rfl⟩,rfl⟩:=hI;rw[List.getElem?_map,Option.map_eq_some_iff]at hv;refine b9 hv fun s hs eq2=>?_;try clear hv;obtain rfl:=eq2
   refine gP fun GP kP=>?_;refine jZ (K.each s (List.mem_of_getElem? hs)) fun k1 k2 k3=>?_;refine Dr n (st:=s') k3 k2 (ci:=ci) (x:=2 * c+1) (y:=y) (bA 0x23102131fd811100232311002321fd8163606a81003006a816361 rt hx) (bb:=some (.bool true)) (wsum (dR y (aG (aM.take k))) c) o6 o7 o8 o9 o10 o11 fun a b c' d e g eq=>?_;rw[Dp,←ko,←eg,←mZ]at eq;haveI et:aM.take (k+1)=aM.take k++[s]:=by simp only[List.take_add_one,hs];rfl
   rw[←et]at eq;refine kP ?_;refine⟨_,.next,[some (.lst ci),some (.int (2 * c+1)),some (.int y),some (.int (wsum (dR y (aG (aM.take (k+1)))) c)),some (.tup (s.map pv)),some (.bool true),a,b,c',d,e,g,none,none],s',rfl,?_,(fun _ q=>nomatch q),⟨_,_,_,_,_,_,_,_,rfl⟩,rfl⟩;unfold qF;unfold G1 at eq;haveI hl:(((s.map pv).length:Nat):Int)=((s.length:Nat):Int):=by simp
   simp! [hl,dQ _ s.length (aJ 0x221fd8100001a10001 rt k2),eq])
  (l:=[some (.lst ci),some (.int (2 * c+1)),some (.int y),some (.int 0),none,none,none,none,none,none,none,none,none,none]) (st:=st)
  ⟨⟨_,_,_,_,_,_,_,_,rfl⟩,rfl⟩
 rw[List.length_map,List.take_length]at e1;refine kQ ?_;refine ai (loc0:=[some (.lst ci),some (.int (2 * c+1)),some (.int y),none,none,none,none,none,none,none,none,none,none,none]) Q8 rfl rfl ?_;show res (ex PG (ae PG n) J7 _ _)=_;unfold J7;simp! [hc,e1]
theorem XQ:(Str.ofString "evenodd"==Str.ofString "evenodd")=true:=by decide+kernel
theorem XS:(Str.ofString "nonzero"==Str.ofString "evenodd")=false:=by decide+kernel
theorem ly(n:Nat){f:fz}(K:m7 f.aM){st:St}(hc:st[f.ci]? =some (.list (f.aM.map gi))){x y m p c row:Int}(hx: -400≤c∧c≤400)(e1:x * 4+(2 * (p % 2)+1) * 4 / 4=2 * c+1)(e2:y * 4+(2 * (p / 2)+1) * 4 / 4=row * 2+1){o6 o7:Option V}:
  ∃DU DW,ex PG (ae PG (n+1)) kY [some (bQ f),some (.int x),some (.int y),some (.int 4),some (.int m),some (.int p),o6,o7,none,none,none] st=
   some (.next,[some (bQ f),some (.int x),some (.int y),some (.int 4),some (.int (m+hit (aG f.aM) f.eo row c)),some (.int p),DU,DW,none,none,none],st):=by
 have ew:=yS n K hc (c:=c) (y:=row * 2+1) hx;unfold kY hit;cases he:f.eo with
 |true=>
  have hr:iW f.eo=.str (Str.ofString "evenodd"):=by rw[he];rfl
  simp only[bQ];simp! [Ke,bF,er,BD,mM,oQ,BG,FK,dP,W6,IA,IB,e1,e2,ew,hr,XQ,inside];exact⟨_,_,rfl⟩
 |false=>
  have hr:iW f.eo=.str (Str.ofString "nonzero"):=by rw[he];rfl
  simp only[bQ];simp! [DP,bF,er,BD,mM,oQ,BG,FK,dP,W6,Bool.false_eq_true,IA,IB,e1,e2,ew,hr,XS,inside];exact⟨_,_,rfl⟩
theorem yT(n:Nat){f:fz}(K:m7 f.aM){st:St}(hc:st[f.ci]? =some (.list (f.aM.map gi))){x y:Int}(hx: -100≤x∧x≤100):
  ae PG (n+2) 717 [bQ f,.int x,.int y,.int 4] st=some (.int ((2 * (255 * many (aG f.aM) f.eo x y)+4) / 8),st):=by
 refine gP fun GP kQ=>?_;refine Hq (ly n K hc (x:=x) (y:=y) (m:=0) (p:=0) (c:=2 * x) (row:=2 * y) (bA 0x23102136a810023300236a8163601cc1003001cc16361 rt hx) (by lia) (by lia) (o6:=none) (o7:=none)) fun a1 b1 e1=>?_;refine gP fun GP kP=>?_;refine Hq (ly n K hc (x:=x) (y:=y) (m:=0+hit (aG f.aM) f.eo (2 * y) (2 * x)) (p:=1) (c:=2 * x+1) (row:=2 * y) (bA 0x23102136a811100232311002326a8163601cc1003001cc16361 rt hx) (by lia) (by lia) (o6:=a1) (o7:=b1)) fun a2 b2 e2=>?_;refine Hq (ly n K hc (x:=x) (y:=y) (m:=0+hit (aG f.aM) f.eo (2 * y) (2 * x)+hit (aG f.aM) f.eo (2 * y) (2 * x+1)) (p:=2) (c:=2 * x) (row:=2 * y+1) (bA 0x23102136a810023300236a8163601cc1003001cc16361 rt hx) (by lia) (by lia) (o6:=a2) (o7:=b2)) fun a3 b3 e3=>?_;refine Hq (ly n K hc (x:=x) (y:=y) (m:=0+hit (aG f.aM) f.eo (2 * y) (2 * x)+hit (aG f.aM) f.eo (2 * y) (2 * x+1)+hit (aG f.aM) f.eo (2 * y+1) (2 * x)) (p:=3) (c:=2 * x+1) (row:=2 * y+1) (bA 0x23102136a811100232311002326a8163601cc1003001cc16361 rt hx) (by lia) (by lia) (o6:=a3) (o7:=b3)) fun a4 b4 e4=>?_
 haveI hm:0+hit (aG f.aM) f.eo (2 * y) (2 * x)+hit (aG f.aM) f.eo (2 * y) (2 * x+1)+hit (aG f.aM) f.eo (2 * y+1) (2 * x)+hit (aG f.aM) f.eo (2 * y+1) (2 * x+1)=many (aG f.aM) f.eo x y:=by
  delta many kH;exact rp 0x202302021000223020100001222250 rt
 rw[hm]at e4;haveI gn:au [] st:=by rw[aQ];trivial
 refine kP ?_;refine kQ ?_;refine ai (loc0:=[some (bQ f),some (.int x),some (.int y),some (.int 4),none,none,none,none,none,none,none]) Rb rfl rfl ?_
 haveI eL:aw (.var 5) [] (ex PG (ae PG (n+1)) kY) [.int 0,.int 1,.int 2,.int 3] [some (bQ f),some (.int x),some (.int y),some (.int 4),some (.int 0),none,none,none,none,none,none] st=
   some ([some (bQ f),some (.int x),some (.int y),some (.int 4),some (.int (many (aG f.aM) f.eo x y)),some (.int 3),a4,b4,none,none,none],st):=by
  rw[aT gn rfl e1,aT gn rfl e2,aT gn rfl e3,aT gn rfl e4,gS gn]
 haveI XT:510 * many (aG f.aM) f.eo x y+4=2 * (255 * many (aG f.aM) f.eo x y)+4:=bA 0x20241003ff323241007fe3250 rt;haveI sm:cW 510:=by unfold cW;decide
 refine(bk 0x3 Qa [some (bQ f),some (V.int x),some (V.int y),some (V.int 4),none,none,none,none,none,none,none] st _ (qP _) _ eL _ (bK _ _ er) _ (bK _ _ sm) _ (BF _)).trans ?_;simp! [er,BF,Int.reduceMul,qP,eL,sm,XT]
noncomputable def tT(oi q:Nat)(x y:Int)(S P:Nat)(k:Int)(o8 o9 o10 o11:Option V):Loc:=
 [some (.lst oi),some (.lst q),some (.int x),some (.int y),some (.int 4),some (.lst S),some (.lst P),some (.int k),o8,o9,o10,o11,none,none,none,none]
theorem nE(vs:List V) b:idx (-1) (vs++[b]).length=some vs.length∧(vs++[b])[vs.length]? =some b∧∀v,(vs++[b]).set vs.length v=vs++[v]:=
 ⟨by rw[List.length_append];exact jw _,by simp,fun v=>by simp⟩
theorem pa(n:Nat){st:St}{b0:Nat}{f:fz}(F:fu b0 st f){x y:Int}(hx: -100≤x∧x≤100){oi q S P k:Nat}{cols vs:List V}{g:Int→Int→dG}(hg:∀x y,bH (g x y))(hS:st[S]? =some (.list (vs++[cv (g x y)])))(L7:S≠0)
  (hq:st[q]? =some (.list cols)) (hk:cols[k]? =some (cv f.col)) {o9 o10 o11:Option V} {GG:Prop} (kk:∀af gU,ex PG (ae PG (n+3)) di (tT oi q x y S P k (some (bQ f)) o9 o10 o11) st=some (.next,tT oi q x y S P ((k:Int)+1) (some (bQ f)) o9 o10 gU,af)→af[S]? =some (.list (vs++[cv (fst f g x y)]))→ao S (S+1) st af→GG):GG:=by
 haveI e1:=yT (n+1) F.K F.c2 (x:=x) (y:=y) hx;haveI so:cW f.op:=cz (by haveI:=F.o0;exact bA 0x22003ec99881630001131 rt this) (by haveI:=F.o1;exact bA 0x223ec9988100303ff10031 rt this);haveI e2:=iU (n+2) ((2 * (255 * many (aG f.aM) f.eo x y)+4) / 8) f.op st so;haveI Lg:ae PG (n+3) 705 [.int ((2 * (255 * many (aG f.aM) f.eo x y)+4) / 8),.int f.op] st=some (.int (gR f x y),st):=e2;have y9:=rg f (by haveI:=F.o0;exact bA 0x22000130001131 rt this) F.o1 x y;haveI sa:cW (gR f x y):=cz (bA 0x212003ec998816303ff10030001361 rt y9) (bA 0x2213ec9988100303ff10030001361 rt y9);refine jZ (nE vs (cv (g x y))) fun i1 v1 w1=>?_;generalize hA:st++[Cell.list [.int (part f.col.1 (gR f x y)),.int (part f.col.2.1 (gR f x y)),.int (part f.col.2.2.1 (gR f x y)),.int (part f.col.2.2.2 (gR f x y))]]=sA;have pA:st<+:sA:=hA▸List.prefix_append _ _;haveI gA:sA[st.length]? =some (.list [.int (part f.col.1 (gR f x y)),.int (part f.col.2.1 (gR f x y)),.int (part f.col.2.2.1 (gR f x y)),.int (part f.col.2.2.2 (gR f x y))]):=by refine hA▸?_;simp
 refine km (n+1) (dq f.col (gR f x y)) (g x y) sA (jv (fP F.al y9.1 y9.2)) fun sB eB pB=>?_;haveI XU:ae PG (n+3) 710 [.tup [.int (part f.col.1 (gR f x y)),.int (part f.col.2.1 (gR f x y)),.int (part f.col.2.2.1 (gR f x y)),.int (part f.col.2.2.2 (gR f x y))],cv (g x y)] sA=some (cv (fst f g x y),sB):=eB;haveI SA:=ag pA hS;haveI SB:=ag pB SA;haveI ik:idx (k:Int) cols.length=some k:=la (cN hk);refine kk (sB.set S (.list (vs++[cv (fst f g x y)]))) (some (.int (gR f x y))) ?_ (by simp only[List.getElem?_set_self (cN SB)]) (((ao.aK pA).trans (.aK pB)).trans (aX _ _ _));haveI hww:=w1 (cv (fst f g x y));generalize vs++[cv (g x y)]=ms at *;haveI fU:cols[k]? =some (.tup [.int f.col.1,.int f.col.2.1,.int f.col.2.2.1,.int f.col.2.2.2]):=hk;haveI ep:∀(a:Int) (s:St),ae PG (n+3) 705 [.int a,.int (gR f x y)] s=some (.int (part a (gR f x y)),s):=fun a s=>iU (n+2) a _ s sa;delta di tT;simp only[bQ,CX]at e1⊢;simp! [zf,zg,zh,zi,RM,dP,ZY,Te,Tf,XE,XF,e1,Lg,hq,ik,fU];unfold wd;simp! [Bq,zf,zg,zh,zi,DQ,DR,RN,RO,RP,LW,RQ,ef,DS,ep,hA,gA,SA,i1,v1,XU,SB,L7,hww]
theorem G6(n:Nat){st:St}{b0:Nat}{f:fz}(F:fu b0 st f){x y:Int}(hx: -100≤x∧x≤100){oi q S P k:Nat}{cols vs:List V}{g:Int→Int→dG}(hg:∀x y,bH (g x y))(hS:st[S]? =some (.list (vs++[cv (g x y)])))(L7:S≠0)
  (hq:st[q]? =some (.list cols)) (hk:cols[k]? =some (cv f.col)) {o9 o10 o11:Option V}:
  ∃af gU,ex PG (ae PG (n+3)) di (tT oi q x y S P k (some (bQ f)) o9 o10 o11) st=some (.next,tT oi q x y S P ((k:Int)+1) (some (bQ f)) o9 o10 gU,af)∧af[S]? =some (.list (vs++[cv (fst f g x y)]))∧ao S (S+1) st af:=pa n F hx hg hS L7 hq hk fun x1 x2 x3 x4 x5=>⟨x1,x2,x3,x4,x5⟩
theorem nF(n:Nat){b0:Nat}{x y:Int}(hx: -100≤x∧x≤100){oi q S P:Nat}{all vs:List V}(L7:S≠0)(hb:b0≤S)(dJ:oi<S)(Jv:q<S):
  ∀(fs:List fz) (pre:List V) (st:St) (g:Int→Int→dG) (o8 o9 o10 o11:Option V),st[oi]? =some (.list all)→(∀f∈fs,fu b0 st f)→(∀x y,bH (g x y))→st[S]? =some (.list (vs++[cv (g x y)]))→st[q]? =some (.list (pre++fs.map fun f=>cv f.col))→
   ∃af k' ry gU,aw (.var 8) [(oi,all)] (ex PG (ae PG (n+3)) di) (fs.map bQ) (tT oi q x y S P (pre.length:Int) o8 o9 o10 o11) st=some (tT oi q x y S P k' ry o9 o10 gU,af)∧
    af[S]? =some (.list (vs++[cv (jD fs g x y)]))∧ao S (S+1) st af
 |[],pre,st,g,o8,o9,o10,o11,ho,hF,hg,hS,hq=>⟨st,_,o8,o11,gS (by simp only[ay];exact ho),hS,.refl _ _ _⟩
 |f::fs,pre,st,g,o8,o9,o10,o11,ho,hF,hg,hS,hq=>by
  have F:=hF f (.head _);refine gP fun GP kP=>?_;refine pa n F hx (oi:=oi) (P:=P) (k:=pre.length) hg hS L7 hq (by simp) (o9:=o9) (o10:=o10) (o11:=o11) fun s1 gU e1 S1 O1=>?_
  haveI tO:s1[q]? =some (.list ((pre++[cv f.col])++fs.map fun f=>cv f.col)):=by
   simp only[O1.get hq (aC 0x221100210110000680001011 rt Jv)];simp
  obtain⟨s2,k',ry,Dt,e2,S2,O2⟩:=nF n hx L7 hb dJ Jv fs (pre++[cv f.col]) s1 (fst f g) (some (bQ f)) o9 o10 gU (O1.get ho (aC 0x221100210110000680001011 rt dJ)) (fun f' oM=>(hF f' (.tail _ oM)).only O1 hb) (i4 F.al (by haveI:=F.o0;exact bA 0x22000130001131 rt this) F.o1 hg) S1 tO;refine kP ?_;refine⟨s2,k',ry,Dt,?_,S2,O1.trans O2⟩;simp only[List.length_append,List.length_singleton]at e2;rw[List.map_cons,aT (by simp only[ay];exact ho) rfl e1];exact e2
theorem zcv:cv zc=.tup [.int 0,.int 0,.int 0,.int 0]:=rfl
theorem Ts(n:Nat){b0:Nat}{st:St}{oi q:Nat}{sh:Option Int}{fs:List fz}(X:Ops b0 st oi sh fs)(hb:b0≤st.length)(hq:st[q]? =some (.list (fs.map fun f=>cv f.col))){x y:Int}(hx: -100≤x∧x≤100):
  ∃af,ae PG (n+4) 722 [.lst oi,.lst q,.int x,.int y,.int 4] st=some (cv (oZ sh fs x y),af)∧st<+:af:=by
 have h0:st.length≠0:=by have:=X.lt;exact aO 0x2220100280102011001001 rt hb this
 have zo:=(List.getElem?_eq_some_iff.mp hq).1;have zm:∀x y:Int,bH ((fun _ _=>zc:Int→Int→dG) x y):=fun _ _=>sT;generalize h1:st++[Cell.list [cv zc]]=s1;have l1:s1.length=st.length+1:=by rw[←h1];simp
 have p1:st<+:s1:=h1▸List.prefix_append _ _;have S1:s1[st.length]? =some (.list [cv zc]):=by rw[←h1];simp
 generalize h2:s1++[Cell.list []]=s2;have l2:s2.length=st.length+2:=by rw[←h2];simp[l1]
 have p2:s1<+:s2:=h2▸List.prefix_append _ _;have S2:=ag p2 S1;have P2:s2[s1.length]? =some (.list []):=by rw[←h2];simp
 have Nn:=p1.trans p2;have X2:=X.pre Nn;have q2:=ag Nn hq;have L1:s1.length≠0:=aC 0x2210100280111020021 rt l1
 have fin:∀(af:St) (k':Int) (o8 o9 o10 o11:Option V) (v:dG),aw (.var 8) [(oi,iF sh fs)] (ex PG (ae PG (n+3)) di) (iF sh fs) (tT oi q x y st.length s1.length 0 none none none none) s2=some (tT oi q x y st.length s1.length k' o8 o9 o10 o11,af)→
   af[st.length]? =some (.list [cv v])→ae PG (n+4) 722 [.lst oi,.lst q,.int x,.int y,.int 4] st=some (cv v,af):=by
  intro af k' o8 o9 o10 o11 v e g;refine ai (loc0:=[some (.lst oi),some (.lst q),some (.int x),some (.int y),some (.int 4),none,none,none,none,none,none,none,none,none,none,none]) Rc rfl rfl ?_;show res (ex PG (ae PG (n+3)) Ft _ _)=_;unfold Ft;unfold tT at e;have hc:=X2.KW;generalize iF sh fs=all at *;rw[zcv]at h1;exact bk 0x3 Ft [some (V.lst oi),some (V.lst q),some (V.int x),some (V.int y),some (V.int 4),none,none,none,none,none,none,none,none,none,none,none] st ({items:=all,guards:=[(oi,all)]}) (by simp! [h1,h2,hc,e,g,tn]) (([some (V.lst oi),some (V.lst q),some (V.int x),some (V.int y),some (V.int 4),some (V.lst (List.length st)),some (V.lst (List.length s1)),some (V.int k'),o8,o9,o10,o11,none,none,none,none],af)) (by simp! [h1,h2,hc,e,g,tn]) (cv v) (by simp! [h1,h2,hc,e,g,tn])
 have flat:∀(all:List V),iF sh fs=all→all=fs.map bQ→oZ sh fs=jD fs (fun _ _=>zc)→∃af,ae PG (n+4) 722 [.lst oi,.lst q,.int x,.int y,.int 4] st=some (cv (oZ sh fs x y),af)∧st<+:af:=by
  intro all ha hf hp;have hc:=X2.KW;obtain⟨s3,k',ry,gU,e3,S3,O3⟩:=nF n hx (oi:=oi) (q:=q) (S:=st.length) (P:=s1.length) (all:=iF sh fs) (vs:=[]) h0 hb (by have:=X.lt;exact aO 0x222100010200011102001 rt hb this) zo fs [] s2 (fun _ _=>zc) none none none none X2.KW X2.L6 zm S2 q2;rw[←hf,←ha]at e3;refine⟨s3,fin s3 _ _ _ _ _ _ e3 (by rw[hp];exact S3),gO Nn O3 (Nat.le_refl _)⟩
 cases sh with
 |none=>exact flat _ rfl rfl rfl
 |some o=>
  cases fs with
  |nil=>exact flat _ rfl rfl rfl
  |cons f r=>
   obtain⟨o0,o1⟩:=X.UD o rfl;have F:=X2.L6 f (.head _);have hc:=X2.KW;generalize h3:s2.set st.length (.list [cv zc,cv zc])=s3;have O3:ao st.length (st.length+1) s2 s3:=h3▸aX _ _ _;have S3:s3[st.length]? =some (.list [cv zc,cv zc]):=by rw[←h3,List.getElem?_set_self (by exact aC 0x221100010210021021 rt l2)]
   have P3:s3[s1.length]? =some (.list []):=O3.get P2 (aC 0x21211100210110000680110021021 rt l1);generalize h4:s3.set s1.length (.list [.int o])=s4;have O4:ao s1.length (s1.length+1) s3 s4:=h4▸aX _ _ _;have S4:=O4.get S3 (aC 0x2211100210110000680111020021 rt l1);have P4:s4[s1.length]? =some (.list [.int o]):=by rw[←h4,List.getElem?_set_self (List.getElem?_eq_some_iff.mp P3).1]
   have x1:ex PG (ae PG (n+3)) di (tT oi q x y st.length s1.length 0 (some (bz o)) none none none) s2=some (.next,tT oi q x y st.length s1.length 0 (some (bz o)) none none none,s4):=by
    unfold di tT;have lz:0<100000:=by decide
    have lz1:0+1<100000:=by decide
    simp only[bz,pushS];rw[zcv]at S2 h3;exact gf 0x0 di [some (V.lst oi),some (V.lst q),some (V.int x),some (V.int y),some (V.int 4),some (V.lst (List.length st)),some (V.lst (List.length s1)),some (V.int 0),some (V.tup [V.str (Str.ofString "push"),V.int o,jL,V.none]),none,none,none,none,none,none,none] s2 (qO S2 h0 C') _ (BA S2 (Nat.le_of_ble_eq_true rt)) (by simp! [dP,C',S2,P3,h0,L1,lz,lz1,h3,h4]) (([V.none],s4)) (by simp! [dP,C',S2,P3,h0,L1,lz,lz1,h3,h4])
   have oW:ao st.length (st.length+2) s2 s4:=(O3.aN (Nat.le_refl _) (aJ 0x2210021100200 rt)).trans (O4.aN (aC 0x221100000110021021 rt l1) (aC 0x212211021100200111020021 rt l1));have q4:=oW.get q2 (aC 0x222100210110000680001011 rt zo);obtain⟨s5,gU,x2,S5,O5⟩:=G6 n (F.only oW hb) hx (oi:=oi) (q:=q) (S:=st.length) (P:=s1.length) (k:=0) (vs:=[cv zc]) (g:=fun _ _=>zc) zm S4 h0 q4 rfl (o9:=none) (o10:=none) (o11:=none);have oX:ao st.length (st.length+2) s2 s5:=oW.trans (O5.aN (Nat.le_refl _) (aJ 0x2210021100200 rt));have P5:=O5.get P4 (aC 0x21211100210110000680110021021 rt l1);have XW:s5[st.length]? =some (.list [cv zc,cv (fst f (fun _ _=>zc) x y)]):=S5;generalize nK:fst f (fun _ _=>zc) x y=ab at XW;have XY:bH ab:=nK▸i4 F.al (by have:=F.o0;exact bA 0x22000130001131 rt this) F.o1 zm x y;generalize h6:s5.set st.length (.list [cv zc])=s6;have O6:ao st.length (st.length+1) s5 s6:=h6▸aX _ _ _;have S6:s6[st.length]? =some (.list [cv zc]):=by rw[←h6,List.getElem?_set_self (List.getElem?_eq_some_iff.mp XW).1]
   have P6:=O6.get P5 (aC 0x21211100210110000680110021021 rt l1);generalize h7:s6.set s1.length (.list [])=s7;have O7:ao s1.length (s1.length+1) s6 s7:=h7▸aX _ _ _;have S7:=O7.get S6 (aC 0x2211100210110000680111020021 rt l1);generalize hA:s7++[Cell.list [.int (part ab.1 o),.int (part ab.2.1 o),.int (part ab.2.2.1 o),.int (part ab.2.2.2 o)]]=sA;have pA:s7<+:sA:=hA▸List.prefix_append _ _;have gA:sA[s7.length]? =some (.list [.int (part ab.1 o),.int (part ab.2.1 o),.int (part ab.2.2.1 o),.int (part ab.2.2.2 o)]):=by rw[←hA];simp
   have so:cW o:=cz (bA 0x22003ec99881630000131 rt o0) (bA 0x223ec9988100303ff10031 rt o1);refine b9 (yx (n+1) (dq ab o) zc sA (jv (fP XY o0 o1))) fun sB eB pB=>?_;have XU:ae PG (n+3) 710 [.tup [.int (part ab.1 o),.int (part ab.2.1 o),.int (part ab.2.2.1 o),.int (part ab.2.2.2 o)],cv zc] sA=some (cv (lay (dq ab o) zc),sB):=eB;have SA:=ag pA S7;have SB:=ag pB SA;generalize h8:sB.set st.length (.list [cv (lay (dq ab o) zc)])=s8;have O8:ao st.length (st.length+1) sB s8:=h8▸aX _ _ _;have S8:s8[st.length]? =some (.list [cv (lay (dq ab o) zc)]):=by rw[←h8,List.getElem?_set_self (List.getElem?_eq_some_iff.mp SB).1]
   have x3:ex PG (ae PG (n+3)) di (tT oi q x y st.length s1.length ((0:Nat)+1:Int) (some fv) none none gU) s5=some (.next,tT oi q x y st.length s1.length ((0:Nat)+1:Int) (some fv) (some (cv ab)) (some (.int o)) gU,s8):=by
    have ep:∀(a:Int) (s:St),ae PG (n+3) 705 [.int a,.int o] s=some (.int (part a o),s):=fun a s=>iU (n+2) a _ s so;have gl1:[cv zc,cv ab].getLast? =some (cv ab):=rfl;have dl1:[cv zc,cv ab].dropLast=[cv zc]:=rfl;have gl2:[V.int o].getLast? =some (.int o):=rfl;have dl2:[V.int o].dropLast=[]:=rfl;have i1:idx (-1) [cv zc].length=some 0:=rfl;have Wu:idx (-1) 1=some 0:=rfl;have sq:∀s,fT (cv ab) s=some ⟨[.int ab.1,.int ab.2.1,.int ab.2.2.1,.int ab.2.2.2],[]⟩:=fun _=>rfl;generalize hz:cv zc=z at *;generalize hcb:cv ab=w at *;generalize ru:cv (lay (dq ab o) zc)=u at *;unfold di tT;simp only[fv,KU];simp! [RM,dP,Bool.or_true,tn,Tg,Ti,XW,P6,gl1,dl1,gl2,dl2,h0,L1,h6,h7];unfold wa;subst hcb;simp! [Bq,zf,zg,zh,zi,DQ,DR,RN,RO,RP,LW,RQ,ef,DS,ZY,cv,ep,hA,gA,SA,SB,Wu,XU,h8,h0]
   have oY:ao st.length (st.length+2) s2 s8:=(((oX.trans (O6.aN (Nat.le_refl _) (aJ 0x2210021100200 rt))).trans (O7.aN (aC 0x221100000110021021 rt l1) (aC 0x212211021100200111020021 rt l1))).trans ((ao.aK pA).trans (.aK pB))).trans (O8.aN (Nat.le_refl _) (aJ 0x2210021100200 rt));subst nK
   obtain⟨s9,k',ry,Dt,e9,S9,O9⟩:=nF n hx (oi:=oi) (q:=q) (S:=st.length) (P:=s1.length) (all:=iF (some o) (f::r)) (vs:=[]) h0 hb (by have:=X.lt;exact aO 0x222100010200011102001 rt hb this) zo r [cv f.col] s8 (fun x y=>lay (dq (fst f (fun _ _=>zc) x y) o) zc) (some fv) (some (cv (fst f (fun _ _=>zc) x y))) (some (.int o)) gU
    (oY.get hc (by have:=X.lt;exact aO 0x2222100210110000680201011002001 rt hb this)) (fun f' oM=>(X2.L6 f' (.tail _ oM)).only oY hb) (fun x y=>uP (fP (i4 F.al (by have:=F.o0;exact bA 0x22000130001131 rt this) F.o1 zm x y) o0 o1) sT) S8 (by rw[oY.get q2 (aC 0x222100210110000680001011 rt zo)];rfl)
   refine⟨s9,fin s9 k' ry (some (cv (fst f (fun _ _=>zc) x y))) (some (.int o)) Dt (oZ (some o) (f::r) x y) ?_ S9,gO Nn (oY.trans (O9.aN (Nat.le_refl _) (aJ 0x2210021100200 rt))) (Nat.le_refl _)⟩;rw[←e9];have zT:iF (some o) (f::r)=bz o::bQ f::fv::r.map bQ:=rfl;generalize HS:iF (some o) (f::r)=all at *
   conv=>lhs;arg 4;rw[zT]
   rw[aT (by rw[ay];exact hc) rfl x1,aT (by rw[ay];exact oW.get hc (by have:=X.lt;exact aO 0x2222100210110000680201011002001 rt hb this)) rfl x2,aT (by rw[ay];exact oX.get hc (by have:=X.lt;exact aO 0x2222100210110000680201011002001 rt hb this)) rfl x3];rfl
theorem rm st:bU .dY [.int 0,.int 2,.int 1] st=some ⟨[.int 0,.int 1],[]⟩:=rfl
theorem jX st:bU .dY [.int 0,.int 2,.int 2] st=some ⟨[.int 0],[]⟩:=rfl
theorem rn st:bU .dY [.int 0,.int 3,.int 1] st=some ⟨[.int 0,.int 1,.int 2],[]⟩:=rfl
theorem nG st:bU .dY [.int 0,.int 3,.int 2] st=some ⟨[.int 0,.int 2],[]⟩:=rfl
noncomputable def IK:List Tl:=[(0,0,1,1),(1,0,1,1),(0,1,1,1),(1,1,1,1)]
theorem G8 n st(h0:st.length≠0):ae PG (n+1) 532 [.int 2,.int 2,.int 1] st=some (.lst st.length,st++[.list (IK.map jF)]):=by
 refine ai (loc0:=[some (.int 2),some (.int 2),some (.int 1),none,none,none,none,none,none]) kh rfl rfl ?_;show res (ex PG (ae PG n) iS _ _)=_;delta iS eM eK;simp! [Int.reduceSub,rm,rm,FG,FH,FJ,Iu,h0,Int.reduceLT];rfl
noncomputable def IL:List Tl:=[(0,0,2,2)]
theorem Ha n st(h0:st.length≠0):ae PG (n+1) 532 [.int 2,.int 2,.int 2] st=some (.lst st.length,st++[.list (IL.map jF)]):=by
 refine ai (loc0:=[some (.int 2),some (.int 2),some (.int 2),none,none,none,none,none,none]) kh rfl rfl ?_;show res (ex PG (ae PG n) iS _ _)=_;delta iS eM eK;simp! [Int.reduceSub,jX,jX,FG,FH,FJ,Iu,h0,Int.reduceLT];rfl
noncomputable def IM:List Tl:=[(0,0,1,1),(1,0,1,1),(0,1,1,1),(1,1,1,1),(0,2,1,1),(1,2,1,1)]
theorem Hb n st(h0:st.length≠0):ae PG (n+1) 532 [.int 2,.int 3,.int 1] st=some (.lst st.length,st++[.list (IM.map jF)]):=by
 refine ai (loc0:=[some (.int 2),some (.int 3),some (.int 1),none,none,none,none,none,none]) kh rfl rfl ?_;show res (ex PG (ae PG n) iS _ _)=_;delta iS eM eK;simp! [Int.reduceSub,rm,rn,FG,FH,FJ,Iu,h0,Int.reduceLT];rfl
noncomputable def IP:List Tl:=[(0,0,2,2),(0,2,2,1)]
theorem Hd n st(h0:st.length≠0):ae PG (n+1) 532 [.int 2,.int 3,.int 2] st=some (.lst st.length,st++[.list (IP.map jF)]):=by
 refine ai (loc0:=[some (.int 2),some (.int 3),some (.int 2),none,none,none,none,none,none]) kh rfl rfl ?_;refine(bk 0x1140 (S.seq (S.ite (E.or (E.cmp CmpOp.Lt (E.loc 0) (E.cst (V.int 0))) (E.or (E.cmp CmpOp.Lt (E.loc 1) (E.cst (V.int 0))) (E.cmp CmpOp.Lt (E.loc 2) (E.cst (V.int 1))))) (S.seq S.stuck S.skip) S.skip) (S.seq (S.asg (cD.var 3) (E.lst E.nil)) (S.seq (S.loop (cD.var 4) SK.dY (E.cons (E.cst (V.int 0)) (E.cons (E.loc 1) (E.cons (E.loc 2) E.nil))) (S.seq (S.loop (cD.var 5) SK.dY (E.cons (E.cst (V.int 0)) (E.cons (E.loc 0) (E.cons (E.loc 2) E.nil))) (S.seq (S.expr (E.aF (E.loc 3) 0 (E.cons (E.tup (E.cons (E.loc 5) (E.cons (E.loc 4) (E.cons (E.az Bi.gj (E.cons (E.loc 2) (E.cons (E.bin Operator.Sub (E.loc 0) (E.loc 5)) E.nil))) (E.cons (E.az Bi.gj (E.cons (E.loc 2) (E.cons (E.bin Operator.Sub (E.loc 1) (E.loc 4)) E.nil))) E.nil))))) E.nil))) S.skip)) S.skip)) (S.seq (S.ret (E.loc 3)) S.skip)))) [some (V.int 2),some (V.int 3),some (V.int 2),none,none,none,none,none,none] st _ (nG _) _ (jX _) (qO (List.getElem?_concat_length) h0 rfl) _ (BA (List.getElem?_concat_length) (Nat.le_of_ble_eq_true rt)) _ (jX _) (qO (getSet (List.getElem?_concat_length)) h0 rfl) _ (BA (getSet (List.getElem?_concat_length)) (Nat.le_of_ble_eq_true rt))).trans ?_;simp! [Int.reduceSub,jX,nG,FG,FH,FJ,Iu,h0,Int.reduceLT];rfl
noncomputable def IQ:List Tl:=[(0,0,1,1),(1,0,1,1),(2,0,1,1),(0,1,1,1),(1,1,1,1),(2,1,1,1)]
theorem He n st(h0:st.length≠0):ae PG (n+1) 532 [.int 3,.int 2,.int 1] st=some (.lst st.length,st++[.list (IQ.map jF)]):=by
 refine ai (loc0:=[some (.int 3),some (.int 2),some (.int 1),none,none,none,none,none,none]) kh rfl rfl ?_;show res (ex PG (ae PG n) iS _ _)=_;delta iS eM eK;simp! [Int.reduceSub,rn,rm,FG,FH,FJ,Iu,h0,Int.reduceLT];rfl
noncomputable def IT:List Tl:=[(0,0,2,2),(2,0,1,2)]
theorem Hf n st(h0:st.length≠0):ae PG (n+1) 532 [.int 3,.int 2,.int 2] st=some (.lst st.length,st++[.list (IT.map jF)]):=by
 refine ai (loc0:=[some (.int 3),some (.int 2),some (.int 2),none,none,none,none,none,none]) kh rfl rfl ?_;show res (ex PG (ae PG n) iS _ _)=_;delta iS eM eK;simp! [Int.reduceSub,nG,jX,FG,FH,FJ,Iu,h0,Int.reduceLT];rfl
noncomputable def IU:List Tl:=[(0,0,1,1),(1,0,1,1),(2,0,1,1),(0,1,1,1),(1,1,1,1),(2,1,1,1),(0,2,1,1),(1,2,1,1),(2,2,1,1)]
theorem Hg n st(h0:st.length≠0):ae PG (n+1) 532 [.int 3,.int 3,.int 1] st=some (.lst st.length,st++[.list (IU.map jF)]):=by
 refine ai (loc0:=[some (.int 3),some (.int 3),some (.int 1),none,none,none,none,none,none]) kh rfl rfl ?_;show res (ex PG (ae PG n) iS _ _)=_;delta iS eM eK;simp! [Int.reduceSub,rn,rn,FG,FH,FJ,Iu,h0,Int.reduceLT];rfl
noncomputable def IV:List Tl:=[(0,0,2,2),(2,0,1,2),(0,2,2,1),(2,2,1,1)]
theorem Hh n st(h0:st.length≠0):ae PG (n+1) 532 [.int 3,.int 3,.int 2] st=some (.lst st.length,st++[.list (IV.map jF)]):=by
 refine ai (loc0:=[some (.int 3),some (.int 3),some (.int 2),none,none,none,none,none,none]) kh rfl rfl ?_;show res (ex PG (ae PG n) iS _ _)=_;delta iS eM eK;simp! [Int.reduceSub,nG,nG,FG,FH,FJ,Iu,h0,Int.reduceLT];rfl
noncomputable def tlc(w h:Nat)(ks:List Tl):Bool:=(ks.all fun k=>decide (0≤k.1)&&decide (0≤k.2.1)&&decide (1≤k.2.2.1)&&decide (1≤k.2.2.2)&&decide (k.1+k.2.2.1≤w)&&decide (k.2.1+k.2.2.2≤h))&&
 ((List.range w).all fun x=>(List.range h).all fun y=>ks.any fun k=>decide (k.1≤x)&&decide ((x:Int)<k.1+k.2.2.1)&&decide (k.2.1≤y)&&decide ((y:Int)<k.2.1+k.2.2.2))
structure jH(w h:Nat)(ks:List Tl):Prop where
 ok:∀k∈ks,GZ w h k
 cov:∀x y:Int,0≤x→x<w→0≤y→y<h→∃k∈ks,(x,y)∈Tq k
theorem gW(e:tlc w h ks=true):jH w h ks:=by
 unfold tlc at e;simp only[Bool.and_eq_true]at e;haveI e1:=e.1;haveI e2:=e.2;refine⟨fun k hk=>?_,fun x y x0 x1 y0 y1=>?_⟩
 ·haveI:=List.all_eq_true.mp e1 k hk
  simp only[Bool.and_eq_true,decide_eq_true_eq]at this;obtain⟨⟨⟨⟨⟨a1,a2⟩,a3⟩,a4⟩,a5⟩,a6⟩:=this;exact⟨a1,a2,a3,a4,a5,a6⟩
 ·have h1:=List.all_eq_true.mp e2 x.toNat (List.mem_range.mpr (fZ 0x212121021210001000007500013601002010046711070041000131 rt x0 x1 (iq _)))
  haveI h2:=List.all_eq_true.mp h1 y.toNat (List.mem_range.mpr (fZ 0x212121021210001000007500013601002010046711070041000131 rt y0 y1 (iq _)));refine b9 (List.any_eq_true.mp h2) fun k hk h3=>?_;simp only[Bool.and_eq_true,decide_eq_true_eq]at h3;rw[Int.toNat_of_nonneg x0,Int.toNat_of_nonneg y0]at h3;exact⟨k,hk,hY.mpr ⟨h3.1.1.1,h3.1.1.2,h3.1.2,h3.2⟩⟩
theorem yU n st(h0:st.length≠0){w h s:Nat}(hw:w=2∨w=3)(hh:h=2∨h=3)(hs:s=1∨s=2){GG:Prop}(kk:∀ks,ae PG (n+1) 532 [.int w,.int h,.int s] st=some (.lst st.length,st++[.list (ks.map jF)])→jH w h ks→GG):GG:=by
 rcases hw with rfl|rfl<;>rcases hh with rfl|rfl<;>rcases hs with rfl|rfl
 ·exact kk IK (G8 n st h0) (gW (by decide))
 ·exact kk IL (Ha n st h0) (gW (by decide))
 ·exact kk IM (Hb n st h0) (gW (by decide))
 ·exact kk IP (Hd n st h0) (gW (by decide))
 ·exact kk IQ (He n st h0) (gW (by decide))
 ·exact kk IT (Hf n st h0) (gW (by decide))
 ·exact kk IU (Hg n st h0) (gW (by decide))
 ·exact kk IV (Hh n st h0) (gW (by decide))
theorem Hi(n:Nat)(st:St)(h0:st.length≠0){w h s:Nat}(hw:w=2∨w=3)(hh:h=2∨h=3)(hs:s=1∨s=2):
  ∃ks,ae PG (n+1) 532 [.int w,.int h,.int s] st=some (.lst st.length,st++[.list (ks.map jF)])∧jH w h ks:=yU n st h0 hw hh hs fun x1 x2 x3=>⟨x1,x2,x3⟩
inductive jI(st:St)(i w h:Nat)(D:Int→Int→dG):Prop
 |mk(qs:List Nat)(p1:st[i]? =some (.list (qs.map V.lst)))(p2:qs.length=h)(p3:∀j q:Nat,qs[j]? =some q→st[q]? =some (.list (rowOf w 0 (j:Int) D))):jI st i w h D
theorem jI.pre{st af:St}{i w h:Nat}{D:Int→Int→dG}(G:jI st i w h D)(p:st<+:af):jI af i w h D:=by
 obtain⟨qs,h1,h2,h3⟩:=G;exact⟨qs,ag p h1,h2,fun j q e=>ag p (h3 j q e)⟩
theorem tD{w:Nat}{l y:Int}(e:∀x,l≤x→x<l+w→g x y=g' x y):rowOf w l y g=rowOf w l y g':=by
 refine List.map_congr_left fun i hi=>?_;haveI:=List.mem_range.mp hi;rw[e _ (by exact fy 0x20070020030 rt) (by exact fZ 0x2210700200700240100011 rt this)]
theorem jI.congr(G:jI st i w h D)(e:∀x y:Int,0≤x→x<w→0≤y→y<h→D x y=D' x y):jI st i w h D':=by
 obtain⟨qs,h1,h2,h3⟩:=G;refine⟨qs,h1,h2,fun j q hq=>?_⟩;haveI hj:=(cN hq);refine(h3 j q hq).symm▸?_
 congr 2
 exact tD fun x x0 x1=>e x j x0 (fy 0x2200700400070120041 rt x1) (aJ 0x20070130 rt) (aO 0x221210700740200011102021 rt h2 hj)
noncomputable def UH(c:dG):PyData:=.tuple [.int c.1,.int c.2.1,.int c.2.2.1,.int c.2.2.2]
theorem Hj m st c:toPy (m+2) st (cv c)=some (UH c):=by
 rfl
noncomputable def xh(w:Nat)(y:Int)(D:Int→Int→dG):PyData:=.list ((List.range w).map fun i:Nat=>UH (D (0+(i:Int)) y))
theorem Du(h:st[q]? =some (.list (rowOf w 0 y D))):toPy 7 st (.lst q)=some (xh w y D):=by
 show jO st[q]? (fun vs=>(vs.mapM (toPy 6 st)).map PyData.list)=_;refine(congrArg (jO · _) h).trans ?_;show((rowOf w 0 y D).mapM (toPy 6 st)).map PyData.list=_;unfold rowOf;rw[ni (f:=toPy 6 st) (F:=fun i:Nat=>cv (D (0+(i:Int)) y)) (G:=fun i:Nat=>UH (D (0+(i:Int)) y)) (fun i=>Hj 4 st _)];rfl
theorem tF{st:St}{G:Nat→PyData}:∀(qs:List Nat) (j0:Nat),(∀j q:Nat,qs[j]? =some q→toPy 7 st (.lst q)=some (G (j0+j)))→(qs.map V.lst).mapM (toPy 7 st)=some ((List.range' j0 qs.length).map G)
 |[],_,_=>rfl
 |q::qs,j0,h=>by
  haveI h0:=h 0 q rfl;haveI ih:=tF (st:=st) (G:=G) qs (j0+1) fun j q' e=>by simp only[h (j+1) q' (e)];congr 2;exact aC 0x202101100221110200220 rt
  simp only[List.map_cons,List.mapM_cons,h0,ih,List.range'_succ];rfl
theorem pd(G:jI st i w h D):toPy 8 st (.lst i)=some (.list ((List.range' 0 h).map fun j:Nat=>xh w (j:Int) D)):=by
 obtain⟨qs,h1,rfl,h3⟩:=G;show jO st[i]? (fun vs=>(vs.mapM (toPy 7 st)).map PyData.list)=_;refine(congrArg (jO · _) h1).trans ?_;show((qs.map V.lst).mapM (toPy 7 st)).map PyData.list=_;rw[tF (G:=fun j=>xh w (j:Int) D) qs 0 fun j q e=>by refine(Du (h3 j q e)).symm▸?_;rw[Nat.zero_add]];rfl
theorem gX{α:Type}{F:α→PyData}(h:∀a,PyData.eqv (F a) (F a)=true):∀l:List α,PyData.eqvAll (l.map F) (l.map F)=true
 |[]=>rfl
 |a::l=>by simp only[List.map_cons,PyData.eqvAll,h a,gX h l];rfl
theorem xi(G:jI st i w h D)(G':jI st j w h D):vv st (.lst i) (.lst j)=some true:=by
 show(match toPy 8 st (.lst i),toPy 8 st (.lst j)with|some p,some q=>some (PyData.eqv p q)|_,_=>none)=_;refine(pd G).symm▸?_;refine(pd G').symm▸?_;simp only;rw[PyData.eqv,gX];intro a;unfold xh;rw[PyData.eqv,gX];intro b;simp[UH,PyData.eqv,PyData.eqvAll]
theorem Tt:k7=eN:=rfl
theorem Dv n(hw:w≤100)(h:st[q]? =some (.list (rowOf w 0 y D))):
  one (ev PG (ae PG n) eN [none,some (.lst q)] st)=some (.lst st.length,st++[.list (rowOf w 0 y D)]):=by
 refine gP fun GP kP=>?_
 obtain⟨r,l',s',e,⟨o,_⟩,h2,h3⟩:=bg (p:=.var 1) (gs:=[(q,rowOf w 0 y D)]) (cond:=fun l' af=>some (true,af)) (elt:=fun l' af=>one (ev PG (ae PG n) qH l' af)) (all:=rowOf w 0 y D)
  (fun k acc l s=>(∃o,l=[none,o,none])∧acc=(rowOf w 0 y D).take k∧s=st)
  (fun k acc l s hI=>by simp only[ay,hI.2.2];exact h)
  (fun k v acc l s hv hI=>by
   obtain⟨⟨o,rfl⟩,rfl,rfl⟩:=hI;haveI Lv:=hv;unfold rowOf at Lv;rw[List.getElem?_map,Option.map_eq_some_iff]at Lv;refine b9 Lv fun i _ hc=>?_;try clear Lv
   refine⟨_,true,s,rfl,rfl,?_⟩;refine⟨v,s,?_,⟨_,rfl⟩,?_,rfl⟩
   ·refine hc▸?_;unfold qH;dsimp only[Ip,Iq,Lx,Ly,Lz,LA,LL,LN,ef,List.set_cons_zero,List.set_cons_succ,List.getElem?_cons_zero,List.getElem?_cons_succ,A40,cv]
   ·simp only[List.take_add_one,hv];rfl)
  (l:=[none,none,none]) (st:=st) ⟨⟨_,rfl⟩,rfl,rfl⟩
 simp only[List.take_length]at h2;subst h2 h3;haveI hl:(rowOf w 0 y D).length≤100000:=(qT.symm▸(aJ 0x2238bac8100001cc10001 rt hw));refine kP ?_;generalize rowOf w 0 y D=row at *;unfold eN;simp! [ef,h,e,hl]
theorem ku(n:Nat){st:St}{i w h:Nat}{D:Int→Int→dG}(hw:w≤100)(hh:h≤100){qs:List Nat}(h1:st[i]? =some (.list (qs.map V.lst)))(h2:qs.length=h)(h3:∀j q:Nat,qs[j]? =some q→st[q]? =some (.list (rowOf w 0 (j:Int) D))){GG:Prop}(kk:∀acc s1,(aB (.var 1) [(i,qs.map V.lst)] (fun l' af=>some (true,af)) (fun l' af=>one (ev PG (ae PG n) eN l' af)) (qs.map V.lst) [none,none] st=some (acc,s1))→st<+:s1→acc.length≤100000→jI (s1++[.list acc]) s1.length w h D→GG):GG:=by
 obtain⟨acc,lf,s1,e1,_,p1,ps,rfl,hlen,hr⟩:=bg (p:=.var 1) (gs:=[(i,qs.map V.lst)]) (cond:=fun l' af=>some (true,af))
  (elt:=fun l' af=>one (ev PG (ae PG n) eN l' af)) (all:=qs.map V.lst)
  (fun k a l' s=>(∃o,l'=[none,o])∧st<+:s∧∃ps:List Nat,a=ps.map V.lst∧ps.length=k∧∀j q:Nat,ps[j]? =some q→s[q]? =some (.list (rowOf w 0 (j:Int) D)))
  (fun k a l' s hI=>by simp only[ay];exact ag hI.2.1 h1)
  (fun k v a l' s hv hI=>by
   obtain⟨⟨o,rfl⟩,hp,ps,rfl,hlen,hr⟩:=hI;rw[List.getElem?_map,Option.map_eq_some_iff]at hv;refine b9 hv fun r NC eq2=>?_;try clear hv;obtain rfl:=eq2
   have y8:=ag hp (h3 k r NC);refine⟨_,true,s,rfl,rfl,?_⟩;refine⟨.lst s.length,s++[Cell.list (rowOf w 0 (k:Int) D)],Dv n hw y8,⟨_,rfl⟩,hp.trans (List.prefix_append _ _),ps++[s.length],by simp,by simp[hlen],fun j q hj=>?_⟩
   by_cases e:j<ps.length
   ·haveI hj:=(List.getElem?_append_left e)▸hj
    exact aA _ (hr j q hj)
   ·rw[List.getElem?_append_right (by exact aC 0x221000000010181 rt e)]at hj
    have Sx:j=k:=by
     by_cases e2:j - ps.length=0
     ·exact bS 0x2211121120211111221021121111202112111000200020302200200601302200016710130212000181102021 rt hlen e e2 (bE _ _)
     ·rw[List.getElem?_eq_none (by simp;exact aJ 0x22020011000100281 rt e2)]at hj;cases hj
    subst Sx;rw[hlen]at hj;simp at hj;subst hj
    exact List.getElem?_concat_length)
  (l:=[none,none]) (st:=st) ⟨⟨_,rfl⟩,List.prefix_refl _,[],rfl,rfl,fun j q h=>by injection h⟩
 simp only[List.length_map]at hlen;exact kk _ s1 e1 p1 (by rw[List.length_map];exact aO 0x21212238bac8100002000211020211cc11001 rt hh h2 hlen) ⟨ps,List.getElem?_concat_length,by exact aO 0x21212022121100020200021102021 rt h2 hlen,fun j q e=>aA _ (hr j q e)⟩
theorem yV n{oi q w:Nat}(X:Ops b0 st oi sh fs)(hb:b0≤st.length)(hq:st[q]? =some (.list (fs.map fun f=>cv f.col)))(hw:w≤100) y o2 {GG:Prop}(kk:∀s1,one (ev PG (ae PG (n+4)) fM [none,some (.int y),o2,some (.lst q),some (.int 4),some (.lst oi),some (.int w)] st)=some (.lst s1.length,s1++[.list (rowOf w 0 y (oZ sh fs))])→st<+:s1→GG):GG:=by
 obtain⟨acc,lf,s1,e1,_,p1,rfl⟩:=bg (p:=.var 1) (gs:=[]) (cond:=fun l' af=>some (true,af))
  (elt:=fun l' af=>one (ev PG (ae PG (n+4)) qG l' af)) (all:=aD 0 1 w)
  (fun k a l' s=>(∃o,l'=[none,o,none,some (.lst q),some (.int 4),some (.lst oi),some (.int y)])∧st<+:s∧a=(List.range k).map fun i:Nat=>cv (oZ sh fs (0+(i:Int)) y))
  (fun _ _ _ _ _=>by rw[aQ];trivial)
  (fun k v a l' s hv hI=>by
   obtain⟨⟨o,rfl⟩,hp,rfl⟩:=hI;obtain⟨rfl,hk⟩:=aY hv;refine⟨_,true,s,rfl,rfl,?_⟩;haveI hle:=hp.length_le;refine b9 (Ts n (X.pre hp) (aO 0x222100000102001200001 rt hb hle) (ag hp hq) (x:=0+(k:Int)) (y:=y) (aC 0x22202111cc100701230070121cc163601000111cc11001 rt hw hk)) fun s2 e2 p2=>?_;refine⟨cv (oZ sh fs (0+(k:Int)) y),s2,?_,⟨_,rfl⟩,hp.trans p2,by simp only[List.range_succ,List.map_append];rfl⟩;unfold qG
   simp! [ef,e2])
  (l:=[none,none,none,some (.lst q),some (.int 4),some (.lst oi),some (.int y)]) (st:=st) ⟨⟨_,rfl⟩,List.prefix_refl _,rfl⟩
 rw[aR]at e1;refine kk s1 ?_ p1;haveI hl:((List.range w).map fun i:Nat=>cv (oZ sh fs (0+(i:Int)) y)).length≤100000:=by simp;exact aJ 0x2238bac8100001cc10001 rt hw
 unfold rowOf;generalize ((List.range w).map fun i:Nat=>cv (oZ sh fs (0+(i:Int)) y))=row at *;unfold fM;simp! [ef,dQ _ w (aJ 0x221fd8100001cc10001 rt hw),e1,hl]
inductive Dw(st:St)(oi:Nat)(q:Nat)(w:Nat)(sh:Option Int)(fs:List fz)(k:Nat)(a:List V)(l':Loc)(s:St):Prop
 |mk(p1:(∃o,l'=[none,o,none,some (.lst q),some (.int 4),some (.lst oi),some (.int w)]))(p2:st<+:s)(ps:List Nat)(p3:a=ps.map V.lst)(p4:ps.length=k)(p5:∀j q:Nat,ps[j]? =some q→s[q]? =some (.list (rowOf w 0 (j:Int) (oZ sh fs)))):Dw st oi q w sh fs k a l' s
theorem u6(n:Nat){b0:Nat}{st:St}{oi q w h:Nat}{sh:Option Int}{fs:List fz}(X:Ops b0 st oi sh fs)(hb:b0≤st.length)(hq:st[q]? =some (.list (fs.map fun f=>cv f.col)))(hw:w≤100)(hh:h≤100){GG:Prop}(kk:∀acc s1,(aB (.var 1) [] (fun l' af=>some (true,af)) (fun l' af=>one (ev PG (ae PG (n+4)) fM l' af)) (aD 0 1 h) [none,none,none,some (.lst q),some (.int 4),some (.lst oi),some (.int w)] st=some (acc,s1))→st<+:s1→acc.length≤100000→jI (s1++[.list acc]) s1.length w h (oZ sh fs)→GG):GG:=by
 obtain⟨acc,lf,s1,e1,_,p1,ps,rfl,hlen,hr⟩:=bg (p:=.var 1) (gs:=[]) (cond:=fun l' af=>some (true,af))
  (elt:=fun l' af=>one (ev PG (ae PG (n+4)) fM l' af)) (all:=aD 0 1 h)
  (Dw st oi q w sh fs)
  (fun _ _ _ _ _=>by rw[aQ];trivial)
  (fun k v a l' s hv hI=>by
   obtain⟨⟨o,rfl⟩,hp,ps,rfl,hlen,hr⟩:=hI;obtain⟨rfl,hk⟩:=aY hv;refine⟨_,true,s,rfl,rfl,?_⟩;haveI hle:=hp.length_le;refine yV n (X.pre hp) (aO 0x222100000102001200001 rt hb hle) (ag hp hq) hw (0+(k:Int)) none fun s2 e2 p2=>?_;refine⟨.lst s2.length,s2++[Cell.list (rowOf w 0 (0+(k:Int)) (oZ sh fs))],e2,⟨_,rfl⟩,(hp.trans p2).trans (List.prefix_append _ _),ps++[s2.length],by simp,by simp[hlen],fun j q hj=>?_⟩
   by_cases e:j<ps.length
   ·haveI hj:=(List.getElem?_append_left e)▸hj
    exact aA _ (ag p2 (hr j q hj))
   ·rw[List.getElem?_append_right (by exact aC 0x221000000010181 rt e)]at hj
    have Sx:j=k:=by
     by_cases e2:j - ps.length=0
     ·exact bS 0x2211121120211111221021121111202112111000200020302200200601302200016710130212000181102021 rt hlen e e2 (bE _ _)
     ·rw[List.getElem?_eq_none (by simp;exact aJ 0x22020011000100281 rt e2)]at hj;cases hj
    cases Sx;rw[hlen]at hj;simp at hj;subst hj;rw[Int.zero_add]
    exact List.getElem?_concat_length)
  (l:=[none,none,none,some (.lst q),some (.int 4),some (.lst oi),some (.int w)]) (st:=st) ⟨⟨_,rfl⟩,List.prefix_refl _,[],rfl,rfl,fun j q h=>by injection h⟩
 simp only[aR]at hlen;exact kk _ s1 e1 p1 (by rw[List.length_map];exact aC 0x212238bac8100001000211cc11001 rt hh hlen) ⟨ps,List.getElem?_concat_length,by exact aC 0x2120221100020100021 rt hlen,fun j q e=>aA _ (hr j q e)⟩
theorem K3 n c st(h0:st.length≠0):ae PG (n+2) 638 [c] st=some (.obj 638 st.length,st++[.inst [(45,c)]]):=by
 refine eP Rj Bk ?_;refine bD (loc0:=[some (.obj 638 st.length),some c]) Q4 rfl rfl ?_;show res (ex PG (ae PG n) J6 _ _)=_;unfold J6;simp! [Km,Kn,Ko,Kp,Kq,and_true,Bk,Ce,h0]
theorem yW n(a b c d) st (h0:st.length≠0):ae PG (n+2) 659 [a,b,c,d] st=some (.obj 659 st.length,st++[.inst [(47,a),(36,b),(3,c),(4,d)]]):=by
 refine eP Rk Il ?_;refine bD (loc0:=[some (.obj 659 st.length),some a,some b,some c,some d]) Q6 rfl rfl ?_;refine(bk 0x0 PR [some (V.obj 659 (List.length st)),some a,some b,some c,some d] (st++[Cell.inst []]) _ (gI (List.getElem?_concat_length)) h0 _ (gI (getSet (List.getElem?_concat_length))) h0 _ (gI (getSet (getSet (List.getElem?_concat_length)))) h0 _ (gI (getSet (getSet (getSet (List.getElem?_concat_length))))) h0).trans ?_;simp! [Km,Kn,Ko,Kp,Kq,R0,and_true,Il,Cg,Ci,Gi,Gj,h0]
structure u7(q:Nat)(st:St)(f:fz):Prop where
 K:m7 f.aM
 ne:f.aM≠[]
 c1:q<f.ci
 c2:st[f.ci]? =some (.list (f.aM.map gi))
 p1:q<f.pi
 p2:st[f.pi]? =some (.inst [(45,cv f.col)])
 o0:1≤f.op
 o1:f.op≤255
 al:bH f.col
theorem u7.only{q:Nat}{st af:St}{f:fz}{lo hi:Nat}(F:u7 q st f)(o:ao lo hi st af)(h:hi≤q+1):u7 q af f:=
 ⟨F.K,F.ne,F.c1,o.get F.c2 (by haveI:=F.c1;exact bS 0x21222010110000680103011113022001 rt h this),F.p1,o.get F.p2 (by haveI:=F.p1;exact bS 0x21222010110000680103011113022001 rt h this),F.o0,F.o1,F.al⟩
theorem u7.fl(F:u7 q st f):fu st.length st f:=
 ⟨F.K,F.ne,(cN F.c2),F.c2,(cN F.p2),F.p2,F.o0,F.o1,F.al⟩
inductive Dx(s:Nat)(st:St)(k:Nat)(a:List V)(l':Loc)(s':St):Prop
 |mk(p1:(∃o,l'=[none,o,none,some (.int 4),some (.lst s)]))(p2:Src s s')(p3:ao s (s+1) st s')(aM:List (List Spot))(p4:a=aM.map gi)(p5:aM.length=k)(p6:∀c∈aM,c≠[]∧c.length≤10∧K2 c):Dx s st k a l' s'
theorem Hk n(X:Src s st) m {GG:Prop}(kk:∀(aM:List (List Spot)) (s1:St),(aB (.var 1) [] (fun l' af=>some (true,af)) (fun l' af=>one (ev PG (ae PG (n+2)) kZ l' af)) (aD 0 1 m) [none,none,none,some (.int 4),some (.lst s)] st=some (aM.map gi,s1))→aM.length=m→((∀c∈aM,c≠[]∧c.length≤10∧K2 c))→Src s s1→ao s (s+1) st s1→GG):GG:=by
 obtain⟨acc,lf,s1,e1,_,X1,O1,aM,rfl,hlen,hK⟩:=bg (p:=.var 1) (gs:=[]) (cond:=fun l' af=>some (true,af))
  (elt:=fun l' af=>one (ev PG (ae PG (n+2)) kZ l' af)) (all:=aD 0 1 m)
  (Dx s st)
  (fun _ _ _ _ _=>by rw[aQ];trivial)
  (fun k v a l' s' hv hI=>by
   refine gP fun GP kP=>?_;obtain⟨⟨o,rfl⟩,X',O',aM,rfl,hlen,hK⟩:=hI;refine tx n X' fun ps s2 e2 h1 h2 h3 X2 O2=>?_;refine kP ?_;refine⟨_,true,s',rfl,rfl,?_⟩;refine⟨gi ps,s2,?_,⟨_,rfl⟩,X2,O'.trans O2,aM++[ps],by simp,by simp[hlen],fun c hc=>?_⟩
   ·exact yv 0x0 kZ (List.set [none,o,none,some (V.int 4),some (V.lst s)] 1 (some (V.int (0+↑k)))) s' _ (bK _ _ BD) _ e2
   ·rcases List.mem_append.mp hc with hc|hc
    ·exact hK c hc
    ·rw[List.mem_singleton]at hc;subst hc;exact⟨h1,h2,h3⟩)
  (l:=[none,none,none,some (.int 4),some (.lst s)]) (st:=st) ⟨⟨_,rfl⟩,X,.refl _ _ _,[],rfl,rfl,fun c h=>nomatch h⟩
 simp only[aR]at hlen;exact kk aM s1 e1 hlen hK X1 O1
noncomputable def il(w h:Int)(oi q:Nat)(o7 o8 o9:Option V):Loc:=
 [some (.lst 0),some (.lst 1),some (.int 4),some (.int w),some (.int h),some (.lst oi),some (.lst q),o7,o8,o9,none,none,none,none,none,none,none,none,none,none,none,none,none,none]
noncomputable def tG:List V:=[.tup [.int 255,.int 0,.int 0,.int 255],.tup [.int 0,.int 128,.int 7,.int 128],.tup [.int 0,.int 0,.int 0,.int 255],.tup [.int 9,.int 9,.int 9,.int 200]]
theorem tH(h:v∈tG){GG:Prop}(kk:∀c,v=cv c→bH c→GG):GG:=by
 unfold tG at h;simp only[List.mem_cons,List.not_mem_nil,or_false]at h;rcases h with rfl|rfl|rfl|rfl
 ·exact kk (255,0,0,255) rfl ⟨by decide,by decide⟩
 ·exact kk (0,128,7,128) rfl ⟨by decide,by decide⟩
 ·exact kk (0,0,0,255) rfl ⟨by decide,by decide⟩
 ·exact kk (9,9,9,200) rfl ⟨by decide,by decide⟩
theorem tI(h:v∈[V.str (Str.ofString "nonzero"),V.str (Str.ofString "evenodd")]){GG:Prop}(kk:∀b,v=iW b→GG):GG:=by
 simp only[List.mem_cons,List.not_mem_nil,or_false]at h;rcases h with rfl|rfl
 ·exact kk false rfl
 ·exact kk true rfl
theorem u9(h:v∈[V.int 255,V.int 255,V.int 100]){GG:Prop}(kk:∀o,v=.int o→1≤o→o≤255→GG):GG:=by
 simp only[List.mem_cons,List.not_mem_nil,or_false]at h;rcases h with rfl|rfl|rfl<;>exact kk _ rfl (by decide) (by decide)
theorem tJ(h:v∈[V.int 255,V.int 77,V.int 0]){GG:Prop}(kk:∀o,v=.int o→0≤o→o≤255→GG):GG:=by
 simp only[List.mem_cons,List.not_mem_nil,or_false]at h;rcases h with rfl|rfl|rfl<;>exact kk _ rfl (by decide) (by decide)
theorem yX(n:Nat)(X:Src 1 st)(hq:q=oi+1)(dJ:2≤oi)(hl:fs.length<100)(ho:st[oi]? =some (.list (fs.map bQ)))(hc:st[q]? =some (.list (fs.map fun f=>cv f.col)))(hF:∀f∈fs,u7 q st f)
  {GG:Prop} (kk:∀af f ry Dq,ex PG (ae PG (n+3)) fL (il w h oi q o7 o8 o9) st=some (.next,il w h oi q o7 ry Dq,af)→Src 1 af→af[oi]? =some (.list ((fs++[f]).map bQ))→(af[q]? =some (.list ((fs++[f]).map fun f=>cv f.col)))→((∀f'∈fs++[f],u7 q af f'))→ao 1 (q+1) st af→GG):GG:=by
 have zo:=(cN hc);haveI hq0:q≠0:=aC 0x2210100280111020021 rt hq;haveI XZ:oi≠0:=aJ 0x220100280002101 rt dJ;refine eh (n+2) X (top:=2) (by decide) (by decide) fun d s1 e1 d0 d1 X1 O1=>?_;obtain⟨m,hm⟩:∃m:Nat,1+d=(m:Int):=⟨(1+d).toNat,by exact fy 0x2211102121102202200700112500011200750011201360100201001124671000131 rt d0 (iq _)⟩;refine Hk (n+1) X1 m fun aM s2 e2 ru hK X2 O2=>?_;have l2:st.length≤s2.length:=Nat.le_trans O1.len O2.len;have X0:aM≠[]:=fun e=>by haveI ru:=e▸ru;simp at ru;lia
 have K:m7 aM:=⟨by exact fZ 0x2122123100001000211070011251210041 rt d1 hm ru,fun s hs=>hK s hs⟩;generalize yy:s2++[Cell.list (aM.map gi)]=s3;have p3:s2<+:s3:=yy▸List.prefix_append _ _;have l3:s3.length=s2.length+1:=by subst yy;simp
 have g3:s3[s2.length]? =some (.list (aM.map gi)):=by refine yy▸?_;simp
 have A3:ao 1 2 st s3:=(O1.trans O2).trans (.aK p3);generalize rd:s3++[Cell.list tG]=s4;have p4:s3<+:s4:=rd▸List.prefix_append _ _;haveI g4:s4[s3.length]? =some (.list tG):=by refine rd▸?_;simp
 refine lx (n+1) ((X2.pre p3).pre p4) g4 (bS 0x221221100280113020021302001201011 rt zo l2 l3) (by decide) (by decide) fun v s5 e5 hv X5 O5=>?_;refine tH hv fun col eq1 vW=>?_;obtain rfl:=eq1;have A5:ao 1 2 st s5:=(A3.trans (.aK p4)).trans O5;haveI c5:s5[q]? =some (.list (fs.map fun f=>cv f.col)):=A5.get hc (aC 0x212212100100110680102101111020021 rt hq dJ);generalize Dd:s5.set q (.list ((fs.map fun f=>cv f.col)++[cv col]))=s6;have O6:ao q (q+1) s5 s6:=Dd▸aX _ _ _;have c6:s6[q]? =some (.list ((fs.map fun f=>cv f.col)++[cv col])):=by refine Dd▸?_;refine(List.getElem?_set_self (cN c5)).symm▸?_;try rfl
 have A6:ao 1 (q+1) st s6:=(A5.aN (Nat.le_refl _) (aC 0x221110022100111020021 rt hq)).trans (O6.aN (aC 0x221001100111020021 rt hq) (Nat.le_refl _));generalize KV:s6++[Cell.list [V.str (Str.ofString "nonzero"),V.str (Str.ofString "evenodd")]]=s7;have p7:s6<+:s7:=KV▸List.prefix_append _ _;haveI g7:s7[s6.length]? =some (.list [V.str (Str.ofString "nonzero"),V.str (Str.ofString "evenodd")]):=by refine KV▸?_;simp
 haveI l6:st.length≤s6.length:=A6.len;refine lx (n+1) ((X5.only O6 (aC 0x2221111100200011170102101111020021 rt hq dJ)).pre p7) g7 (bS 0x222211100280003001301011112021021 rt hq zo l6) (by decide) (by decide) fun v2 s8 e8 Jx X8 O8=>?_;refine tI Jx fun eo xB=>?_;subst xB;have A8:ao 1 (q+1) st s8:=(A6.trans (.aK p7)).trans (O8.aN (Nat.le_refl _) (aC 0x221110021111200111020021 rt hq));have c8:s8[q]? =some (.list ((fs.map fun f=>cv f.col)++[cv col])):=O8.get (ag p7 c6) (aC 0x212211111200100110680102101111020021 rt hq dJ);have h80:s8.length≠0:=by haveI:=A8.len;exact aO 0x2220100280002001201011 rt zo this
 haveI e9:=K3 (n+1) (cv col) s8 h80;generalize K4:s8++[Cell.inst [(45,cv col)]]=s9 at e9;have p9:s8<+:s9:=K4▸List.prefix_append _ _;haveI l9:s9.length=s8.length+1:=by refine K4▸?_;simp
 haveI g9:s9[s8.length]? =some (.inst [(45,cv col)]):=by refine K4▸?_;simp
 generalize K5:s9++[Cell.list [V.int 255,V.int 255,V.int 100]]=rz;have EK:s9<+:rz:=K5▸List.prefix_append _ _;haveI g10:rz[s9.length]? =some (.list [V.int 255,V.int 255,V.int 100]):=by refine K5▸?_;simp
 haveI l8:=A8.len;refine lx (n+1) ((X8.pre p9).pre EK) g10 (aC 0x22120211002801110200210110281 rt h80 l9) (by decide) (by decide) fun v3 tU UI hv3 Vh Tv=>?_;refine u9 hv3 fun o eq1 q0 q1=>?_;obtain rfl:=eq1;haveI FK:ao 1 (q+1) st tU:=((A8.trans (.aK p9)).trans (.aK EK)).trans (Tv.aN (Nat.le_refl _) (aC 0x221110021111200111020021 rt hq));have o8i:s8[oi]? =some (.list (fs.map bQ)):=O8.get (ag p7 (O6.get (A5.get ho (aJ 0x2122100100110680002101 rt dJ)) (aC 0x2211100210110000680111020021 rt hq))) (aJ 0x2121111200100110680002101 rt dJ);haveI Tw:tU[oi]? =some (.list (fs.map bQ)):=Tv.get (ag EK (ag p9 o8i)) (aJ 0x2121111200100110680002101 rt dJ);generalize hf:(⟨s2.length,aM,eo,s8.length,col,o⟩:fz)=f;haveI hfv:V.tup [V.str (Str.ofString "fill"),V.lst s2.length,iW eo,V.obj 638 s8.length,V.int o,V.none]=bQ f:=by simp only[←hf];rfl
 generalize K6:tU.set oi (.list (fs.map bQ++[bQ f]))=xj;have Hl:ao oi (oi+1) tU xj:=K6▸aX _ _ _;have Un:ao 1 (q+1) st xj:=FK.trans (Hl.aN (aJ 0x22001100002101 rt dJ) (aC 0x221111021100200110021021 rt hq));haveI X9:xj[oi]? =some (.list (fs.map bQ++[bQ f])):=by rw[←K6,List.getElem?_set_self (cN Tw)]
 haveI c12:xj[q]? =some (.list ((fs.map fun f=>cv f.col)++[cv col])):=Hl.get (Tv.get (ag EK (ag p9 c8)) (aC 0x212211111200100110680102101111020021 rt hq dJ)) (aC 0x21211100210110000680110021021 rt hq);haveI CP:f.col=col:=by refine hf▸?_;try rfl
 haveI B3:ao 1 (q+1) s3 xj:=(((((((ao.aK p4).trans (O5.aN (Nat.le_refl _) (aC 0x221110021111200111020021 rt hq))).trans (O6.aN (aC 0x221001100111020021 rt hq) (Nat.le_refl _))).trans (.aK p7)).trans (O8.aN (Nat.le_refl _) (aC 0x221110021111200111020021 rt hq))).trans (.aK (p9.trans EK))).trans (Tv.aN (Nat.le_refl _) (aC 0x221110021111200111020021 rt hq))).trans (Hl.aN (aJ 0x22001100002101 rt dJ) (aC 0x221111021100200110021021 rt hq));haveI B9:ao 1 (q+1) s9 xj:=((ao.aK EK).trans (Tv.aN (Nat.le_refl _) (aC 0x221110021111200111020021 rt hq))).trans (Hl.aN (aJ 0x22001100002101 rt dJ) (aC 0x221111021100200110021021 rt hq));haveI G3:=B3.get g3 (aO 0x21221110200100110680002001201011 rt zo l2);haveI G9:=B9.get g9 (aO 0x21221110200100110680002001201011 rt zo l8)
 haveI FN:u7 q xj f:=by
  simp only[←hf];exact⟨K,X0,by show q<s2.length;exact aO 0x222100010102001200011 rt zo l2,G3,by show q<s8.length;exact aO 0x222100010102001200011 rt zo l8,G9,q0,q1,vW⟩
 refine kk xj f (some (.lst s2.length)) (some (iW eo)) ?_ (Vh.only Hl (aJ 0x22111100200011170002101 rt dJ)) (by simp only[X9];simp) (by simp only[c12,List.map_append,←CP];rfl) (fun f' oM=>?_) Un
 ·have Yb:(aM.map gi).length≤100000:=by rw[List.length_map];exact fZ 0x21221238bac8100001000211070011251210041 rt d1 hm ru
  have hlc:(fs.map fun f=>cv f.col).length<100000:=by rw[List.length_map];exact aJ 0x2238bac8100101cc10011 rt hl
  have Tj:(fs.map bQ).length<100000:=by rw[List.length_map];exact aJ 0x2238bac8100101cc10011 rt hl
  refine jZ (nE (fs.map fun f=>cv f.col) (cv col)) fun i1 v1 _=>?_;haveI c1':s3[q]? =some (.list (fs.map fun f=>cv f.col)):=A3.get hc (aC 0x212212100100110680102101111020021 rt hq dJ);generalize aM.map gi=vct at *;generalize hmc:(fs.map fun f=>cv f.col)++[cv col]=mc at *;generalize (fs.map fun f=>cv f.col)=vc at *;generalize hmo:fs.map bQ++[bQ f]=mo at *;generalize fs.map bQ=vo at *;unfold tG at rd;delta fL il;simp! [e1,hm,dQ _ m (fy 0x22121fd8100000070011251210041 rt d1 hm),e2,Yb,yy,c1',hq0,rd,e5,c5,hlc,hmc,Dd,KV,e8,c8,i1,v1,e9,o8i,XZ,K5,UI,hfv,Tw,Tj,hmo,K6]
 ·rcases List.mem_append.mp oM with oM|oM
  ·exact(hF f' oM).only Un (Nat.le_refl _)
  ·simp only[List.mem_singleton]at oM;cases oM;exact FN
inductive Dy(st:St)(oi:Nat)(q:Nat)(w:Int)(h:Int)(k:Nat)(lo:Loc)(s:St):Prop
 |mk (p1:(∃o7 o8 o9,lo=il w h oi q o7 o8 o9)) (p2:Src 1 s) (fs:List fz) (p3:fs.length=k) (p4:s[oi]? =some (.list (fs.map bQ))) (p5:s[q]? =some (.list (fs.map fun f=>cv f.col))) (p6:(∀f∈fs,u7 q s f)) (p7:ao 1 (q+1) st s):Dy st oi q w h k lo s
theorem vd n(X:Src 1 st)(hq:q=oi+1)(dJ:2≤oi)(ho:st[oi]? =some (.list []))(hc:st[q]? =some (.list [])){w h:Int}(hm:m≤3){GG:Prop}(kk:∀(af:St) (fs:List fz) (DW ry Dq:Option V),aw (.var 7) [] (ex PG (ae PG (n+3)) fL) (aD 0 1 m) (il w h oi q none none none) st=some (il w h oi q DW ry Dq,af)→Src 1 af→fs.length=m→af[oi]? =some (.list (fs.map bQ))→(af[q]? =some (.list (fs.map fun f=>cv f.col)))→((∀f∈fs,u7 q af f))→ao 1 (q+1) st af→GG):GG:=by
 obtain⟨lf,s1,e1,⟨a,b,c,rfl⟩,X1,fs,hl,h1,h2,h3,O1⟩:=aH (p:=.var 7) (gs:=[]) (f:=ex PG (ae PG (n+3)) fL) (all:=aD 0 1 m)
  (Dy st oi q w h)
  (fun _ _ _ _=>by rw[aQ];trivial)
  (fun k v lo s hv hI=>by
   refine gP fun GP kP=>?_;obtain⟨⟨o7,o8,o9,rfl⟩,X',fs,hl,h1,h2,h3,O'⟩:=hI;obtain⟨rfl,hk⟩:=aY hv;refine yX n X' hq dJ (fs:=fs) (aO 0x221221cc10010102011200021311001 rt hm hl hk) h1 h2 h3 (w:=w) (h:=h) (o7:=some (.int (0+k))) (o8:=o8) (o9:=o9) fun s2 f ry Dq e2 X2 g1 g2 g3 O2=>?_;refine kP ?_
   exact⟨il w h oi q (some (.int (0+k))) o8 o9,.next,_,s2,rfl,e2,(fun _ q=>nomatch q),⟨_,_,_,rfl⟩,X2,fs++[f],by simp[hl],g1,g2,g3,O'.trans O2⟩)
  (l:=il w h oi q none none none) (st:=st) ⟨⟨_,_,_,rfl⟩,X,[],rfl,ho,hc,jM,.refl _ _ _⟩
 simp only[aR]at hl;exact kk s1 fs a b c e1 X1 hl h1 h2 h3 O1
theorem Dz(n:Nat){st:St}(X:Src 1 st){oi q:Nat}(hq:q=oi+1)(dJ:2≤oi)(ho:st[oi]? =some (.list []))(hc:st[q]? =some (.list [])){w h:Int}{m:Nat}(hm:m≤3):
  ∃(af:St) (fs:List fz) (DW ry Dq:Option V),aw (.var 7) [] (ex PG (ae PG (n+3)) fL) (aD 0 1 m) (il w h oi q none none none) st=some (il w h oi q DW ry Dq,af)∧Src 1 af∧fs.length=m∧af[oi]? =some (.list (fs.map bQ))∧af[q]? =some (.list (fs.map fun f=>cv f.col))∧
   (∀f∈fs,u7 q af f)∧ao 1 (q+1) st af:=vd n X hq dJ ho hc hm fun x1 x2 x3 x4 x5 x6 x7 x8 x9 M' x11 x12=>⟨x1,x2,x3,x4,x5,x6,x7,x8,x9,M',x11,x12⟩
noncomputable def jJ(o1 o2 o3 o4 o5 o6 o7 o8 o9 o10 o11 o12 o13 o14 o15:Option V):Loc:=[some (.lst 0),o1,o2,o3,o4,o5,o6,o7,o8,o9,o10,o11,o12,o13,o14,o15,none,none,none,none,none,none,none,none]
theorem Hm(w h)(oi q)(o7 o8 o9):il w h oi q o7 o8 o9=jJ (some (.lst 1)) (some (.int 4)) (some (.int w)) (some (.int h)) (some (.lst oi)) (some (.lst q)) o7 o8 o9 none none none none none none:=rfl
theorem u7.fl'(F:u7 q st f)(p:st<+:af):fu af.length af f:=by
 haveI hle:=p.length_le;haveI F':=F.fl;exact⟨F.K,F.ne,by haveI:=F'.c1;exact aO 0x222100010200011102001 rt hle this,ag p F.c2,by haveI:=F'.p1;exact aO 0x222100010200011102001 rt hle this,ag p F.p2,F.o0,F.o1,F.al⟩
theorem ve n(X:Src 1 st)(hq:q=oi+1)(dJ:2≤oi){fs:List fz}(jK:fs≠[])(hl:fs.length≤3)(ho:st[oi]? =some (.list (fs.map bQ)))(hF:∀f∈fs,u7 q st f){o2 o3 o4 o6 o7 o8 o9 o10 o11 o12 o13 o14 o15:Option V}{GG:Prop}(kk:∀af K7 sh,ex PG (ae PG (n+2)) ((.ite (.cmp .Eq (.call (.cst (.fn 677)) (.cons (.loc 1) (.cons (.cst (.int (3))) .nil))) (.cst (.int (0)))) (.seq (.asg (.var 5) (.bin .Add (.bin .Add (.bin .Add (.lst (.cons (.tup (.cons (.cst (.str (Str.ofString "push"))) (.cons (.call (.cst (.fn 684)) (.cons (.loc 1) (.cons (.lst (.cons (.cst (.int (255))) (.cons (.cst (.int (77))) (.cons (.cst (.int (0))) .nil)))) .nil))) (.cons (.cst (.str (Str.ofString "normal"))) (.cons (.cst (.none)) .nil))))) .nil)) (.slice .gm (.loc 5))) (.lst (.cons (.tup (.cons (.cst (.str (Str.ofString "pop"))) .nil)) .nil))) (.slice .dZ (.loc 5)))) .skip) .skip)) (jJ (some (.lst 1)) o2 o3 o4 (some (.lst oi)) o6 o7 o8 o9 o10 o11 o12 o13 o14 o15) st=some (.next,jJ (some (.lst 1)) o2 o3 o4 (some (.lst K7)) o6 o7 o8 o9 o10 o11 o12 o13 o14 o15,af)→Src 1 af→Ops af.length af K7 sh fs→ao 1 2 st af→2≤K7→GG):GG:=by
 refine eh (n+1) X (top:=3) (by decide) (by decide) fun d s1 e1 d0 d1 X1 O1=>?_;have K8:=(cN ho)
 by_cases hd:d=0
 ·have DX:(d==0)=true:=by simpa using hd
  obtain⟨f,r,rfl⟩:∃f r,fs=f::r:=by
   cases fs with
   |nil=>exact absurd rfl jK
   |cons f r=>exact⟨f,r,rfl⟩
  generalize qn:s1++[Cell.list [V.int 255,V.int 77,V.int 0]]=s2;have p2:s1<+:s2:=qn▸List.prefix_append _ _;haveI g2:s2[s1.length]? =some (.list [V.int 255,V.int 77,V.int 0]):=by refine qn▸?_;simp
  haveI l1:=O1.len;refine lx n (X1.pre p2) g2 (aO 0x22221100280002001201011102101 rt dJ K8 l1) (by decide) (by decide) fun v s3 e3 hv X3 O3=>?_;refine tJ hv fun o eq1 q0 q1=>?_;obtain rfl:=eq1;have A3:ao 1 2 st s3:=(O1.trans (.aK p2)).trans O3;haveI o3i:s3[oi]? =some (.list (bQ f::r.map bQ)):=A3.get ho (aJ 0x2122100100110680002101 rt dJ);haveI Yc:V.tup [V.str (Str.ofString "push"),V.int o,V.str (Str.ofString "normal"),V.none]=bz o:=rfl;haveI Yd:V.tup [V.str (Str.ofString "pop")]=fv:=rfl;generalize hvr:r.map bQ=vr at *;haveI hvl:vr.length≤3:=by refine hvr▸?_;rw[List.length_map];simp at hl;exact aJ 0x22310000210001 rt hl
  generalize zj:s3++[Cell.list [bz o]]=sA;have pA:s3<+:sA:=zj▸List.prefix_append _ _;haveI gA:sA[s3.length]? =some (.list [bz o]):=by refine zj▸?_;simp
  haveI oA:=ag pA o3i;generalize Tx:sA++[Cell.list [bQ f]]=sB;have pB:sA<+:sB:=Tx▸List.prefix_append _ _;haveI gB:sB[sA.length]? =some (.list [bQ f]):=by refine Tx▸?_;simp
  haveI Ye:=ag pB gA;haveI oB:=ag pB oA;generalize Tz:sB++[Cell.list [bz o,bQ f]]=sC;have pC:sB<+:sC:=Tz▸List.prefix_append _ _;haveI gC:sC[sB.length]? =some (.list [bz o,bQ f]):=by refine Tz▸?_;simp
  haveI oC:=ag pC oB;generalize TA:sC++[Cell.list [fv]]=sD;have pD:sC<+:sD:=TA▸List.prefix_append _ _;haveI gD:sD[sC.length]? =some (.list [fv]):=by refine TA▸?_;simp
  haveI Yg:=ag pD gC;haveI oD:=ag pD oC;generalize TB:sD++[Cell.list [bz o,bQ f,fv]]=sE;have pE:sD<+:sE:=TB▸List.prefix_append _ _;haveI gE:sE[sD.length]? =some (.list [bz o,bQ f,fv]):=by refine TB▸?_;simp
  haveI oE:=ag pE oD;generalize TC:sE++[Cell.list vr]=sG;have pG:sE<+:sG:=TC▸List.prefix_append _ _;haveI gG:sG[sE.length]? =some (.list vr):=by refine TC▸?_;simp
  haveI Yh:=ag pG gE;generalize TF:sG++[Cell.list (bz o::bQ f::fv::vr)]=sH;have pH:sG<+:sH:=TF▸List.prefix_append _ _;haveI gH:sH[sG.length]? =some (.list (bz o::bQ f::fv::vr)):=by rw[←TF];simp
  haveI Yi:s3<+:sH:=(((((pA.trans pB).trans pC).trans pD).trans pE).trans pG).trans pH;haveI hH:0+1+1+1+vr.length≤100000:=aJ 0x2238bac810011111101222200310001 rt hvl;refine kk sH sG.length (some o) ?_ (X3.pre Yi) ⟨(cN gH),?_,?_,?_⟩ (A3.trans (.aK Yi)) ?_
  ·exact gf 0xe (S.ite (E.cmp CmpOp.Eq (E.call (E.cst (V.fn 677)) (E.cons (E.loc 1) (E.cons (E.cst (V.int 3)) E.nil))) (E.cst (V.int 0))) (S.seq (S.asg (cD.var 5) (E.bin Operator.Add (E.bin Operator.Add (E.bin Operator.Add (E.lst (E.cons (E.tup (E.cons (E.cst (V.str (Str.ofString "push"))) (E.cons (E.call (E.cst (V.fn 684)) (E.cons (E.loc 1) (E.cons (E.lst (E.cons (E.cst (V.int 255)) (E.cons (E.cst (V.int 77)) (E.cons (E.cst (V.int 0)) E.nil)))) E.nil))) (E.cons (E.cst (V.str (Str.ofString "normal"))) (E.cons (E.cst V.none) E.nil))))) E.nil)) (E.slice Sl.gm (E.loc 5))) (E.lst (E.cons (E.tup (E.cons (E.cst (V.str (Str.ofString "pop"))) E.nil)) E.nil))) (E.slice Sl.dZ (E.loc 5)))) S.skip) S.skip) (jJ (some (V.lst 1)) o2 o3 o4 (some (V.lst oi)) o6 o7 o8 o9 o10 o11 o12 o13 o14 o15) st _ e1 _ DX ((V.int o,s3)) (by simp! [Kf,Kg,Um,kl,e1,DX,qn,e3,Yc,zj,oA,d7,zJ,jO,U7,U6,List.take_succ_cons,List.take_zero,List.drop_succ_cons,List.drop_zero,Tx,Ye,gB,Tz,Yd,TA,Yg,gD,TB,oE,TC,Yh,gG,hH,TF]) _ (Z6 _ (aA _ o3i)) _ (Sh (aA _ (List.getElem?_concat_length)) (List.getElem?_concat_length) (Nat.le_of_ble_eq_true rt)) _ (Sh (aA _ (List.getElem?_concat_length)) (List.getElem?_concat_length) (Nat.le_of_ble_eq_true rt)) (([V.lst (List.length sE)],sG)) (by simp! [Kf,Kg,Um,kl,e1,DX,qn,e3,Yc,zj,oA,d7,zJ,jO,U7,U6,List.take_succ_cons,List.take_zero,List.drop_succ_cons,List.drop_zero,Tx,Ye,gB,Tz,Yd,TA,Yg,gD,TB,oE,TC,Yh,gG,hH,TF]) (([V.lst (List.length sG)],sH)) (by simp! [Kf,Kg,Um,kl,e1,DX,qn,e3,Yc,zj,oA,d7,zJ,jO,U7,U6,List.take_succ_cons,List.take_zero,List.drop_succ_cons,List.drop_zero,Tx,Ye,gB,Tz,Yd,TA,Yg,gD,TB,oE,TC,Yh,gG,hH,TF])
  ·refine gH.symm▸?_;refine hvr▸?_;rfl
  ·intro o' e;cases e;exact⟨q0,q1⟩
  ·intro f' oM;exact((hF f' oM).only A3 (aC 0x221110022100111020021 rt hq)).fl' Yi
  ·haveI:=A3.len;haveI:=pA.length_le;haveI:=pB.length_le;haveI:=pC.length_le;haveI:=pD.length_le;haveI:=pE.length_le;haveI:=pG.length_le;(rename_i q5 q4 q3 q2 q1 q0;exact l90 0x222222222200210000180011807001706001605001504001403001302001201011102101 rt dJ K8 q5 q4 q3 q2 q1 q0 this)
 ·haveI DX:(d==0)=false:=by simpa using hd
  refine kk s1 oi none ?_ X1 ⟨by haveI:=O1.len;exact aO 0x222100010102001200011 rt K8 this,?_,(fun o e=>nomatch e),?_⟩ O1 dJ
  ·exact gf 0x2 (S.ite (E.cmp CmpOp.Eq (E.call (E.cst (V.fn 677)) (E.cons (E.loc 1) (E.cons (E.cst (V.int 3)) E.nil))) (E.cst (V.int 0))) (S.seq (S.asg (cD.var 5) (E.bin Operator.Add (E.bin Operator.Add (E.bin Operator.Add (E.lst (E.cons (E.tup (E.cons (E.cst (V.str (Str.ofString "push"))) (E.cons (E.call (E.cst (V.fn 684)) (E.cons (E.loc 1) (E.cons (E.lst (E.cons (E.cst (V.int 255)) (E.cons (E.cst (V.int 77)) (E.cons (E.cst (V.int 0)) E.nil)))) E.nil))) (E.cons (E.cst (V.str (Str.ofString "normal"))) (E.cons (E.cst V.none) E.nil))))) E.nil)) (E.slice Sl.gm (E.loc 5))) (E.lst (E.cons (E.tup (E.cons (E.cst (V.str (Str.ofString "pop"))) E.nil)) E.nil))) (E.slice Sl.dZ (E.loc 5)))) S.skip) S.skip) (jJ (some (V.lst 1)) o2 o3 o4 (some (V.lst oi)) o6 o7 o8 o9 o10 o11 o12 o13 o14 o15) st _ e1 _ DX
  ·exact O1.get ho (aJ 0x2121111200100110680002101 rt dJ)
  ·intro f' oM;exact((hF f' oM).only O1 (aC 0x221110021111200111020021 rt hq)).fl
theorem DA(n:Nat){st:St}(X:Src 1 st){oi q:Nat}(hq:q=oi+1)(dJ:2≤oi){fs:List fz}(jK:fs≠[])(hl:fs.length≤3)(ho:st[oi]? =some (.list (fs.map bQ)))(hF:∀f∈fs,u7 q st f){o2 o3 o4 o6 o7 o8 o9 o10 o11 o12 o13 o14 o15:Option V}:
  ∃af K7 sh,ex PG (ae PG (n+2)) ((.ite (.cmp .Eq (.call (.cst (.fn 677)) (.cons (.loc 1) (.cons (.cst (.int (3))) .nil))) (.cst (.int (0)))) (.seq (.asg (.var 5) (.bin .Add (.bin .Add (.bin .Add (.lst (.cons (.tup (.cons (.cst (.str (Str.ofString "push"))) (.cons (.call (.cst (.fn 684)) (.cons (.loc 1) (.cons (.lst (.cons (.cst (.int (255))) (.cons (.cst (.int (77))) (.cons (.cst (.int (0))) .nil)))) .nil))) (.cons (.cst (.str (Str.ofString "normal"))) (.cons (.cst (.none)) .nil))))) .nil)) (.slice .gm (.loc 5))) (.lst (.cons (.tup (.cons (.cst (.str (Str.ofString "pop"))) .nil)) .nil))) (.slice .dZ (.loc 5)))) .skip) .skip)) (jJ (some (.lst 1)) o2 o3 o4 (some (.lst oi)) o6 o7 o8 o9 o10 o11 o12 o13 o14 o15) st=some (.next,jJ (some (.lst 1)) o2 o3 o4 (some (.lst K7)) o6 o7 o8 o9 o10 o11 o12 o13 o14 o15,af)∧
   Src 1 af∧Ops af.length af K7 sh fs∧ao 1 2 st af∧2≤K7:=ve n X hq dJ jK hl ho hF fun x1 x2 x3 x4 x5 x6 x7 x8=>⟨x1,x2,x3,x4,x5,x6,x7,x8⟩
theorem Ops.take{b:Nat}{st af:St}{oi:Nat}{sh:Option Int}{fs:List fz}(X:Ops b st oi sh fs)(o:ao 1 2 st af)(h:2≤oi)(hF:∀f∈fs,2≤f.ci∧2≤f.pi):Ops b af oi sh fs:=
 ⟨X.lt,o.get X.KW (aJ 0x2122100100110680002101 rt h),X.UD,fun f hf=>by
  haveI F:=X.L6 f hf;haveI h1:=(hF f hf).1;haveI h2:=(hF f hf).2
  exact⟨F.K,F.ne,F.c1,o.get F.c2 (aJ 0x2122100100110680002101 rt h1),F.p1,o.get F.p2 (aJ 0x2122100100110680002101 rt h2),F.o0,F.o1,F.al⟩⟩
theorem DB(n:Nat){b0:Nat}{st:St}{sh:Option Int}{fs:List fz}(X:Ops b0 st oi sh fs)(hb:b0≤st.length)(hq:st[q]? =some (.list (fs.map fun f=>cv f.col)))(hw:w=2∨w=3)(hh:h=2∨h=3)
  (G0:st[se]? =some (.inst [(47,.int 4),(36,.int 2),(3,.int w),(4,.int h)])) (KZ:st[ti]? =some (.list (ks.map jF))) (hK:jH w h ks) {GG:Prop} (kk:∀af,res (ex PG (ae PG (n+19)) (.seq ((.asg (.var 12) (.call (.cst (.fn 614)) (.cons (.loc 5) (.cons (.loc 10) (.cons (.lst (.cons (.tup (.cons (.cst (.int (0))) (.cons (.cst (.int (0))) (.cons (.loc 3) (.cons (.loc 4) .nil))))) .nil)) .nil)))))) (.seq ((.asg (.var 13) (.call (.cst (.fn 614)) (.cons (.loc 5) (.cons (.loc 10) (.cons (.loc 11) .nil)))))) (.seq ((.asg (.var 14) (.comp [none,none,none,some 6,some 2,some 5,some 3] (.var 1) .dY (.cons (.loc 4) .nil) (.cst (.bool true)) fM))) (.seq ((.asg (.var 15) (.comp [none,none] (.var 1) .seq (.aF (.loc 12) 14 .nil) (.cst (.bool true)) eN))) (.seq ((.ret (.and (.cmp .Eq (.loc 15) (.loc 14)) (.cmp .Eq (.comp [none,none] (.var 1) .seq (.aF (.loc 13) 14 .nil) (.cst (.bool true)) k7) (.loc 14))))) .skip)))))
   (jJ (some (.lst 1)) (some (.int 4)) (some (.int w)) (some (.int h)) (some (.lst oi)) (some (.lst q)) o7 o8 o9 (some (.obj 659 se)) (some (.lst ti)) none none none none) st)=some (.ret (.bool true),af)→GG):GG:=by
 generalize qi:st++[Cell.list [jF (0,0,w,h)]]=s1;have p1:st<+:s1:=qi▸List.prefix_append _ _;haveI g1:s1[st.length]? =some (.list ([(0,0,w,h)].map jF)):=by refine qi▸?_;simp
 haveI hk0:∀k∈[((0,0,w,h):Tl)],GZ w h k:=fun k hk=>by
  rw[List.mem_singleton]at hk;subst hk;exact⟨Int.le_refl _,Int.le_refl _,by dsimp only;exact aJ 0x2210221001100310022100271 rt hw,by dsimp only;exact aJ 0x2210221001100310022100271 rt hh,by dsimp only;exact aJ 0x200700701230 rt,by dsimp only;exact aJ 0x200700701230 rt⟩
 haveI l1:=p1.length_le;refine kq (n+9) (X.pre p1) (aO 0x222100000102001200001 rt hb l1) (w:=w) (h:=h) (aJ 0x21202121a10000310022100271 rt hw) (aJ 0x21202121a10000310022100271 rt hh) (aJ 0x2210221001100310022100271 rt hw) (aJ 0x2210221001100310022100271 rt hh) (ag p1 G0) hk0 g1 fun s2 rv ri2 rs2 e2 C2 p2=>?_;haveI l2:=p2.length_le;refine kq (n+9) ((X.pre p1).pre p2) (bS 0x2222100000103001302001200001 rt hb l1 l2) (w:=w) (h:=h) (aJ 0x21202121a10000310022100271 rt hw) (aJ 0x21202121a10000310022100271 rt hh) (aJ 0x2210221001100310022100271 rt hw) (aJ 0x2210221001100310022100271 rt hh) (ag p2 (ag p1 G0)) hK.ok (ag p2 (ag p1 KZ)) fun s3 hi3 ri3 rs3 e3 C3 p3=>?_;haveI l3:=p3.length_le;haveI Ln:=(p1.trans p2).trans p3;refine u6 (n+15) (w:=w) (h:=h) (X.pre Ln) (yZ 0x22222100000104001403001302001200001 rt hb l1 l2 l3) (ag Ln hq) (aJ 0x21202121cc10000310022100271 rt hw) (aJ 0x21202121cc10000310022100271 rt hh) fun ac4 s4 e4 p4 a4 G4=>?_;generalize yQ:s4++[Cell.list ac4]=s5 at G4;have p5:s4<+:s5:=yQ▸List.prefix_append _ _;have C2':=((C2.pre p3).pre p4).pre p5;refine sS (n+18) C2' (aJ 0x21202121fd810000310022100271 rt hh) (aJ 0x21202121fd810000310022100271 rt hw) fun s6 i6 q6 e6 p6 g6 m6 r6=>?_;refine ku (n+19) (i:=i6) (w:=w) (h:=h) (D:=KY (oZ sh fs) [(0,0,w,h)] (fun _ _=>zc)) (aJ 0x21202121cc10000310022100271 rt hw) (aJ 0x21202121cc10000310022100271 rt hh) g6 m6 (fun j q e=>by haveI:=r6 j q e;rwa [Int.zero_add]at this) fun ac7 s7 e7 p7 a7 G7=>?_;generalize hs8:s7++[Cell.list ac7]=s8 at G7;have p8:s7<+:s8:=hs8▸List.prefix_append _ _;haveI G7':jI s8 s7.length w h (oZ sh fs):=G7.congr fun x y x0 x1 y0 y1=>u3 (.inr ⟨(0,0,w,h),.head _,(hY (w:=w) (h:=h) (l:=0) (t:=0)).mpr ⟨x0,by exact fy 0x2200701200400070041 rt x1,y0,by exact fy 0x2200701200400070041 rt y1⟩⟩);haveI Yj:=(p6.trans p7).trans p8;haveI q1:=xi G7' (G4.pre Yj);have C3':=((C3.pre p4).pre p5).pre Yj;refine sS (n+18) C3' (aJ 0x21202121fd810000310022100271 rt hh) (aJ 0x21202121fd810000310022100271 rt hw) fun s9 i9 q9 e9 p9 g9 m9 r9=>?_;refine ku (n+19) (i:=i9) (w:=w) (h:=h) (D:=KY (oZ sh fs) ks (fun _ _=>zc)) (aJ 0x21202121cc10000310022100271 rt hw) (aJ 0x21202121cc10000310022100271 rt hh) g9 m9 (fun j q e=>by haveI:=r9 j q e;rwa [Int.zero_add]at this) fun Yk rz UJ EK a10 G10=>?_;generalize DC:rz++[Cell.list Yk]=tU at G10;have Lk:rz<+:tU:=DC▸List.prefix_append _ _;haveI Yl:jI tU rz.length w h (oZ sh fs):=G10.congr fun x y x0 x1 y0 y1=>u3 (.inr (hK.cov x y x0 x1 y0 y1));haveI q2:=xi Yl (G4.pre (Yj.trans ((p9.trans EK).trans Lk)));refine kk tU ?_;unfold jJ;haveI Ym:V.tup [V.int 0,V.int 0,V.int w,V.int h]=jF (0,0,w,h):=rfl;generalize q6.map V.lst=vq6 at *;generalize q9.map V.lst=vq9 at *;simp! [kj,BM,Ym,qi,e2,e3,dQ _ h (aJ 0x21202121fd810000310022100271 rt hh),e4,a4,yQ,C2'.obj,e6,g6,e7,a7,hs8,q1,C3'.obj,e9,g9,Tt,UJ,a10,DC,q2]
theorem K9(n:Nat)(X:Ops b0 st oi sh fs)(hb:b0≤st.length)(hq:st[q]? =some (.list (fs.map fun f=>cv f.col)))(hw:w=2∨w=3)(hh:h=2∨h=3)
  (G0:st[se]? =some (.inst [(47,.int 4),(36,.int 2),(3,.int w),(4,.int h)])) (KZ:st[ti]? =some (.list (ks.map jF))) (hK:jH w h ks):
  ∃af,res (ex PG (ae PG (n+19)) (.seq ((.asg (.var 12) (.call (.cst (.fn 614)) (.cons (.loc 5) (.cons (.loc 10) (.cons (.lst (.cons (.tup (.cons (.cst (.int (0))) (.cons (.cst (.int (0))) (.cons (.loc 3) (.cons (.loc 4) .nil))))) .nil)) .nil)))))) (.seq ((.asg (.var 13) (.call (.cst (.fn 614)) (.cons (.loc 5) (.cons (.loc 10) (.cons (.loc 11) .nil)))))) (.seq ((.asg (.var 14) (.comp [none,none,none,some 6,some 2,some 5,some 3] (.var 1) .dY (.cons (.loc 4) .nil) (.cst (.bool true)) fM))) (.seq ((.asg (.var 15) (.comp [none,none] (.var 1) .seq (.aF (.loc 12) 14 .nil) (.cst (.bool true)) eN))) (.seq ((.ret (.and (.cmp .Eq (.loc 15) (.loc 14)) (.cmp .Eq (.comp [none,none] (.var 1) .seq (.aF (.loc 13) 14 .nil) (.cst (.bool true)) k7) (.loc 14))))) .skip)))))
   (jJ (some (.lst 1)) (some (.int 4)) (some (.int w)) (some (.int h)) (some (.lst oi)) (some (.lst q)) o7 o8 o9 (some (.obj 659 se)) (some (.lst ti)) none none none none) st)=some (.ret (.bool true),af):=DB n X hb hq hw hh G0 KZ hK fun x1 x2=>⟨x1,x2⟩
theorem jH.rev(H:jH w h ks):jH w h ks.reverse:=
 ⟨fun k hk=>H.ok k (List.mem_reverse.mp hk),fun x y a b c d=>by
  obtain⟨k,hk,e⟩:=H.cov x y a b c d
  exact⟨k,List.mem_reverse.mpr hk,e⟩⟩
theorem Hn(n:Nat)(ns:List Int):∃af,ae PG (n+20) 727 [.lst 0] [.list (ns.map .int)]=some (.bool true,af):=by
 refine Hq (K1 (n+18) ns) fun a b e0=>?_;generalize aag:[Cell.list (ns.map V.int)]=Iy at e0⊢;generalize TG:[Cell.list (ns.map V.int),Cell.list [.int a,.int b]]=st1 at e0;have X1:Src 1 st1:=⟨by decide,a,b,by rw[←TG];rfl⟩;have l1:st1.length=2:=by rw[←TG];rfl
 refine cK (nC (n+18) X1 (top:=2) (by decide) (by decide)) fun d2 s2 e2 d20 d21 X2 O2=>?_;obtain⟨d3,s3,e3,d30,d31,X3,O3⟩:=nC (n+18) X2 (top:=2) (by decide) (by decide);obtain⟨w,hw⟩:∃w:Nat,2+d2=(w:Int):=⟨(2+d2).toNat,by exact fy 0x2211102121102202200700212500021200750021201360100201002124671000131 rt d20 (iq _)⟩;obtain⟨h,hh⟩:∃h:Nat,2+d3=(h:Int):=⟨(2+d3).toNat,by exact fy 0x2211102121102202200700212500021200750021201360100201002124671000131 rt d30 (iq _)⟩;have w23:w=2∨w=3:=fy 0x212121022111102211110212123100221002700070021251210041000131 rt d20 d21 hw;have h23:h=2∨h=3:=fy 0x212121022111102211110212123100221002700070021251210041000131 rt d30 d31 hh;have l3:=O3.len;have l2:=O2.len;generalize rd:s3++[Cell.list []]=s4;have p4:s3<+:s4:=rd▸List.prefix_append _ _;have l4:s4.length=s3.length+1:=by rw[←rd];simp
 have g4:s4[s3.length]? =some (.list []):=by rw[←rd];simp
 generalize yQ:s4++[Cell.list []]=s5;have p5:s4<+:s5:=yQ▸List.prefix_append _ _;have g5:s5[s4.length]? =some (.list []):=by rw[←yQ];simp
 have g5':=ag p5 g4;obtain⟨d6,s6,e6,d60,Yn,X6,O6⟩:=nC (n+18) ((X3.pre p4).pre p5) (top:=3) (by decide) (by decide);obtain⟨m,hm⟩:∃m:Nat,1+d6=(m:Int):=⟨(1+d6).toNat,by exact fy 0x2211102121102202200700112500011200750011201360100201001124671000131 rt d60 (iq _)⟩;obtain⟨s7,fs,o7,o8,o9,e7,X7,f1,f2,f3,f4,O7⟩:=Dz (n+16) X6 (oi:=s3.length) (q:=s4.length) l4 (aO 0x22221002100201001002001211021 rt l1 l3 l2) (O6.get g5' (aO 0x2122211111200100110680201001002001211021 rt l1 l3 l2)) (O6.get g5 (bS 0x212122211111200100110680113020021201001302001211021 rt l1 l3 l2 l4)) (w:=w) (h:=h) (m:=m) (fy 0x22123100000070011251310041 rt Yn hm);have fne:fs≠[]:=fun e=>by rw[e]at f1;simp at f1;lia
 have x1:ex PG (ae PG (n+19)) ((.asg (.var 1) (.call (.cst (.fn 670)) (.cons (.loc 0) .nil)))) (jJ none none none none none none none none none none none none none none none) Iy=some (.next,jJ (some (.lst 1)) none none none none none none none none none none none none none none,st1):=by
  unfold jJ;simp! [e0]
 have x2:ex PG (ae PG (n+19)) ((.asg (.vars [2,3,4]) (.tup (.cons (.cst (.int 4)) (.cons (.bin .Add (.cst (.int 2)) (.call (.cst (.fn 677)) (.cons (.loc 1) (.cons (.cst (.int 2)) .nil)))) (.cons (.bin .Add (.cst (.int 2)) (.call (.cst (.fn 677)) (.cons (.loc 1) (.cons (.cst (.int 2)) .nil)))) .nil)))))) (jJ (some (.lst 1)) none none none none none none none none none none none none none none) st1=some (.next,jJ (some (.lst 1)) (some (.int 4)) (some (.int w)) (some (.int h)) none none none none none none none none none none none,s3):=by
  unfold jJ;simp! [e2,e3,hw,hh]
 have x3:ex PG (ae PG (n+19)) ((.asg (.vars [5,6]) (.tup (.cons (.lst .nil) (.cons (.lst .nil) .nil))))) (jJ (some (.lst 1)) (some (.int 4)) (some (.int w)) (some (.int h)) none none none none none none none none none none none) s3=some (.next,il w h s3.length s4.length none none none,s5):=by
  unfold jJ il;simp! [rd,yQ]
 have x4:ex PG (ae PG (n+19)) ((.loop (.var 7) .dY (.cons (.bin .Add (.cst (.int 1)) (.call (.cst (.fn 677)) (.cons (.loc 1) (.cons (.cst (.int 3)) .nil)))) .nil) fL)) (il w h s3.length s4.length none none none) s5=some (.next,il w h s3.length s4.length o7 o8 o9,s7):=by
  unfold il at e7⊢;simp! [e6,hm,dQ _ m (fy 0x22121fd8100000070011251310041 rt Yn hm),e7]
 obtain⟨s8,oi,sh,x5,X8,OP,O8,dJ⟩:=DA (n+17) X7 (oi:=s3.length) (q:=s4.length) l4 (aO 0x22221002100201001002001211021 rt l1 l3 l2) fne (fZ 0x2122123100001000211070011251310041 rt Yn hm f1) f2 f4 (o2:=some (.int 4)) (o3:=some (.int w)) (o4:=some (.int h)) (o6:=some (.lst s4.length)) (o7:=o7) (o8:=o8) (o9:=o9) (o10:=none) (o11:=none) (o12:=none) (o13:=none) (o14:=none) (o15:=none);have l5:=p5.length_le;have l6:=O6.len;have l7:=O7.len;have l8:=O8.len;have c8:s8[s4.length]? =some (.list (fs.map fun f=>cv f.col)):=O8.get f3 (bS 0x212122212100100110680113020021201001302001211021 rt l1 l3 l2 l4);have e9:=yW (n+17) (.int 4) (.int 2) (.int w) (.int h) s8 (y7 0x22222210100280005001504001403001301001112021021 rt l4 l5 l6 l7 l8);generalize K4:s8++[Cell.inst [(47,.int 4),(36,.int 2),(3,.int w),(4,.int h)]]=s9 at e9;have p9:s8<+:s9:=K4▸List.prefix_append _ _;have l9:s9.length=s8.length+1:=by rw[←K4];simp
 have g9:s9[s8.length]? =some (.inst [(47,.int 4),(36,.int 2),(3,.int w),(4,.int h)]):=by rw[←K4];simp
 have x6:ex PG (ae PG (n+19)) ((.asg (.var 10) (.call (.cst (.fn 659)) (.cons (.loc 2) (.cons (.cst (.int 2)) (.cons (.loc 3) (.cons (.loc 4) .nil))))))) (jJ (some (.lst 1)) (some (.int 4)) (some (.int w)) (some (.int h)) (some (.lst oi)) (some (.lst s4.length)) o7 o8 o9 none none none none none none) s8=
   some (.next,jJ (some (.lst 1)) (some (.int 4)) (some (.int w)) (some (.int h)) (some (.lst oi)) (some (.lst s4.length)) o7 o8 o9 (some (.obj 659 s8.length)) none none none none none,s9):=by
  exact gf 0x0 (S.asg (cD.var 10) (E.call (E.cst (V.fn 659)) (E.cons (E.loc 2) (E.cons (E.cst (V.int 2)) (E.cons (E.loc 3) (E.cons (E.loc 4) E.nil)))))) (jJ (some (V.lst 1)) (some (V.int 4)) (some (V.int ↑w)) (some (V.int ↑h)) (some (V.lst oi)) (some (V.lst (List.length s4))) o7 o8 o9 none none none none none none) s8 _ e9
 refine cK (nC (n+18) (X8.pre p9) (top:=2) (by decide) (by decide)) fun d10 rz UJ TH Yo Vg O10=>?_;obtain⟨z,hz⟩:∃z:Nat,1+d10=(z:Int):=⟨(1+d10).toNat,by exact fy 0x2211102121102202200700112500011200750011201360100201001124671000131 rt TH (iq _)⟩;have aJ:=O10.len;refine b9 (Hi (n+18) rz (aO 0x22210100280001001112021021 rt l9 aJ) w23 h23 (s:=z) (fy 0x212121022111102211110212122100211002700070011251210041000131 rt TH Yo hz)) fun ks UI W7=>?_;generalize DC:rz++[Cell.list (ks.map jF)]=tU at UI;have Lk:rz<+:tU:=DC▸List.prefix_append _ _;have fy:=Lk.length_le;have g11:tU[rz.length]? =some (.list (ks.map jF)):=by rw[←DC];simp
 have x7:ex PG (ae PG (n+19)) ((.asg (.var 11) (.call (.cst (.fn 532)) (.cons (.loc 3) (.cons (.loc 4) (.cons (.bin .Add (.cst (.int 1)) (.call (.cst (.fn 677)) (.cons (.loc 1) (.cons (.cst (.int 2)) .nil)))) .nil)))))) (jJ (some (.lst 1)) (some (.int 4)) (some (.int w)) (some (.int h)) (some (.lst oi)) (some (.lst s4.length)) o7 o8 o9 (some (.obj 659 s8.length)) none none none none none) s9=
   some (.next,jJ (some (.lst 1)) (some (.int 4)) (some (.int w)) (some (.int h)) (some (.lst oi)) (some (.lst s4.length)) o7 o8 o9 (some (.obj 659 s8.length)) (some (.lst rz.length)) none none none none,tU):=by
  exact gf 0x0 (S.asg (cD.var 11) (E.call (E.cst (V.fn 532)) (E.cons (E.loc 3) (E.cons (E.loc 4) (E.cons (E.bin Operator.Add (E.cst (V.int 1)) (E.call (E.cst (V.fn 677)) (E.cons (E.loc 1) (E.cons (E.cst (V.int 2)) E.nil)))) E.nil))))) (jJ (some (V.lst 1)) (some (V.int 4)) (some (V.int ↑w)) (some (V.int ↑h)) (some (V.lst oi)) (some (V.lst (List.length s4))) o7 o8 o9 (some (V.obj 659 (List.length s8))) none none none none none) s9 _ UJ ((V.lst (List.length rz),tU)) (by simp! [UJ,hz,UI])
 refine cK (nC (n+18) (Vg.pre Lk) (top:=2) (by decide) (by decide)) fun Yp xj e12 aah aai YS Hl=>?_
 have x8:∃ti TJ Ah,ex PG (ae PG (n+19)) ((.ite (.cmp .Eq (.call (.cst (.fn 677)) (.cons (.loc 1) (.cons (.cst (.int 2)) .nil))) (.cst (.int 0))) (.seq (.asg (.var 11) (.slice .rev (.loc 11))) .skip) .skip)) (jJ (some (.lst 1)) (some (.int 4)) (some (.int w)) (some (.int h)) (some (.lst oi)) (some (.lst s4.length)) o7 o8 o9 (some (.obj 659 s8.length)) (some (.lst rz.length)) none none none none) tU=
   some (.next,jJ (some (.lst 1)) (some (.int 4)) (some (.int w)) (some (.int h)) (some (.lst oi)) (some (.lst s4.length)) o7 o8 o9 (some (.obj 659 s8.length)) (some (.lst ti)) none none none none,TJ)∧xj<+:TJ∧TJ[ti]? =some (.list (Ah.map jF))∧jH w h Ah:=by
  have g12:xj[rz.length]? =some (.list (ks.map jF)):=Hl.get g11 (YF 0x212212222211111200100110680007001116027021605001504001403001301001112021021 rt l4 l5 l6 l7 l8 l9 aJ)
  by_cases hd:Yp=0
  ·have DX:(Yp==0)=true:=by simpa using hd
   refine⟨xj.length,xj++[Cell.list (ks.map jF).reverse],ks.reverse,?_,List.prefix_append _ _,by simp,W7.rev⟩;unfold jJ;generalize ks.map jF=vk at *;exact gf 0x6 (S.ite (E.cmp CmpOp.Eq (E.call (E.cst (V.fn 677)) (E.cons (E.loc 1) (E.cons (E.cst (V.int 2)) E.nil))) (E.cst (V.int 0))) (S.seq (S.asg (cD.var 11) (E.slice Sl.rev (E.loc 11))) S.skip) S.skip) [some (V.lst 0),some (V.lst 1),some (V.int 4),some (V.int ↑w),some (V.int ↑h),some (V.lst oi),some (V.lst (List.length s4)),o7,o8,o9,some (V.obj 659 (List.length s8)),some (V.lst (List.length rz)),none,none,none,none,none,none,none,none,none,none,none,none] tU _ e12 _ DX _ (Z6 _ g12)
  ·have DX:(Yp==0)=false:=by simpa using hd
   refine⟨rz.length,xj,ks,?_,List.prefix_refl _,g12,W7⟩;exact gf 0x2 (S.ite (E.cmp CmpOp.Eq (E.call (E.cst (V.fn 677)) (E.cons (E.loc 1) (E.cons (E.cst (V.int 2)) E.nil))) (E.cst (V.int 0))) (S.seq (S.asg (cD.var 11) (E.slice Sl.rev (E.loc 11))) S.skip) S.skip) (jJ (some (V.lst 1)) (some (V.int 4)) (some (V.int ↑w)) (some (V.int ↑h)) (some (V.lst oi)) (some (V.lst (List.length s4))) o7 o8 o9 (some (V.obj 659 (List.length s8))) (some (V.lst (List.length rz))) none none none none) tU _ e12 _ DX
 obtain⟨ti,TJ,Ah,x8,Ln,g13,Z3⟩:=x8;have lF:=Hl.len;have La:=Ln.length_le;have A:ao 1 2 s9 TJ:=((O10.trans (.aK Lk)).trans Hl).trans (.aK Ln)
 have hFi:∀f∈fs,2≤f.ci∧2≤f.pi:=fun f hf=>by
  have F:=f4 f hf;have:=F.c1;have:=F.p1;rename_i q0;exact bS 0x22121021221102100021060102011002011113022021 rt l4 q0 this
 have Yq:=(OP.pre p9).take A dJ hFi;obtain⟨af,x9⟩:=K9 n Yq (y7 0x2222221100000105001504001403001302001110022021 rt l9 aJ fy lF La) (A.get (ag p9 c8) (bS 0x212122212100100110680113020021201001302001211021 rt l1 l3 l2 l4)) w23 h23 (A.get g9 (YF 0x2122222122212100100110680007001706001605001504001113024021201001302001211021 rt l1 l3 l2 l4 l5 l6 l7 l8)) g13 Z3 (o7:=o7) (o8:=o8) (o9:=o9);refine⟨af,ai (loc0:=jJ none none none none none none none none none none none none none none none) Rd rfl rfl ?_⟩;show res (ex PG (ae PG (n+19)) J8 _ _)=_;unfold J8;rw[fR x1,fR x2,fR x3,fR x4,Hm,fR x5,fR x6,fR x7,fR x8];exact x9
end
section
open PyProof.Rows PySem PySem.Calls PySem.W
set_option maxRecDepth 100000
noncomputable def GL:List (Str×GV):=[
 (Str.ofString "MOST_blend",.val (.int 255)),
 (Str.ofString "mixed",.val (.fn 28)),
 (Str.ofString "over",.val (.fn 33)),
 (Str.ofString "box_of",.val (.fn 38)),
 (Str.ofString "NOTHING",.val (.tup [.int 0,.int 0,.int 0,.int 0])),
 (Str.ofString "Canvas",.val (.fn 161)),
 (Str.ofString "MOST_colours",.val (.int 255)),
 (Str.ofString "weighted",.val (.fn 172)),
 (Str.ofString "dimmed",.val (.fn 177)),
 (Str.ofString "MOST_modes",.val (.int 255)),
 (Str.ofString "Pair",.val (.fn 229)),
 (Str.ofString "inner",.val (.fn 240)),
 (Str.ofString "blended_part",.val (.fn 247)),
 (Str.ofString "blended",.val (.fn 252)),
 (Str.ofString "MOST_layers",.val (.int 255)),
 (Str.ofString "laid",.val (.fn 259)),
 (Str.ofString "Layers",.val (.fn 304)),
 (Str.ofString "RULES",.val (.tup [.str (Str.ofString "nonzero"),.str (Str.ofString "evenodd")])),
 (Str.ofString "is_inside",.val (.fn 316)),
 (Str.ofString "step_of",.val (.fn 323)),
 (Str.ofString "ceiling",.val (.fn 330)),
 (Str.ofString "column_behind",.val (.fn 337)),
 (Str.ofString "check_rule",.val (.fn 344)),
 (Str.ofString "steps_of_row",.val (.fn 351)),
 (Str.ofString "spans_by",.val (.fn 358)),
 (Str.ofString "sample_spans",.val (.fn 365)),
 (Str.ofString "Side",.val (.fn 403)),
 (Str.ofString "side_between",.val (.fn 414)),
 (Str.ofString "sides_of_contour",.val (.fn 421)),
 (Str.ofString "sides_of",.val (.fn 429)),
 (Str.ofString "sides_between",.val (.fn 434)),
 (Str.ofString "FULL_ALPHA",.val (.int 255)),
 (Str.ofString "rounded_share",.val (.fn 441)),
 (Str.ofString "Mask",.val (.fn 514)),
 (Str.ofString "mask_of",.val (.fn 525)),
 (Str.ofString "tiles_of",.val (.fn 532)),
 (Str.ofString "common_tile",.val (.fn 539)),
 (Str.ofString "tile_of_box",.val (.fn 546)),
 (Str.ofString "FULL",.val (.int 255)),
 (Str.ofString "rectangle_of",.val (.fn 553)),
 (Str.ofString "share",.val (.fn 560)),
 (Str.ofString "thinned",.val (.fn 565)),
 (Str.ofString "paint_fill",.val (.fn 572)),
 (Str.ofString "let_all",.val (.fn 579)),
 (Str.ofString "clip_def",.val (.fn 586)),
 (Str.ofString "paint",.val (.fn 593)),
 (Str.ofString "laid_down",.val (.fn 600)),
 (Str.ofString "painted_tile",.val (.fn 607)),
 (Str.ofString "painted",.val (.fn 614)),
 (Str.ofString "Flat",.val (.fn 638)),
 (Str.ofString "Setting",.val (.fn 659)),
 (Str.ofString "_law_pool",.val (.fn 670)),
 (Str.ofString "_law_take",.val (.fn 677)),
 (Str.ofString "_law_one",.val (.fn 684)),
 (Str.ofString "_law_contour",.val (.fn 691)),
 (Str.ofString "_law_winding",.val (.fn 698)),
 (Str.ofString "_law_part",.val (.fn 705)),
 (Str.ofString "_law_over",.val (.fn 710)),
 (Str.ofString "_law_covered",.val (.fn 717)),
 (Str.ofString "_law_dot",.val (.fn 722)),
 (Str.ofString "law",.val (.fn 727)),
 (Str.ofString "len",.bi .len),
 (Str.ofString "int",.bi .int),
 (Str.ofString "max",.bi .ja),
 (Str.ofString "min",.bi .gj),
 (Str.ofString "tuple",.bi .tuple),
 (Str.ofString "list",.bi .list),
 (Str.ofString "sorted",.bi .sorted),
 (Str.ofString "range",.dY),
 (Str.ofString "zip",.zip),
 (Str.ofString "enumerate",.enum)
]
noncomputable def GG:GT:=fun x=>GL.lookup x
noncomputable def UK(o:Obj):Bool:=match o.cls with|.type c=> !(c=="list")|_=>true
noncomputable def nH(K:Frag):Bool:=K.all fun p=>UK p.2
noncomputable def fragOf(as:List Addr)(h:Heap):Frag:=as.filterMap fun a=>(h.get? a).bind fun o=>if UK o then some (a,o)else none
theorem tK{as:List Addr}{h:Heap}{a:Addr}{o:Obj}(e:(a,o)∈fragOf as h):h.get? a=some o∧UK o=true:=by
 refine gP fun GP kQ=>?_;unfold fragOf at e;obtain⟨b,_,hb⟩:=List.mem_filterMap.mp e;refine bO hb fun o' h1 hb=>dk hb fun hn hb=>?_;cases hb;refine kQ ?_;exact⟨h1,hn⟩
theorem Ho as h:(fragOf as h).In h:=fun a o e=>(tK (mem_lookup e)).1
theorem tL as h:nH (fragOf as h)=true:=List.all_eq_true.mpr fun p hp=>(tK (a:=p.1) (o:=p.2) hp).2
noncomputable def Yr(K:Frag):Bool:=GL.all (fun p=>NT K p.1 p.2)&&(PG.fns.all (fun p=>Bc K p.1 p.2)&&PG.cls.all (fun p=>uF K p.1 p.2))
noncomputable def pe(K:Frag):Bool×List S×Option (Option Value):=(Yr K,PG.fns.map (fun p=>mJ K GG p.1),nsIn K mainGlobals "law")
noncomputable def pf:Bool×List S×Option (Option Value):=(true,PG.fns.map (fun p=>p.2.body),some (some (.ref 727)))
theorem DE{α β:Type}{f g:α→β}:∀{l:List α},l.map f=l.map g→∀x∈l,f x=g x
 |[],_,_,hx=>nomatch hx
 |y::r,e,x,hx=>by
  obtain⟨e1,e2⟩:=List.cons.inj e;cases hx with
  |head=>exact e1
  |tail _ h=>exact DE e2 x h
theorem K'{K:Frag}(h:pe K=pf)(g:Gd K base):Jy prog w K base PG:=by
 haveI h1:Yr K=true:=congrArg (·.1) h;haveI h2:PG.fns.map (fun p=>mJ K GG p.1)=PG.fns.map (fun p=>p.2.body):=congrArg (·.2.1) h;unfold Yr at h1;simp only[Bool.and_eq_true,Bool.and_eq_true]at h1;obtain⟨hg,hf,hc⟩:=h1
 have TL:∀C c,PG.cls.lookup C=some c→dd K C c:=fun C c e=>by
  haveI q:uF K C c=true:=List.all_eq_true.mp hc (C,c) (mem_lookup e);exact dd.of q
 refine⟨fun a f e=>?_,TL⟩;haveI q:Bc K a f=true:=List.all_eq_true.mp hf (a,f) (mem_lookup e);haveI q2:mJ K GG a=f.body:=DE h2 (a,f) (mem_lookup e);exact sg.of q q2 g (rq.of g.X hg) TL
end
section
open PyProof.Rows PySem PySem.Calls PySem.W
set_option maxRecDepth 100000
set_option maxHeartbeats 0
noncomputable def Ys:List Addr:=[3,27,28,32,33,37,38,95,103,107,108,114,115,121,122,128,129,133,134,138,139,143,144,150,151,160,161,171,172,176,177,190,191,197,198,204,205,211,212,218,219,225,226,228,229,239,240,246,247,251,252,258,259,272,273,279,280,286,287,293,294,300,301,303,304,309,315,316,322,323,329,330,336,337,343,344,350,351,357,358,364,365,378,379,385,386,392,393,399,400,402,403,413,414,420,421,422,428,429,433,434,440,441,454,455,461,462,468,469,475,476,482,483,489,490,503,504,513,514,524,525,531,532,538,539,545,546,552,553,559,560,564,565,571,572,578,579,585,586,592,593,599,600,606,607,613,614,627,628,634,635,637,638,655,656,658,659,669,670,676,677,683,684,690,691,697,698,704,705,709,710,716,717,721,722,726,727]
noncomputable def IW:Hook where
 α:=Bool×List S×Option (Option Value)
 obs s:=pe (fragOf Ys s.heap)
 val _:=pf
 says _ h:=∃K:Frag,K.In h∧nH K=true∧pe K=pf
 of _ s e:=⟨fragOf Ys s.heap,Ho _ _,tL _ _,e⟩
 keeps _ h h' x k:=by
  obtain⟨K,a,b,c⟩:=x;exact⟨K,fun a' o e=>k _ _ (a a' o e),b,c⟩
theorem tM{w:World}{rA:Nat}{ann:Option Value}:∀{n:Nat} {s:SharedT} {t:Thread} {r:SharedT},TQ w rA ann n s t=some r→topRun treeTable pw w rA ann n s.abs t=some r.abs
 |0,_,_,_,h=>nomatch h
 |n+1,s,t,r,h=>by
  haveI h:(match through t with
   |true=>some s
   |false=>match stepOk rA ann t with
    |false=>none
    |true=>match UM (IZ IY) pw w s t with
     |some (s',t')=>TQ w rA ann n s' t'
     |none=>none)=some r:=h
  unfold topRun;cases ht:through t with
  |true=>rw[ht]at h;cases h;rfl
  |false=>
   rw[ht]at h;cases hk:stepOk rA ann t with
   |false=>rw[hk]at h;cases h
   |true=>
    rw[hk]at h
    have e1:UM (IZ IY) pw w s t=stepT (denote treeTable) pw w s t:=by
     rw[PySem.W.Fast.te10156331382660048174,PySem.W.Fast.te11892475500146522536,PySem.W.Fast.te14364793385576792824]
    dsimp only at h;rw[e1]at h;cases hs:stepT (denote treeTable) pw w s t with
    |none=>rw[hs]at h;cases h
    |some x=>
     obtain⟨s',t'⟩:=x;rw[hs]at h;dsimp only at h⊢;rw[stepT_spec hs];exact tM h
theorem nI{life:Life}:∀{l:List Obj} {t r:BT} {n:Nat},pg l t n=some r→(absHeap r (n+l.length) life).objs.toList=(absHeap t n life).objs.toList++l
 |[],t,r,n,h=>by cases h;simp
 |o::l,t,r,n,h=>by
  haveI h:(match((t.ins n o).get n).isSome with
   |true=>pg l (t.ins n o) (n+1)
   |false=>none)=some r:=h
  cases hi:((t.ins n o).get n).isSome with
  |false=>rw[hi]at h;cases h
  |true=>
   rw[hi]at h;have:=nI (life:=life) h;rw[absHeap_ins hi]at this;rw[show n+(o::l).length=n+1+l.length by rw[List.length_cons];exact aC 0x202101100221110200220 rt,this];simp[Heap.push]
theorem xk(h:toT s=some t):t.abs=s:=by
 unfold toT at h;obtain⟨r,hr,rfl⟩:=Option.map_eq_some_iff.mp h;have:=nI (life:=s.heap.life) hr;obtain⟨⟨⟨l⟩,life⟩,gens,drawn,toks,os⟩:=s;unfold SharedT.abs;dsimp only at this⊢
 have e:absHeap r l.length life=⟨⟨l⟩,life⟩:=by
  have h1:(absHeap BT.nil 0 life).objs.toList=[]:=rfl;rw[h1,List.nil_append,Nat.zero_add]at this;have h2:(absHeap r l.length life).life=life:=rfl;cases hh:absHeap r l.length life with
  |mk objs li=>
   rw[hh]at this h2;cases objs with
   |mk x=>cases this;cases h2;rfl
 rw[e]
theorem TN(w:World):((DY 6000 w).map fun t=>pe (fragOf Ys t.abs.heap))=some pf:=by kernel_rfl
theorem DF:LeftO pw vw DZ xt IW.obs IW.val 6000:=fun w=>by
 have l0:=Mf w;have l1:=Mg w;have l2:=TN w;unfold Md at l0;obtain⟨s0,hc,h0⟩:=Option.bind_eq_some_iff.mp l0;obtain⟨t,hd,h1⟩:=Option.map_eq_some_iff.mp h0;rw[hd]at l1 l2;have Yt:=Option.some.inj l1;have l2':=Option.some.inj l2;unfold DY at hd;rw[hc]at hd;obtain⟨t0,Ym,hg⟩:=Option.bind_eq_some_iff.mp (show(toT s0).bind _=some t from hd);unfold runC at hc;obtain⟨sB,hB,hf⟩:=Option.bind_eq_some_iff.mp hc;unfold Mb at hB;obtain⟨⟨sA,tA⟩,hA,hE⟩:=Option.bind_eq_some_iff.mp hB;unfold Ma at hA;obtain⟨s00,hT,hI⟩:=Option.bind_eq_some_iff.mp hA;have eS:I0 (opening pw)=start (opening pw):=by rw[PySem.W.Fast.te1435165496053646825]
 rw[eS]at hT hI
 have eI:L8 IY (opening pw) w 390 s00 (start (opening pw)).2=impGoT treeTable (opening pw) w 390 s00 (start (opening pw)).2:=by
  rw[PySem.W.Fast.te14789777615569096658,PySem.W.Fast.te14364793385576792824]
 rw[eI]at hI
 have eE:L9 IY (opening pw) w 1 sA.abs tA=importEnds treeTable (opening pw) w 1 sA.abs tA:=by
  rw[PySem.W.Fast.te10274390034422433532,PySem.W.Fast.te14364793385576792824]
 have hE':importEnds treeTable (opening pw) w 1 sA.abs tA=some sB:=eE▸hE;have eF:L' pw sB=fenceModules? pw sB:=by rw[PySem.W.Fast.te14289696077712309145]
 rw[eF]at hf;have i1:=impGo_of hI;rw[xk hT]at i1;have i2:=importEnds_mono 5609 _ _ _ _ (imp_go i1 hE')
 have fen:fencedOpening treeTable pw w 6000=some s0:=by
  unfold fencedOpening;rw[i2];exact hf
 have run:=tM hg;rw[xk Ym]at run;rw[Bool.and_eq_true]at h1;obtain⟨z1,z2⟩:=h1
 have top:topFrom treeTable pw w 6000 s0=some t.abs:=by
  unfold topFrom;rw[z1,run];show(match staticsOk (importedModules pw.main.body) s0.heap t.abs.heap&&namesBound pw t.abs.heap&&gensDone t.abs&&laidKept s0.heap t.abs.heap with|true=>_|false=>_)=_;rw[z2]
 have eO:opQ vw DZ (importedModules pw.main.body) xt true t.abs=openSeen vw DZ (importedModules pw.main.body) xt true t.abs:=by
  rw[PySem.W.Fast.te4187177175401517315]
 have Yt:openSeen vw DZ (importedModules pw.main.body) xt true t.abs=openGood vw DZ:=eO▸Yt;unfold openEnds;rw[fen];show(topFrom treeTable pw w 6000 s0).map _=_;rw[top];exact congrArg some (Prod.ext Yt l2')
theorem hdK(h:∃d UL,defOf vw PySem.Challenge.rw_nu0037_01.row.name=some (d,UL)∧PySem.Challenge.rw_nu0037_01.row.prog.theDef PySem.Challenge.rw_nu0037_01.row.name=some (d.params,d.body,d.scope)∧kwWritten? d.params.kwonlyargs d.params.kw_defaults=some UL∧
  WalkO vw DZ (XL vw []) IW.says PySem.Challenge.rw_nu0037_01.row.toRowW d UL fun f vs=>PySem.call f vs):PySem.Challenge.rw_nu0037_01.Holds:=by
 obtain⟨d,UL,e1,e2,e3,call⟩:=h;refine holds_law UN fun s=>?_
 exact holds_open (q:=vw) (loose:=DZ) (Xt:=xt) (XP:=XL vw []) (Yf:=IW.obs) (Ya:=IW.val) (YP:=IW.says) (N:=6000) DF IW.of IW.keeps
  (fun s e=>xl_of s (Bool.and_eq_true_iff.mp e).1) XL.keeps e1 e2 e3 (fun s e=>recFacts_of (Bool.and_eq_true_iff.mp e).2) rfl s (by kernel_rfl) ⟨rfl,rfl,rfl,rfl,rfl,by kernel_rfl⟩
  ⟨[.list []],by decide+kernel,by decide+kernel⟩ call
end
section
open PyProof.Rows PySem PySem.Calls PySem.W
set_option maxRecDepth 100000
noncomputable def jY(o:Obj):Obj:={o with data:=.freed}
theorem vf(h:Heap)(a:Addr):(h.update a jY).get? a=none:=by
 cases q:(h.update a jY).get? a with
 |none=>rfl
 |some o=>
  exfalso;obtain⟨e1,e2⟩:=Heap.get?_some_iff.mp q;obtain⟨objs,l⟩:=h;simp only[Heap.update,Array.getElem?_modify,if_true]at e1;refine iG (objs[a]?) (fun hx=>?_) fun x hx=>?_
  ·replace e1:=hx▸e1;cases e1
  ·rw[hx]at e1;simp at e1;subst e1;injection e2
theorem nJ{h:Heap}(hl:h.IsList a items)(x:h.Ns b m):(h.update a jY).Ns b m:=by
 refine x.sameBut (Heap.SameBut.update _ _ _) fun e=>?_;subst e;obtain⟨o,ho,hc,n,hd⟩:=hl;obtain⟨o',es,ep,Yu,pZ,_⟩:=x;replace Yu:=ho▸Yu;cases Yu;replace pZ:=hd▸pZ;cases pZ
theorem DG{K:Frag}(hl:h.IsList a items)(hn:nH K=true)(X:K.In h)(T:TopRead p loose mg mb h):Gd K (h.update a jY):=by
 refine⟨fun b o e=>?_,p,loose,mg,mb,nJ hl T.g,nJ hl T.b,?_,T.builtins,T.free⟩
 ·haveI hb:=X b o e
  rw[Heap.get?_update_other _ _ fun q=>?_]
  ·exact hb
  ·subst q
   obtain⟨o',ho,hc,n,hd⟩:=hl;replace ho:=hb▸ho;cases ho;haveI:=List.all_eq_true.mp hn _ (mem_lookup e);simp only[UK,hc]at this;injection this
 ·obtain⟨mc,h1,h2⟩:=T.nolimit
  exact⟨mc,nJ hl h1,h2⟩
theorem DH:∀{vs:List Value} {ns:List Int} {Z σ:List Addr} {h:Heap},IntsAre vs ns→aj Z σ h vs (ns.map V.int):=by
 intro vs ns Z σ h H
 induction H with
 |nil=>exact aj.nil
 |cons n t _ ih=>exact aj.cons (.int n t) ih
theorem DI{prog:Program}{w:World}{s:Shared}{a:Addr}{vs:List Value}{ns:List Int}{p:Program}{loose:List Str}{mg mb:Str→Option Value}{E:Value→Shared→Prop}{Q:Value→Shared→Prop}
  {K:Frag} (X:K.In s.heap) (Yv:nH K=true) (hK:pe K=pf) (T:TopRead p loose mg mb s.heap) (hl:s.heap.IsList a vs.toArray) (hI:IntsAre vs ns) (hn:ns.length≤63)
  (hlk:∃n,s.heap.get? a=some (W.listOf vs.toArray n))
  {af:St} (run:ae PG 20 727 [.lst 0] [.list (ns.map .int)]=some (.bool true,af))
  (hq:∀s',(∀b o,s.heap.get? b=some o→s'.heap.get? b=some o)→s'.gens=s.gens→s'.os=s.os→Q (.bool true) s'):
  codeAny (model prog w) callerA (.call (.ref 727) ⟨[.ref a],[]⟩) (fun r s'=>match r with|.ok (.ret v)=>Q v s'|.ok _=>False|.error e=>E e s') s:=by
 have g:=DG hl Yv X T;obtain⟨n,hg⟩:=hlk;haveI Nh:=vf s.heap a;haveI sb:=Heap.SameBut.update s.heap a jY;have A:=DH (Z:=[]) (σ:=[a]) (h:=s.heap) hI
 have R:Rel (s.heap.update a jY) [] [a] [.list (ns.map V.int)] s.heap:={
  keep:=fun b o e=>by
   haveI hb:b≠a:=fun q=>by cases q;replace e:=Nh▸e;cases e
   exact((sb.2 b hb)▸e)
  len:=rfl
  nd:=by simp
  fresh:=fY Nh
  apart:=fun b _ q=>nomatch q
  alive:=fun b q=>nomatch q
  bW:=fun b q=>nomatch q
  cell:=fun i c b e1 e2=>by
   cases i with
   |zero=>simp at e1 e2;subst e1 e2;exact⟨vs,n,hg,A,by simp[ah];exact Nat.le_trans (by assumption) (by decide)⟩
   |succ i=>injection e1}
 refine AF g (K' hK g) 20 run ⟨rfl,by decide+kernel,by decide+kernel⟩ R (.cons (.lst rfl) .nil) fun σ' v' s' R' V' X'=>?_;cases V';refine hq s' (fun b o e=>?_) X'.gens X'.os
 by_cases hb:b=a
 ·subst hb;exact X'.iJ b o rfl (fun q=>nomatch q) e
 ·exact X'.keep b o e (by simpa using hb) (fun q=>nomatch q)
end
section
open PyProof.Rows PySem PySem.Calls PySem.W
set_option maxRecDepth 100000
set_option maxHeartbeats 8000000
theorem Hp(ns:List Int)(hn:ns.length≤63):∃af,ae PG 20 727 [.lst 0] [.list (ns.map .int)]=some (.bool true,af):=Hn 0 ns
theorem tN{P:Params}{h:Heap}{a:Addr}{d:WData}{xs:List WData}(hd:d=.list xs)(ww:Well P h (.ref a) d){GG:Prop}(kk:∀vs:List Value,h.get? a=some (W.listOf vs.toArray 0)→GG):GG:=by
 cases ww with
 |list g _=>exact kk _ g
 |_=>cases hd
theorem yY(hd:d=.list xs)(ww:Well P h (.ref a) d):∃vs:List Value,h.get? a=some (W.listOf vs.toArray 0):=tN hd ww fun x1 x2=>⟨x1,x2⟩
theorem foo:PySem.Challenge.rw_nu0037_01.Holds:=hdK ⟨_,_,by rfl,by rfl,by rfl,(by
 intro w s₀ iK mg mb G Y fa o pm cd doc dV kV ho pZ hcd hD hmg hg args vals as Nw Yw hrd hwl Tj;obtain⟨K,KX,KN,KS⟩:=(show ∃K:Frag,K.In _∧nH K=true∧pe K=pf from Y);have X:=(Ground.X G).1;have V:=(Ground.X G).2;refine Ground.open G ?_;intro T B D TE TW
 wrow_args Nw Yw hrd hwl Tj
 all_goals (
  first|refine callC_kw (enter_call ?_)|refine enter_call ?_|refine callC_kw (enter_callW ?_)|refine enter_callW ?_|w_how
  w_top on
  clear hcd hD pZ ho)
 rename_i ns _ _ _ _ _ _ _ a vs _ hL _ hW _ hI _ hlen _;have TR:=topRead_of T
 have hfa:fa=727:=by
  have h1:=mg_of KX TR.g (show nsIn K mainGlobals "law"=some (some (.ref 727))from congrArg (·.2.2) KS);have h2:mg "law"=some (.ref fa):=hmg;rw[h1]at h2;cases h2;rfl
 subst hfa;have wJ:ns.length≤63:=by omega
 obtain⟨af,run⟩:=Hp ns wJ;obtain⟨Ea,Yx⟩:=yY rfl hW
 have UG:Ea.toArray=vs.toArray:=by
  obtain⟨o,h1,h2,n,h3⟩:=hL;rw[Yx]at h1;cases h1;cases h3;rfl
 rw[UG]at Yx;refine codeAny_mono (DI (K:=K) (E:=fun _ _=>False) (Q:=fun v s'=>GoodWG PySem.Challenge.rw_nu0037_01.row.claim (classAt s₀.heap) (ExcName.means s₀.heap) [ofPy (PyData.list (List.map PyData.int ns))] iK (.ok (.ret v)) s') KX KN KS TR hL hI wJ ⟨0,Yx⟩ run fun s' hk TP hos=>?_) fun r s' hr=>?_
 ·refine⟨.inl ⟨.bool true,.bool true,[],rfl,raisesW_false (by wrow_none_raised),.bool true,postW_of (by wrow_shape) (by wtm_val) (by w_fin),unshared_nil⟩,.of_keep hk,hos,.of_eq (TP.trans hg)⟩
 ·cases r with
  |ok fl=>cases fl<;>first|exact hr.elim|exact hr
  |error e=>exact hr.elim)⟩
end
end Mine.Internal
theorem PySem.Challenge.cw_nu0037_01_holds : PySem.Challenge.rw_nu0037_01.Holds :=
 Mine.Internal.foo
