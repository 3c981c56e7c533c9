import PyProof.Rows.All
import Wide.All
import OpenK.AllK
import Wide.FinOn
import Lean
import PySem.Challenge.RW_pq1089_01
set_option Elab.async false
set_option bootstrap.genMatcherCode false
set_option compiler.extract_closed false

set_option maxRecDepth 100000
set_option maxHeartbeats 1000000
set_option linter.unusedVariables false
namespace MineH
open PySem PySem.W
noncomputable def pw:Program:=PySem.Challenge.pw_pq1089_01
noncomputable def tab:List (DefRec×Nat):=@List.rec DefRec (fun _=>Nat->List (DefRec×Nat)) (fun _=>[]) (fun s _ f n=>(s,n % 1073741824)::f (n / 1073741824)) (pw.main.body.filterMap DefRec.ofStmt?) 0x1d2cfb4173732cedc6cb32f70724ca5bac73216cf14c65acc3b1169f04c2da0bc701666e5bb992b5ae262ecab4d84af6c75f6b4ae976abab15c6a8aad6aa7aa558e98a6d5ca3e9555685a294e9ea8251e719dd4099a6e4e65c98d32946594ae47939248fe44476368f1007d5fd3e5ed7c8f2799ea359b96f8cf6adb4321a26a0c164d9d2e989640b3609862b1795fca55c176279675b49757564241545688953551209455287b4ed421d1334e06d49d30199204905f4691d1611445c51439111290842c43409050f0fb3fc353b4f8
noncomputable def md (a:Nat):Value:=cond (Nat.blt a 31) (.str "siftwall.faults" 187) (cond (Nat.blt a 200) (.str "siftwall.fields" 235) (cond (Nat.blt a 214) (.str "siftwall.octets" 416) (cond (Nat.blt a 270) (.str "siftwall.packets" 439) (cond (Nat.blt a 348) (.str "siftwall.walk" 512) (.str "law_pq1089_01" 653)))))
noncomputable def st {β:Type} (n:Nat) (f:Nat->β):β:=n.rec (f 0) fun m _=>f m.succ
noncomputable def fo (q:Str) (v:Value) (a t e:Nat) (d:DefRec):List (Addr×(Params->Obj)):=
 st a fun a=>st t fun t=>st e fun e=>
 let l:=Value.int d.pos.line 0
 let f:=Value.str "/claim/cut.py"
 let b:=Value.bool true
 let i:=Value.int 181 0
 let r:=fun x=>Value.ref (a - x)
 let z:=Value.int 0 0
 [(a - 1,fun _=>⟨.type "code",none,.fields (.mk (.str d.name t::.str q t.succ::f t.succ.succ::l::.int d.params.args.length 0::z::z::.int 3 0::cond (List.any [374,428,454,466] (Nat.beq a)) (r 4::b::i::r 3::.none::.none::.none::[r 2,.int e 0,l,f e.succ]) (r 6::b::i::r 5::.none::r 4::r 3::[r 2,.int e 0,l,f e.succ]))),.mk []⟩),
  (a,fun _=>⟨.type "function",none,.func {d.data (md a) (r 1) .none with qualname:=q,defaults:=v},.mk []⟩)]
noncomputable def ap {α:Type} (a b:List α):List α:=a.rec b fun x _ r=>x::r
noncomputable def E (P:Params) (x:Str) (t:Nat) (v:Value):DictEntry:=⟨PyData.keyHash P x,.str x t,v⟩
noncomputable def dO (l:List DictEntry) (k:Nat):Obj:=⟨.type "dict",none,.dict (.mk l) k,.mk []⟩
noncomputable def cd (a n l t e d:Nat) (P:Params):Obj:=dO [E P "__module__" n (md (a - 3)),E P "__firstlineno__" (n+4) (.int l (n+3)),E P "__init__" t (.ref (a - 3)),E P "__static_attributes__" e (.ref (a - 2)),E P "__dict__" (e+2) (.ref (a+1)),E P "__weakref__" (e+4) (.ref (a+2)),E P "__doc__" (e+5) .none] d
noncomputable def cO (a:Nat) (n:Str) (b m s:List Value) (u:Option Value) (t:Nat) (w:String) (_:Params):Obj:=⟨.type "type",none,.cls ⟨n,b,.ref a::m,a - 1,n,true,[],s,false,none,false⟩,.mk [u,none,some (.str n t),some (.str n (t+8)),some (.builtin w),some (.bool true)]⟩
noncomputable def kl:List (Addr×(Params->Obj)):=
 let o:=Value.type "object"
 let x:=[.type "Exception",.type "BaseException",o]
 let y:=fun C:Str=>(pw.theClass C).elim [] fun x=>x.2.1.filterMap DefRec.ofStmt?
 (3,fun P=>let l:=tab.map fun r=>st (r.2 % 1024) fun e=>st (r.2 / 1048576) fun a=>E P r.1.name e.succ.succ (.ref a)
  dO (E P "__name__" 165 (md 466)::E P "__doc__" 166 .none::E P "__package__" 167 .none::E P "__loader__" 168 (.builtin "__main__.__loader__#opaque")::E P "__spec__" 169 .none::E P "__annotations__" 170 (.ref 6)::E P "__builtins__" 171 (.ref 4)::E P "__file__" 173 (.str "/claim/cut.py" 172)::E P "__cached__" 174 .none ::
   E P "WallFault" 218 (.ref 31)::E P "Misused" 234 (.ref 44)::ap (l.take 24) (E P "Packet" 485 (.ref 231)::ap ((l.drop 24).take 3) (E P "Scene" 565 (.ref 274)::l.drop 27))) 68) ::
 (30,fun P=>dO [E P "__module__" 196 (md 28),E P "__firstlineno__" 200 (.int 2 199),E P "__init__" 208 (.ref 28),E P "__static_attributes__" 211 (.ref 29),E P "__weakref__" 213 (.ref 32),E P "__doc__" 214 .none] 3) ::
 (31,cO 31 "WallFault" [.type "Exception"] x [.ref 44] (some (.ref 15)) 189 "Exception.__new__") ::
 (43,fun P=>dO [E P "__module__" 226 (md 28),E P "__firstlineno__" 230 (.int 8 229),E P "__static_attributes__" 231 (.ref 42),E P "__doc__" 232 .none] 2) ::
 (44,cO 44 "Misused" [.ref 31] (.ref 31::x) [] (some (.ref 35)) 219 "Exception.__new__") ::
 (230,cd 231 456 132 470 478 4)::(231,cO 231 "Packet" [o] [o] [] none 449 "object.__new__") ::
 (264,fun _=>⟨.type "tuple",none,.seq (.mk [.int 0 526,.str "input" 527]),.mk []⟩) ::
 (273,cd 274 521 168 538 558 4)::(274,cO 274 "Scene" [o] [o] [] none 514 "object.__new__") ::
 ((y "WallFault").flatMap (fo "WallFault.__init__" .none 28 201 206)++(y "Packet").flatMap (fo "Packet.__init__" .none 228 461 468)++(y "Scene").flatMap (fo "Scene.__init__" (.ref 264) 271 528 536)++
  tab.flatMap fun r=>fo r.1.name .none (r.2 / 1048576) (r.2 / 1024 % 1024) (r.2 % 1024) r.1)
noncomputable def hd.heap_1 (P:Params):Frag:=kl.map fun p=>(p.1,p.2 P)
noncomputable def as:List Addr:=kl.map (·.1)
noncomputable def hd:Hook:=kHook hd.heap_1 as fun _=>by kernel_rfl
end MineH
namespace MineH
open PySem PySem.W PySem.Calls PyProof.Rows
open PySem.W.Fast
noncomputable def topT (f:SharedT->Thread->Option (SharedT×Thread)) (k:Thread->Bool) (n:Nat):SharedT->Thread->Option SharedT:=n.rec (fun _ _=>none) fun _ g s t=>cond (through t) (some s) (cond (k t) ((f s t).bind fun r=>g r.1 r.2) none)
theorem topT_of {w:World} {s':SharedT} (n:Nat):∀ {s t},topT (stepT (denote treeTable) pw w) (stepOk 11 (some (.ref 6))) n s t=some s'->topRun treeTable pw w 11 (some (.ref 6)) n s.abs t=some s'.abs:=by
 induction n with
 | zero=>intro s t h;cases h
 | succ n ih=>
  intro s t h
  replace h:cond (through t) (some s) (cond (stepOk 11 (some (.ref 6)) t) ((stepT (denote treeTable) pw w s t).bind fun r=>topT _ _ n r.1 r.2) none)=some s':=h
  unfold topRun
  cases e:through t with
  | true=>rw [e] at h;exact congrArg (fun s=>some s.abs) (Option.some.inj h)
  | false=>
   cases k:stepOk 11 (some (.ref 6)) t with
   | false=>rw [e,k] at h;cases h
   | true=>
    rw [e,k] at h
    obtain ⟨r,h1,h2⟩:=Option.bind_eq_some_iff.mp h
    dsimp only
    rw [stepT_spec h1]
    exact ih h2
noncomputable def lq:Program:={pw with main:={pw.main with body:=pw.main.body.drop 64}}
noncomputable def lo:List Str:=pw.main.scope.names.map (·.1)
noncomputable def sT (w:World) (os:OsState):SharedT:=⟨(boot_heap w.params).objs.toList.foldr (fun o (f:Nat->BT->BT) n b=>f (n+1) (b.ins n o)) (fun _ b=>b) 0 .nil,11,{},.mk [],boot_drawn,boot_toks,os⟩
noncomputable def topF (w:World):=topT (tw10156331382660048174 (tw11892475500146522536 tw14364793385576792824) pw w) (tw6613529449190102663 11 (some (.ref 6)))
noncomputable def Xt (s:Shared):Bool:=recOk [] s
theorem run (w:World) (os:OsState):(topF w 2700 (sT w os) (topStub pw)).map (fun s=>(staticsOk (importedModules pw.main.body) (boot_heap w.params) s.abs.heap&&namesBound pw s.abs.heap&&gensDone s.abs&&laidKept (boot_heap w.params) s.abs.heap,
 tw4187177175401517315 lq lo (tw5923862056798008813 pw.main.body) Xt true s.abs,hd.obs s.abs))=some (true,openGood lq lo,hd.val w):=by kernel_rfl
theorem top_of {w:World} {N:Nat} {s f:Shared} (z1:(s.heap.isNs mainGlobals&&s.gens.size==0)=true) (z2:s.heap.objs.size=11) (z3:s.heap.nsMap mainGlobals "__annotations__"=some (.ref 6)) (t:topRun treeTable pw w 11 (some (.ref 6)) N s (topStub pw)=some f)
  (c:(staticsOk (importedModules pw.main.body) s.heap f.heap&&namesBound pw f.heap&&gensDone f&&laidKept s.heap f.heap)=true):topFrom treeTable pw w N s=some f:=by
 unfold topFrom
 rw [z1,z2,z3,t]
 dsimp only [Option.bind_some]
 rw [c]
theorem left:LeftO pw lq lo Xt hd.obs hd.val 2700:=fun w=>by
 obtain ⟨s,e,e'⟩:=Option.map_eq_some_iff.mp (boot_open (p:=pw) (N:=2700) (by kernel_rfl) (by kernel_rfl) (fun _=>by kernel_rfl) w)
 have r:=run w s.os
 unfold topF at r
 rw [<- te10156331382660048174,<- te11892475500146522536,<- te14364793385576792824,<- te6613529449190102663,<- te4187177175401517315,<- te5923862056798008813] at r
 obtain ⟨f,r1,r2⟩:=Option.map_eq_some_iff.mp r
 have t:=topT_of _ r1
 have a:∀ x:Heap×Array GenState×Drawn×Nat,x=(boot_heap w.params,Array.mk [],boot_drawn,boot_toks)->(sT w s.os).abs=⟨x.1,x.2.1,x.2.2.1,x.2.2.2,s.os⟩:=fun x h=>by rw [h];kernel_rfl
 rw [a _ e'] at t
 have o:=top_of (s:=s) ((congrArg (fun x=>x.1.isNs mainGlobals&&x.2.1.size==0) e').trans (by kernel_rfl)) ((congrArg (fun x=>x.1.objs.size) e').trans (by kernel_rfl)) ((congrArg (fun x=>x.1.nsMap mainGlobals "__annotations__") e').trans (by kernel_rfl)) t
  (by rw [show s.heap=_ from congrArg (·.1) e'];exact congrArg (·.1) r2)
 unfold openEnds
 rw [e]
 show (topFrom treeTable pw w 2700 s).map _=_
 rw [o]
 exact congrArg some (congrArg (·.2) r2)
end MineH
set_option genSizeOf false
namespace Mine
theorem ex0_2 {P Q:Prop} {G:Prop} (h:P/\Q) (k:P->Q->G):G:=k h.1 h.2
theorem ex0_3 {P Q R:Prop} {G:Prop} (h:P/\Q/\R) (k:P->Q->R->G):G:=k h.1 h.2.1 h.2.2
theorem ex0_4 {P Q R S:Prop} {G:Prop} (h:P/\Q/\R/\S) (k:P->Q->R->S->G):G:=k h.1 h.2.1 h.2.2.1 h.2.2.2
theorem ex0_5 {P Q R S T:Prop} {G:Prop} (h:P/\Q/\R/\S/\T) (k:P->Q->R->S->T->G):G:=k h.1 h.2.1 h.2.2.1 h.2.2.2.1 h.2.2.2.2
theorem ex0_6 {P Q R S T U:Prop} {G:Prop} (h:P/\Q/\R/\S/\T/\U) (k:P->Q->R->S->T->U->G):G:=k h.1 h.2.1 h.2.2.1 h.2.2.2.1 h.2.2.2.2.1 h.2.2.2.2.2
theorem ex0_7 {P Q R S T U V:Prop} {G:Prop} (h:P/\Q/\R/\S/\T/\U/\V) (k:P->Q->R->S->T->U->V->G):G:=k h.1 h.2.1 h.2.2.1 h.2.2.2.1 h.2.2.2.2.1 h.2.2.2.2.2.1 h.2.2.2.2.2.2
theorem ex0_8 {P Q R S T U V W:Prop} {G:Prop} (h:P/\Q/\R/\S/\T/\U/\V/\W) (k:P->Q->R->S->T->U->V->W->G):G:=k h.1 h.2.1 h.2.2.1 h.2.2.2.1 h.2.2.2.2.1 h.2.2.2.2.2.1 h.2.2.2.2.2.2.1 h.2.2.2.2.2.2.2
theorem ex1_1 {α:Sort _} {P:α->Prop} {G:Prop} (h:∃ a,P a) (k:∀ a,P a->G):G:=h.elim fun a h=>k a h
theorem ex1_2 {α:Sort _} {P Q:α->Prop} {G:Prop} (h:∃ a,P a/\Q a) (k:∀ a,P a->Q a->G):G:=h.elim fun a h=>k a h.1 h.2
theorem ex1_3 {α:Sort _} {P Q R:α->Prop} {G:Prop} (h:∃ a,P a/\Q a/\R a) (k:∀ a,P a->Q a->R a->G):G:=h.elim fun a h=>k a h.1 h.2.1 h.2.2
theorem ex1_4 {α:Sort _} {P Q R S:α->Prop} {G:Prop} (h:∃ a,P a/\Q a/\R a/\S a) (k:∀ a,P a->Q a->R a->S a->G):G:=h.elim fun a h=>k a h.1 h.2.1 h.2.2.1 h.2.2.2
theorem ex1_5 {α:Sort _} {P Q R S T:α->Prop} {G:Prop} (h:∃ a,P a/\Q a/\R a/\S a/\T a) (k:∀ a,P a->Q a->R a->S a->T a->G):G:=h.elim fun a h=>k a h.1 h.2.1 h.2.2.1 h.2.2.2.1 h.2.2.2.2
theorem ex2_1 {α β:Sort _} {P:α->β->Prop} {G:Prop} (h:∃ a b,P a b) (k:∀ a b,P a b->G):G:=h.elim fun a h=>h.elim fun b h=>k a b h
theorem ex2_2 {α β:Sort _} {P Q:α->β->Prop} {G:Prop} (h:∃ a b,P a b/\Q a b) (k:∀ a b,P a b->Q a b->G):G:=h.elim fun a h=>h.elim fun b h=>k a b h.1 h.2
theorem ex2_3 {α β:Sort _} {P Q R:α->β->Prop} {G:Prop} (h:∃ a b,P a b/\Q a b/\R a b) (k:∀ a b,P a b->Q a b->R a b->G):G:=h.elim fun a h=>h.elim fun b h=>k a b h.1 h.2.1 h.2.2
theorem ex2_4 {α β:Sort _} {P Q R S:α->β->Prop} {G:Prop} (h:∃ a b,P a b/\Q a b/\R a b/\S a b) (k:∀ a b,P a b->Q a b->R a b->S a b->G):G:=h.elim fun a h=>h.elim fun b h=>k a b h.1 h.2.1 h.2.2.1 h.2.2.2
theorem ex2_5 {α β:Sort _} {P Q R S T:α->β->Prop} {G:Prop} (h:∃ a b,P a b/\Q a b/\R a b/\S a b/\T a b) (k:∀ a b,P a b->Q a b->R a b->S a b->T a b->G):G:=h.elim fun a h=>h.elim fun b h=>k a b h.1 h.2.1 h.2.2.1 h.2.2.2.1 h.2.2.2.2
theorem ex2_6 {α β:Sort _} {P Q R S T U:α->β->Prop} {G:Prop} (h:∃ a b,P a b/\Q a b/\R a b/\S a b/\T a b/\U a b) (k:∀ a b,P a b->Q a b->R a b->S a b->T a b->U a b->G):G:=h.elim fun a h=>h.elim fun b h=>k a b h.1 h.2.1 h.2.2.1 h.2.2.2.1 h.2.2.2.2.1 h.2.2.2.2.2
theorem ex3_2 {α β γ:Sort _} {P Q:α->β->γ->Prop} {G:Prop} (h:∃ a b c,P a b c/\Q a b c) (k:∀ a b c,P a b c->Q a b c->G):G:=h.elim fun a h=>h.elim fun b h=>h.elim fun c h=>k a b c h.1 h.2
theorem ex3_3 {α β γ:Sort _} {P Q R:α->β->γ->Prop} {G:Prop} (h:∃ a b c,P a b c/\Q a b c/\R a b c) (k:∀ a b c,P a b c->Q a b c->R a b c->G):G:=h.elim fun a h=>h.elim fun b h=>h.elim fun c h=>k a b c h.1 h.2.1 h.2.2
theorem ex3_4 {α β γ:Sort _} {P Q R S:α->β->γ->Prop} {G:Prop} (h:∃ a b c,P a b c/\Q a b c/\R a b c/\S a b c) (k:∀ a b c,P a b c->Q a b c->R a b c->S a b c->G):G:=h.elim fun a h=>h.elim fun b h=>h.elim fun c h=>k a b c h.1 h.2.1 h.2.2.1 h.2.2.2
theorem ex3_5 {α β γ:Sort _} {P Q R S T:α->β->γ->Prop} {G:Prop} (h:∃ a b c,P a b c/\Q a b c/\R a b c/\S a b c/\T a b c) (k:∀ a b c,P a b c->Q a b c->R a b c->S a b c->T a b c->G):G:=h.elim fun a h=>h.elim fun b h=>h.elim fun c h=>k a b c h.1 h.2.1 h.2.2.1 h.2.2.2.1 h.2.2.2.2
theorem ex4_1 {α β γ δ:Sort _} {P:α->β->γ->δ->Prop} {G:Prop} (h:∃ a b c d,P a b c d) (k:∀ a b c d,P a b c d->G):G:=h.elim fun a h=>h.elim fun b h=>h.elim fun c h=>h.elim fun d h=>k a b c d h
theorem ex4_2 {α β γ δ:Sort _} {P Q:α->β->γ->δ->Prop} {G:Prop} (h:∃ a b c d,P a b c d/\Q a b c d) (k:∀ a b c d,P a b c d->Q a b c d->G):G:=h.elim fun a h=>h.elim fun b h=>h.elim fun c h=>h.elim fun d h=>k a b c d h.1 h.2
theorem ex4_3 {α β γ δ:Sort _} {P Q R:α->β->γ->δ->Prop} {G:Prop} (h:∃ a b c d,P a b c d/\Q a b c d/\R a b c d) (k:∀ a b c d,P a b c d->Q a b c d->R a b c d->G):G:=h.elim fun a h=>h.elim fun b h=>h.elim fun c h=>h.elim fun d h=>k a b c d h.1 h.2.1 h.2.2
theorem ex4_4 {α β γ δ:Sort _} {P Q R S:α->β->γ->δ->Prop} {G:Prop} (h:∃ a b c d,P a b c d/\Q a b c d/\R a b c d/\S a b c d) (k:∀ a b c d,P a b c d->Q a b c d->R a b c d->S a b c d->G):G:=h.elim fun a h=>h.elim fun b h=>h.elim fun c h=>h.elim fun d h=>k a b c d h.1 h.2.1 h.2.2.1 h.2.2.2
theorem ex5_1 {α β γ δ ε:Sort _} {P:α->β->γ->δ->ε->Prop} {G:Prop} (h:∃ a b c d e,P a b c d e) (k:∀ a b c d e,P a b c d e->G):G:=h.elim fun a h=>h.elim fun b h=>h.elim fun c h=>h.elim fun d h=>h.elim fun e h=>k a b c d e h
theorem ex5_3 {α β γ δ ε:Sort _} {P Q R:α->β->γ->δ->ε->Prop} {G:Prop} (h:∃ a b c d e,P a b c d e/\Q a b c d e/\R a b c d e) (k:∀ a b c d e,P a b c d e->Q a b c d e->R a b c d e->G):G:=h.elim fun a h=>h.elim fun b h=>h.elim fun c h=>h.elim fun d h=>h.elim fun e h=>k a b c d e h.1 h.2.1 h.2.2
theorem ex6_2 {α β γ δ ε ζ:Sort _} {P Q:α->β->γ->δ->ε->ζ->Prop} {G:Prop} (h:∃ a b c d e f,P a b c d e f/\Q a b c d e f) (k:∀ a b c d e f,P a b c d e f->Q a b c d e f->G):G:=h.elim fun a h=>h.elim fun b h=>h.elim fun c h=>h.elim fun d h=>h.elim fun e h=>h.elim fun f h=>k a b c d e f h.1 h.2
theorem ex7_1 {α β γ δ ε ζ η:Sort _} {P:α->β->γ->δ->ε->ζ->η->Prop} {G:Prop} (h:∃ a b c d e f g,P a b c d e f g) (k:∀ a b c d e f g,P a b c d e f g->G):G:=h.elim fun a h=>h.elim fun b h=>h.elim fun c h=>h.elim fun d h=>h.elim fun e h=>h.elim fun f h=>h.elim fun g h=>k a b c d e f g h
theorem nS {α:Type _} {x:α} {P:Prop} (h:none=some x):P:=Option.noConfusion rfl (heq_of_eq h)
theorem nt {b:Bool} (h:(!b)=true):b=false:=match b,h with
 | false,_=>rfl
theorem tnl {x c:Int} {n:Nat} (h1:x<=c) (h:c.toNat<=n):x.toNat<=n:=Nat.le_trans (Int.toNat_le_toNat h1) h
theorem F6 {x c:Int} {n:Nat} (h1:x<=c) (h:c.toNat<n):x.toNat<n:=Nat.lt_of_le_of_lt (Int.toNat_le_toNat h1) h
theorem nab {x c:Int} {n:Nat} (h0:0<=x) (h1:x<=c) (h:c.toNat<n):x.natAbs<n:=by
 rw [Int.ofNat.inj ((Int.natAbs_of_nonneg h0).trans (Int.toNat_of_nonneg h0).symm)];exact F6 h1 h
theorem Ga {x c:Int} {n:Nat} (h0:-c<=x) (h1:x<=c) (h:c.toNat<n):x.natAbs<n:=by
 rcases Int.le_total 0 x with z | z
 · exact nab z h1 h
 · rw [<- Int.natAbs_neg];exact nab (Int.neg_nonneg_of_nonpos z) (Int.neg_le_of_neg_le h0) h
theorem om1 {a b c:Nat} (h:a<=b:=by assumption) (k:Nat.ble b c=true:=by exact rfl):a<=c:=Nat.le_trans h (Nat.le_of_ble_eq_true k)
theorem om2 {a b c:Nat} (h:a<=b:=by assumption) (k:Nat.ble (b+1) c=true:=by exact rfl):a<c:=Nat.lt_of_le_of_lt h (Nat.le_of_ble_eq_true k)
theorem om3 {a b c:Int} (h:a<=b:=by assumption) (k:decide (b<=c)=true:=by exact rfl):a<=c:=Int.le_trans h (of_decide_eq_true k)
theorem om4 {a b c:Int} (h:a<=b:=by assumption) (k:decide (b<c)=true:=by exact rfl):a<c:=Int.lt_of_le_of_lt h (of_decide_eq_true k)
theorem i01 {i c:Int} (h:0<=i/\i<=c):0<=i+1/\i+1<=c+1:=⟨Int.add_nonneg h.1 (by decide),Int.add_le_add_right h.2 1⟩
noncomputable def Pr (a b:Type):Type:=a×b
noncomputable def Pr.f {a b:Type} (x:Pr a b):a:=x.1
noncomputable def Pr.s {a b:Type} (x:Pr a b):b:=x.2
instance neR {a b:Type} [i:Nonempty a] [j:Nonempty b]:Nonempty (Pr a b):=⟨(Classical.choice i,Classical.choice j)⟩
noncomputable def eps {α:Type} (i:Nonempty α) (P:α->Prop):α:=@Classical.epsilon α i P
theorem hk {α:Type} {i:Nonempty α} {P Q:α->Prop} (h:Q (eps i P)) (e:P=fun x=>¬ Q x) (a:α):Q a:=Classical.byContradiction fun hn=>by subst e;exact @Classical.epsilon_spec _ (fun a=>¬ Q a) ⟨a,hn⟩ h
@[reducible] noncomputable def st {a b c d p t:Type} (F:p->t->Prop) (P:a->b->c->d->p) (x:Pr a (Pr b (Pr c (Pr d t)))):Prop:=F (P x.f x.s.f x.s.s.f x.s.s.s.f) x.s.s.s.s
noncomputable def su {a b c d p t:Type} (F:p->t->Prop) (P:a->b->c->d->p) (x:Pr a (Pr b (Pr c (Pr d t)))):Prop:=F (P x.f x.s.f x.s.s.f x.s.s.s.f) x.s.s.s.s
@[reducible] noncomputable def e1 {a:Type} (P:a->Prop) (x:a):Prop:=P x
noncomputable def n1 {a:Type} (P:a->Prop) (x:a):Prop:=¬ P x
@[reducible] noncomputable def e2 {a b:Type} (P:a->b->Prop) (x:Pr a b):Prop:=P x.f x.s
noncomputable def n2 {a b:Type} (P:a->b->Prop) (x:Pr a b):Prop:=¬ P x.f x.s
@[reducible] noncomputable def e3 {a b c:Type} (P:a->b->c->Prop) (x:Pr a (Pr b c)):Prop:=P x.f x.s.f x.s.s
noncomputable def n3 {a b c:Type} (P:a->b->c->Prop) (x:Pr a (Pr b c)):Prop:=¬ P x.f x.s.f x.s.s
@[reducible] noncomputable def e4 {a b c d:Type} (P:a->b->c->d->Prop) (x:Pr a (Pr b (Pr c d))):Prop:=P x.f x.s.f x.s.s.f x.s.s.s
noncomputable def n4 {a b c d:Type} (P:a->b->c->d->Prop) (x:Pr a (Pr b (Pr c d))):Prop:=¬ P x.f x.s.f x.s.s.f x.s.s.s
theorem hk1 {P:a->Prop} [i:Nonempty _] (h:e1 P (eps i (n1 P))) a0:P a0:=hk (Q:=e1 P) h rfl a0
theorem hk2 {P:a->b->Prop} [i:Nonempty _] (h:e2 P (eps i (n2 P))) a0 b0:P a0 b0:=hk (Q:=e2 P) h rfl (a0,b0)
theorem hk3 {P:a->b->c->Prop} [i:Nonempty _] (h:e3 P (eps i (n3 P))) a0 b0 c0:P a0 b0 c0:=hk (Q:=e3 P) h rfl (a0,b0,c0)
theorem hk4 {P:a->b->c->d->Prop} [i:Nonempty _] (h:e4 P (eps i (n4 P))) a0 b0 c0 d0:P a0 b0 c0 d0:=hk (Q:=e4 P) h rfl (a0,b0,c0,d0)
theorem hk5 {P:a->b->c->d->e->Prop} [i:Nonempty _] (h:st e1 P (eps i (su n1 P))) a0 b0 c0 d0 e0:P a0 b0 c0 d0 e0:=hk (Q:=(st e1) P) h rfl (a0,b0,c0,d0,e0)
theorem hk6 {P:a->b->c->d->e->f->Prop} [i:Nonempty _] (h:st e2 P (eps i (su n2 P))) a0 b0 c0 d0 e0 f0:P a0 b0 c0 d0 e0 f0:=hk (Q:=(st e2) P) h rfl (a0,b0,c0,d0,e0,f0)
theorem hk7 {P:a->b->c->d->e->f->g->Prop} [i:Nonempty _] (h:st e3 P (eps i (su n3 P))) a0 b0 c0 d0 e0 f0 g0:P a0 b0 c0 d0 e0 f0 g0:=hk (Q:=(st e3) P) h rfl (a0,b0,c0,d0,e0,f0,g0)
theorem hk8 {P:a->b->c->d->e->f->g->h->Prop} [i:Nonempty _] (h:st e4 P (eps i (su n4 P))) a0 b0 c0 d0 e0 f0 g0 h0:P a0 b0 c0 d0 e0 f0 g0 h0:=hk (Q:=(st e4) P) h rfl (a0,b0,c0,d0,e0,f0,g0,h0)
theorem hk9 {P:a->b->c->d->e->f->g->h->j->Prop} [i:Nonempty _] (h:st (st e1) P (eps i (su (su n1) P))) a0 b0 c0 d0 e0 f0 g0 h0 j0:P a0 b0 c0 d0 e0 f0 g0 h0 j0:=hk (Q:=(st (st e1)) P) h rfl (a0,b0,c0,d0,e0,f0,g0,h0,j0)
theorem hk10 {P:a->b->c->d->e->f->g->h->j->k->Prop} [i:Nonempty _] (h:st (st e2) P (eps i (su (su n2) P))) a0 b0 c0 d0 e0 f0 g0 h0 j0 k0:P a0 b0 c0 d0 e0 f0 g0 h0 j0 k0:=hk (Q:=(st (st e2)) P) h rfl (a0,b0,c0,d0,e0,f0,g0,h0,j0,k0)
theorem hk11 {P:a->b->c->d->e->f->g->h->j->k->l->Prop} [i:Nonempty _] (h:st (st e3) P (eps i (su (su n3) P))) a0 b0 c0 d0 e0 f0 g0 h0 j0 k0 l0:P a0 b0 c0 d0 e0 f0 g0 h0 j0 k0 l0:=hk (Q:=(st (st e3)) P) h rfl (a0,b0,c0,d0,e0,f0,g0,h0,j0,k0,l0)
theorem hk12 {P:a->b->c->d->e->f->g->h->j->k->l->m->Prop} [i:Nonempty _] (h:st (st e4) P (eps i (su (su n4) P))) a0 b0 c0 d0 e0 f0 g0 h0 j0 k0 l0 m0:P a0 b0 c0 d0 e0 f0 g0 h0 j0 k0 l0 m0:=hk (Q:=(st (st e4)) P) h rfl (a0,b0,c0,d0,e0,f0,g0,h0,j0,k0,l0,m0)
theorem hk13 {P:a->b->c->d->e->f->g->h->j->k->l->m->n->Prop} [i:Nonempty _] (h:st (st (st e1)) P (eps i (su (su (su n1)) P))) a0 b0 c0 d0 e0 f0 g0 h0 j0 k0 l0 m0 n0:P a0 b0 c0 d0 e0 f0 g0 h0 j0 k0 l0 m0 n0:=hk (Q:=(st (st (st e1))) P) h rfl (a0,b0,c0,d0,e0,f0,g0,h0,j0,k0,l0,m0,n0)
theorem hk14 {P:a->b->c->d->e->f->g->h->j->k->l->m->n->o->Prop} [i:Nonempty _] (h:st (st (st e2)) P (eps i (su (su (su n2)) P))) a0 b0 c0 d0 e0 f0 g0 h0 j0 k0 l0 m0 n0 o0:P a0 b0 c0 d0 e0 f0 g0 h0 j0 k0 l0 m0 n0 o0:=hk (Q:=(st (st (st e2))) P) h rfl (a0,b0,c0,d0,e0,f0,g0,h0,j0,k0,l0,m0,n0,o0)
theorem hk15 {P:a->b->c->d->e->f->g->h->j->k->l->m->n->o->p->Prop} [i:Nonempty _] (h:st (st (st e3)) P (eps i (su (su (su n3)) P))) a0 b0 c0 d0 e0 f0 g0 h0 j0 k0 l0 m0 n0 o0 p0:P a0 b0 c0 d0 e0 f0 g0 h0 j0 k0 l0 m0 n0 o0 p0:=hk (Q:=(st (st (st e3))) P) h rfl (a0,b0,c0,d0,e0,f0,g0,h0,j0,k0,l0,m0,n0,o0,p0)
theorem hk16 {P:a->b->c->d->e->f->g->h->j->k->l->m->n->o->p->q->Prop} [i:Nonempty _] (h:st (st (st e4)) P (eps i (su (su (su n4)) P))) a0 b0 c0 d0 e0 f0 g0 h0 j0 k0 l0 m0 n0 o0 p0 q0:P a0 b0 c0 d0 e0 f0 g0 h0 j0 k0 l0 m0 n0 o0 p0 q0:=hk (Q:=(st (st (st e4))) P) h rfl (a0,b0,c0,d0,e0,f0,g0,h0,j0,k0,l0,m0,n0,o0,p0,q0)
theorem hk17 {P:a->b->c->d->e->f->g->h->j->k->l->m->n->o->p->q->r->Prop} [i:Nonempty _] (h:st (st (st (st e1))) P (eps i (su (su (su (su n1))) P))) a0 b0 c0 d0 e0 f0 g0 h0 j0 k0 l0 m0 n0 o0 p0 q0 r0:P a0 b0 c0 d0 e0 f0 g0 h0 j0 k0 l0 m0 n0 o0 p0 q0 r0:=hk (Q:=(st (st (st (st e1)))) P) h rfl (a0,b0,c0,d0,e0,f0,g0,h0,j0,k0,l0,m0,n0,o0,p0,q0,r0)
theorem hk21 {P:a->b->c->d->e->f->g->h->j->k->l->m->n->o->p->q->r->s->t->u->v->Prop} [i:Nonempty _] (h:st (st (st (st (st e1)))) P (eps i (su (su (su (su (su n1)))) P))) a0 b0 c0 d0 e0 f0 g0 h0 j0 k0 l0 m0 n0 o0 p0 q0 r0 s0 t0 u0 v0:P a0 b0 c0 d0 e0 f0 g0 h0 j0 k0 l0 m0 n0 o0 p0 q0 r0 s0 t0 u0 v0:=hk (Q:=(st (st (st (st (st e1))))) P) h rfl (a0,b0,c0,d0,e0,f0,g0,h0,j0,k0,l0,m0,n0,o0,p0,q0,r0,s0,t0,u0,v0)
theorem hk25 {P:a->b->c->d->e->f->g->h->j->k->l->m->n->o->p->q->r->s->t->u->v->w->y->z->A->Prop} [i:Nonempty _] (h:st (st (st (st (st (st e1))))) P (eps i (su (su (su (su (su (su n1))))) P))) a0 b0 c0 d0 e0 f0 g0 h0 j0 k0 l0 m0 n0 o0 p0 q0 r0 s0 t0 u0 v0 w0 y0 z0 A0:P a0 b0 c0 d0 e0 f0 g0 h0 j0 k0 l0 m0 n0 o0 p0 q0 r0 s0 t0 u0 v0 w0 y0 z0 A0:=hk (Q:=(st (st (st (st (st (st e1)))))) P) h rfl (a0,b0,c0,d0,e0,f0,g0,h0,j0,k0,l0,m0,n0,o0,p0,q0,r0,s0,t0,u0,v0,w0,y0,z0,A0)
instance neP:Nonempty PySem.Params:=⟨{strHash:=fun _=>0,shareClass:=fun _=>0,mergeTok:=id,idOf:=fun _=>0,idOfShared:=fun _ _=>0,followText:=fun _=>true,idOfImm:=fun _=>0}⟩
instance neS:Nonempty PySem.Shared:=⟨{}⟩
instance neA:Nonempty PySem.Around:=⟨{}⟩
instance neW:Nonempty PySem.World:=neP.elim fun p=>⟨⟨fun _ _=>0,p⟩⟩
end Mine
section
open Lean in
local macro_rules
  | `(tactic| obtain ⟨$ps,*⟩ := $e:term) => do
    let ps := ps.getElems
    let mut f ← `(tactic| fail)
    for j in [0, 1, 2, 3, 4, 5, 6, 7] do
      f ← `(tactic| first | refine $(mkIdent (.mkStr2 "Mine" s!"ex{j}_{ps.size - j}")) $e ?_ | $f:tactic)
    let mut c ← `(tactic| try clear $(⟨e⟩):ident)
    for p in ps do
      c ← `(tactic| ($c; try clear $(⟨p.raw[0][0][0][0]⟩):ident))
    `(tactic| first | focus ($f; $c; rintro $(← ps.mapM fun p => `(rintroPat| ($p:rcasesPatLo)))*) | rcases $e:term with ⟨$ps,*⟩)
local macro_rules
  | `(tactic| omega) => `(tactic| first | assumption | exact Mine.om1 | exact Mine.om2 | exact Mine.om3 | exact Mine.om4 | lia | omega (config := {}))
open Lean in
local macro_rules
  | `(tactic| exists $xs,*) => do
    let l := xs.getElems.back!.raw
    let c := l.isIdent
    let xs : Array Ident := (if c then xs.getElems else xs.getElems.pop).map fun x => ⟨x⟩
    let hs : Array Ident := if c then #[] else l[1].getArgs.map fun x => ⟨x⟩
    let mut p ← `(Mine.eps _ _)
    let mut t ← `(tactic| (refine no_implicit_lambda% ($(mkIdent (.mkStr2 "Mine" s!"hk{xs.size}")) ?_); (try unfold Mine.st); unfold $(mkIdent (.mkStr2 "Mine" s!"e{(xs.size-1)%4+1}"))))
    for x in xs do
      let q ← if x == xs.back! then pure p else `(Mine.Pr.f $p)
      t ← `(tactic| ($t; with_reducible generalize $q:term = $x))
      p ← `(Mine.Pr.s $p)
    if hs.isEmpty then `(tactic| (revert $xs*; $t)) else `(tactic| (revert $hs*; revert $xs*; $t; intro $[$hs]*))
namespace Mine
open PySem PySem.W PyProof.Rows PySem.SeqAt
theorem gP:Manifest.owners.lookup (String.ofList ['y','a','r','r','a','e','t','y','b'].reverse)=some Manifest.sig_bytearray:=by kernel_rfl
theorem lE:Manifest.owners.lookup (String.ofList ['r','o','t','a','r','e','t','i','_','y','a','r','r','a','e','t','y','b'].reverse)=some Manifest.sig_bytearray_iterator:=by kernel_rfl
theorem iO:Slot "bytearray" "__len__" "bytearray.__len__":=
 .of (owner:="bytearray") (n:="__len__") (by rw [typeLookup_type,builtinLookup_eq_fast];kernel_rfl) (by decide +kernel) (by decide +kernel) (by decide +kernel)
  (by first | exact .inl (by decide +kernel) | exact .inr (by decide +kernel)) (by rw [isSubtype_type];kernel_rfl)
theorem mS:entryFor table "bytearray.__len__"=some Builtin.«bytearray.__len__»:=entryFor_of_tree (by kernel_rfl)
theorem oO (a:Value):argsOk "bytearray.__len__" ⟨[a],[]⟩:=by
 unfold argsOk;rw [signature?_of (id:="bytearray.__len__") (n:=['_','_','n','e','l','_','_']) (o:=['y','a','r','r','a','e','t','y','b']) (by kernel_rfl) gP];kernel_rfl
theorem cX:Slot "bytearray" "__getitem__" "bytearray.__getitem__":=
 .of (owner:="bytearray") (n:="__getitem__") (by rw [typeLookup_type,builtinLookup_eq_fast];kernel_rfl) (by decide +kernel) (by decide +kernel) (by decide +kernel)
  (by first | exact .inl (by decide +kernel) | exact .inr (by decide +kernel)) (by rw [isSubtype_type];kernel_rfl)
theorem iE:entryFor table "bytearray.__getitem__"=some Builtin.«bytearray.__getitem__»:=entryFor_of_tree (by kernel_rfl)
theorem je (a b:Value):argsOk "bytearray.__getitem__" ⟨[a,b],[]⟩:=by
 unfold argsOk;rw [signature?_of (id:="bytearray.__getitem__") (n:=['_','_','m','e','t','i','t','e','g','_','_']) (o:=['y','a','r','r','a','e','t','y','b']) (by kernel_rfl) gP];kernel_rfl
theorem gJ:Slot "bytearray" "__iter__" "bytearray.__iter__":=
 .of (owner:="bytearray") (n:="__iter__") (by rw [typeLookup_type,builtinLookup_eq_fast];kernel_rfl) (by decide +kernel) (by decide +kernel) (by decide +kernel)
  (by first | exact .inl (by decide +kernel) | exact .inr (by decide +kernel)) (by rw [isSubtype_type];kernel_rfl)
theorem kS:entryFor table "bytearray.__iter__"=some Builtin.«bytearray.__iter__»:=entryFor_of_tree (by kernel_rfl)
theorem m9 (a:Value):argsOk "bytearray.__iter__" ⟨[a],[]⟩:=by
 unfold argsOk;rw [signature?_of (id:="bytearray.__iter__") (n:=['_','_','r','e','t','i','_','_']) (o:=['y','a','r','r','a','e','t','y','b']) (by kernel_rfl) gP];kernel_rfl
theorem bO:Slot "bytearray_iterator" "__next__" "bytearray_iterator.__next__":=
 .of (owner:="bytearray_iterator") (n:="__next__") (by rw [typeLookup_type,builtinLookup_eq_fast];kernel_rfl) (by decide +kernel) (by decide +kernel) (by decide +kernel)
  (by first | exact .inl (by decide +kernel) | exact .inr (by decide +kernel)) (by rw [isSubtype_type];kernel_rfl)
theorem fA:entryFor table "bytearray_iterator.__next__"=some Builtin.«bytearray_iterator.__next__»:=entryFor_of_tree (by kernel_rfl)
theorem gg (a:Value):argsOk "bytearray_iterator.__next__" ⟨[a],[]⟩:=by
 unfold argsOk;rw [signature?_of (id:="bytearray_iterator.__next__") (n:=['_','_','t','x','e','n','_','_']) (o:=['r','o','t','a','r','e','t','i','_','y','a','r','r','a','e','t','y','b']) (by kernel_rfl) lE];kernel_rfl
theorem gc:Slot "bytearray_iterator" "__iter__" "bytearray_iterator.__iter__":=
 .of (owner:="bytearray_iterator") (n:="__iter__") (by rw [typeLookup_type,builtinLookup_eq_fast];kernel_rfl) (by decide +kernel) (by decide +kernel) (by decide +kernel)
  (by first | exact .inl (by decide +kernel) | exact .inr (by decide +kernel)) (by rw [isSubtype_type];kernel_rfl)
theorem lj (a:Value):argsOk "bytearray_iterator.__iter__" ⟨[a],[]⟩:=by
 unfold argsOk;rw [signature?_of (id:="bytearray_iterator.__iter__") (n:=['_','_','r','e','t','i','_','_']) (o:=['r','o','t','a','r','e','t','i','_','y','a','r','r','a','e','t','y','b']) (by kernel_rfl) lE];kernel_rfl
theorem j6:entryFor table "bytearray_iterator.__iter__"=some Builtin.«dict_keyiterator.__iter__»:=
 entryFor_alias (id':="dict_keyiterator.__iter__") (by kernel_rfl) (by first | rfl | decide +kernel | (unfold String.splitOn;simp +decide [String.splitOnAux])) (by decide +kernel) (by kernel_rfl)
noncomputable abbrev baO (b:Array UInt8) (n:Nat):Obj:={cls:=.type "bytearray",data:=.bytearray b n}
noncomputable abbrev qq (a:Addr) (i:Int):Obj:={cls:=.type "bytearray_iterator",data:=.fields #[.ref a,rawInt i]}
section
variable {prog:Program} {w:World} {A:Around} {E:Value->Shared->Prop} {s:Shared}
theorem jC {M:Model} {a:Addr} {b:Array UInt8} {n:Nat} {Q:Array UInt8->Shared->Prop} (h:s.heap.get? a=some (baO b n)) (q:Q b s):wpAny M A (Builtin.Bytes.payload (.ref a)) Q E s:=by
 unfold Builtin.Bytes.payload Builtin.Bytes.payload?
 refine wpAny_bind (wpAny_bind (wpAny_load h ?_))
 exact wpAny_pure (wpAny_pure q)
theorem fQ {M:Model} {n:String} {a:Value} {Q:Value×List Value->Shared->Prop} (q:Q (a,[]) s):wpAny M A (slotArgs n 0 ⟨[a],[]⟩) Q E s:=wpAny_of_eq (by rfl) q
theorem rT {M:Model} {n:String} {a b:Value} {Q:Value×List Value->Shared->Prop} (q:Q (a,[b]) s):wpAny M A (slotArgs n 1 ⟨[a,b],[]⟩) Q E s:=wpAny_of_eq (by rfl) q
theorem BB {a:Addr} {b:Array UInt8} {n:Nat} {Q:Value->Shared->Prop} (h:s.heap.get? a=some (baO b n)) (hz:b.size<=16777216) (q:∀ tk t,Q (.int b.size t) {s with toks:=tk}):wpAny (model prog w) A (call (.builtin "len") [.ref a]) Q E s:=by
 have hT:s.TypeIs (.ref a) "bytearray":=⟨_,h,rfl⟩
 refine Calls.call_function_entry kind_len plain_len entry_len (args_len1 _) ?_
 unfold Builtin.«len»
 refine wpAny_bind (m:=oneArg "len" _) (wpAny_pure ?_)
 refine wpAny_bind (m:=callSpecial? (.ref a) "__len__") (wpAny_callSpecial?_slot (name:="__len__") hT iO
  (wpAny_call_entry iO hT mS ?_ (oO _)))
 unfold Builtin.«bytearray.__len__»
 refine wpAny_bind (fQ ?_)
 show wpAny _ _ (Builtin.Bytes.payload (.ref a)>>=_) _ _ s
 refine wpAny_bind (jC h ?_)
 refine wpAny_bind (wpAny_mkInt (wpAny_pure ⟨_,rfl,?_⟩))
 refine wpAny_bind (wpAny_holding (wpAny_pure ?_))
 refine wpAny_bind (wpAny_letGo ?_)
 show wpAny _ _ (if ((b.size:Nat):Int)<0 then _ else _) _ _ _
 rw [if_neg (by omega)]
 show wpAny _ _ (if ((b.size:Nat):Int) ≥ 2 ^ 63 then _ else _) _ _ _
 rw [if_neg (by omega)]
 exact wpAny_bind (wpAny_mkInt (wpAny_pure ⟨_,rfl,q _ _⟩))
theorem ya {a:Addr} {b:Array UInt8} {n:Nat} {Q:Value->Shared->Prop} (h:s.heap.get? a=some (baO b n)) (q:Q (.ref s.heap.objs.size) {s with heap:=s.heap.push (qq a 0)}):wpAny (model prog w) A (pyIter (.ref a)) Q E s:=by
 have hT:s.TypeIs (.ref a) "bytearray":=⟨_,h,rfl⟩
 refine wpAny_pyIter_slot hT gJ (wpAny_call_entry gJ hT kS ?_ (m9 _))
 unfold Builtin.«bytearray.__iter__»
 refine wpAny_bind (fQ ?_)
 show wpAny _ _ (newFields _ _>>=_) _ _ s
 unfold newFields
 refine wpAny_bind (wpAny_newObj_type ?_ (by size_fits))
 exact wpAny_pure ⟨_,rfl,"bytearray_iterator",_,⟨_,Heap.get?_push_size _ rfl,rfl⟩,bO.lookup,q⟩
theorem vH {I a:Addr} {i:Int} {Q:Value->Shared->Prop} (h:s.heap.get? I=some (qq a i)) (q:Q (.ref I) s):wpAny (model prog w) A (pyIter (.ref I)) Q E s:=by
 have hT:s.TypeIs (.ref I) "bytearray_iterator":=⟨_,h,rfl⟩
 refine wpAny_pyIter_slot hT gc (wpAny_call_entry gc hT j6 ?_ (lj _))
 show wpAny _ _ (ret (.ref I)) _ _ s
 exact wpAny_pure ⟨_,rfl,"bytearray_iterator",_,hT,bO.lookup,q⟩
theorem xT {I a:Addr} {b:Array UInt8} {n i:Nat} {x:UInt8} {Q:Option Value->Shared->Prop} (hI:s.heap.get? I=some (qq a i)) (ha:s.heap.get? a=some (baO b n)) (hx:b[i]?=some x)
  (q:∀ h' tk t,h'.get? I=some (qq a (i+1:Nat))->Heap.SameBut I s.heap h'->Q (some (.int x.toNat t)) {s with heap:=h',toks:=tk}):wpAny (model prog w) A (pyNext (.ref I)) Q E s:=by
 have hT:s.TypeIs (.ref I) "bytearray_iterator":=⟨_,hI,rfl⟩
 unfold pyNext
 refine wpAny_bind (wpAny_attempt (wpAny_callSpecial?_slot (name:="__next__") hT bO (wpAny_call_entry bO hT fA ?_ (gg _))))
 unfold Builtin.«bytearray_iterator.__next__»
 refine wpAny_bind (fQ ?_)
 show wpAny _ _ (field (.ref I) 0>>=_) _ _ s
 refine wpAny_bind (wpAny_field hI rfl (x:=.ref a) rfl ?_)
 show wpAny _ _ (load a>>=_) _ _ s
 refine wpAny_bind (wpAny_load ha ?_)
 show wpAny _ _ (field (.ref I) 1>>=_) _ _ s
 refine wpAny_bind (wpAny_field hI rfl (x:=rawInt i) rfl ?_)
 show wpAny _ _ (match b[(i:Int).toNat]? with | some c=>_ | none=>_) _ _ s
 rw [Int.toNat_natCast,hx]
 refine wpAny_bind (wpAny_setField hI rfl (by simp) ?_)
 refine wpAny_bind (wpAny_mkInt (wpAny_pure ⟨_,rfl,?_⟩))
 exact wpAny_pure (q _ _ _ (Heap.get?_update_self _ hI rfl) (Heap.SameBut.update ..))
theorem Ca {I a:Addr} {b:Array UInt8} {n:Nat} {Q:Option Value->Shared->Prop} (hh:A.handled=none) (hI:s.heap.get? I=some (qq a b.size)) (ha:s.heap.get? a=some (baO b n))
  (q:∀ h',Heap.ExtBut I s.heap h'->Q none {s with heap:=h'}):wpAny (model prog w) A (pyNext (.ref I)) Q E s:=by
 exists prog,w,A,E,s,I,a,b,n,Q,_ hh hI ha q
 have hT:s.TypeIs (.ref I) "bytearray_iterator":=⟨_,hI,rfl⟩
 unfold pyNext
 refine wpAny_bind (wpAny_attempt (wpAny_callSpecial?_slot (name:="__next__") hT bO (wpAny_call_entry bO hT fA ?_ (gg _))))
 unfold Builtin.«bytearray_iterator.__next__»
 refine wpAny_bind (fQ ?_)
 show wpAny _ _ (field (.ref I) 0>>=_) _ _ s
 refine wpAny_bind (wpAny_field hI rfl (x:=.ref a) rfl ?_)
 show wpAny _ _ (load a>>=_) _ _ s
 refine wpAny_bind (wpAny_load ha ?_)
 show wpAny _ _ (field (.ref I) 1>>=_) _ _ s
 refine wpAny_bind (wpAny_field hI rfl (x:=rawInt b.size) rfl ?_)
 show wpAny _ _ (match b[((b.size:Nat):Int).toNat]? with | some c=>_ | none=>_) _ _ s
 rw [Int.toNat_natCast,Array.getElem?_eq_none (Nat.le_refl _)]
 refine wpAny_bind (wpAny_rule ?_)
 refine wpAny_bind (wpAny_setField hI rfl (by simp) ?_)
 refine wpAny_bind (wpAny_letGo ?_)
 show wpAny _ _ (newExc (.type "StopIteration") []>>=_) _ _ _
 refine wpAny_bind ?_
 simp only [newExc,newTuple]
 refine wpAny_bind (wpAny_newObj_type ?_ (by size_fits))
 refine wpAny_bind (m:=firstArgMember _ _) (wpAny_of_eq (a:=Value.none) (by first | rfl | (simp only [firstArgMember];rfl)) ?_)
 refine wpAny_newObj_type ?_ (by size_fits)
 unfold raiseNew
 refine wpAny_bind (wpAny_handled ?_)
 first | rw [show A.in1.handled=none from hh] | rw [hh]
 refine wpAny_bind (wpAny_pure (wpAny_throw ?_))
 refine wpAny_bind (wpAny_isInstance (T:="StopIteration") (b:=true) ⟨_,Heap.get?_push_size _ rfl,rfl⟩ isSubtype_stop ?_)
 exact wpAny_pure (q _ (((Heap.SameBut.update ..).extBut.push _).push _))
theorem rU (b:Array UInt8) (lo hi:Nat):Builtin.Bytes.sliced b (lo:Nat) (hi:Nat) 1=b.extract lo hi:=by
 unfold Builtin.Bytes.sliced
 rw [sliceRange_one,List.filterMap_map]
 apply Array.toList_inj.mp
 rw [Array.toList_extract]
 apply List.ext_getElem?
 intro i
 have key:∀ (m lo:Nat),List.filterMap ((fun x=>b[x]?)∘fun x=>lo+x) (List.range m)=(b.toList.drop lo).take m:=by
  intro m
  induction m with
  | zero=>intro lo;simp
  | succ m ih=>
   intro lo
   rw [List.range_succ,List.filterMap_append,ih,List.take_add_one]
   congr 1
   simp only [List.filterMap_cons,List.filterMap_nil,Function.comp,List.getElem?_drop]
   rw [Array.getElem?_toList]
   cases b[lo+m]? <;> rfl
 show (List.filterMap ((fun x=>b[x]?)∘fun x=>lo+x) (List.range (hi - lo)))[i]?=_
 rw [key,List.extract_eq_take_drop]
noncomputable def kt (v:Value):Sem Value:=do
 if v==.none then return .none
 if (<- specialOf v "__index__").isNone then
  rule "bytes.slice.part-no-index";raiseError "TypeError" "slice indices must be integers or None or have an __index__ method"
 return rawInt (<- asIndex v)
theorem kH (s:Value):Builtin.Bytes.sliceParts s=(do
 let step <- kt (<- field s 2)
 if step==rawInt 0 then rule "bytes.slice.step-zero";raiseError "ValueError" "slice step cannot be zero"
 let start <- kt (<- field s 0)
 let stop <- kt (<- field s 1)
 return (start,stop,step)):=rfl
theorem mi {M:Model} {v:Value} {k:Option Int} {Q:Value->Shared->Prop} (hv:IsPart v k) (h:Q (rawPart k) s):wpAny M A (kt v) Q E s:=by
 cases hv with
 | none=>exact wpAny_pure h
 | int i t=>
  unfold kt
  rw [if_neg (show ¬ ((Value.int i t==Value.none)=true) from Bool.false_ne_true)]
  refine wpAny_bind (wpAny_specialOf (T:="int") (typeIs_int s i t) int_index ?_)
  simp only [Option.isNone_some,Bool.false_eq_true,if_false]
  exact wpAny_bind (wpAny_of_eq (a:=i) rfl (wpAny_pure h))
theorem t8 {a S:Addr} {b:Array UInt8} {n:Nat} {vl vu:Value} {lo hi:Option Int} {Q:Value->Shared->Prop} (h:s.heap.get? a=some (baO b n)) (hS:s.heap.IsSliceOf S vl vu .none) (pl:IsPart vl lo) (pu:IsPart vu hi) (hz:b.size<=1048576)
  (q:Q (.ref s.heap.objs.size) {s with heap:=s.heap.push (baO (b.extract (kms_lo lo b.size) (kms_hi hi b.size)) 0)}):wpAny (model prog w) A (getItem (.ref a) (.ref S)) Q E s:=by
 have hT:s.TypeIs (.ref a) "bytearray":=⟨_,h,rfl⟩
 obtain ⟨os,hos,hcs,hds⟩:=id hS
 have hTs:s.TypeIs (.ref S) "slice":=⟨os,hos,hcs⟩
 refine wpAny_getItem_slot hT (by decide) cX (wpAny_call_entry cX hT iE ?_ (je _ _))
 unfold Builtin.«bytearray.__getitem__»
 refine wpAny_bind (rT ?_)
 show wpAny _ _ (Builtin.Bytes.subscript? (.ref S)>>=_) _ _ s
 refine wpAny_bind ?_
 unfold Builtin.Bytes.subscript?
 refine wpAny_bind (wpAny_specialOf hTs slice_no_index ?_)
 refine wpAny_pure ?_
 show wpAny _ _ (typeOf (.ref S)>>=_) _ _ s
 refine wpAny_bind (wpAny_typeOf hTs ?_)
 rw [if_neg (by decide)]
 rw [kH]
 refine wpAny_bind (wpAny_bind (wpAny_field hos hds (x:=.none) rfl (wpAny_bind (mi .none ?_))))
 rw [if_neg (by decide)]
 refine wpAny_bind (wpAny_field hos hds (x:=vl) rfl (wpAny_bind (mi pl ?_)))
 refine wpAny_bind (wpAny_field hos hds (x:=vu) rfl (wpAny_bind (mi pu (wpAny_pure ?_))))
 show wpAny _ _ (Builtin.Bytes.payload (.ref a)>>=_) _ _ s
 refine wpAny_bind (jC h ?_)
 refine wpAny_bind (wpAny_of_eq (sliceIndices_raw lo hi none b.size (by simp)) ?_)
 rw [kms_bounds]
 show wpAny _ _ (Builtin.Bytes.newBytearray (Builtin.Bytes.sliced b (kms_lo lo b.size) (kms_hi hi b.size) 1)>>=_) _ _ s
 rw [rU]
 refine wpAny_bind ?_
 unfold Builtin.Bytes.newBytearray
 refine wpAny_newObj_type (wpAny_pure ⟨_,rfl,q⟩) ?_
 show (b.extract (kms_lo lo b.size) (kms_hi hi b.size)).size<=sizeLine
 rw [Array.size_extract]
 have h1:min (kms_hi hi b.size) b.size<=b.size:=Nat.min_le_right _ _
 have h2:(1048576:Nat)<=sizeLine:=by decide
 omega
end
end Mine
namespace Mine
open PySem PySem.W PyProof.Rows PySem.SeqAt
noncomputable def sU:Code->Bool
 | .builtin id _=>Builtin.Bytes.decodersThatHold.contains id
 | _=>false
noncomputable def NdL (l:List (Code×Pos)):Prop:=∀ x∈l,sU x.1=false
noncomputable def Nd (Γ:Ctx):Prop:=sU Γ.code=false/\NdL Γ.below
noncomputable def wpK {α:Type} (M:Model) (A:Around) (t:Sem α) (Q:α->Shared->Prop) (E:Value->Shared->Prop) (s:Shared):Prop:=
 ∀ Γ p,Γ.In A->Nd Γ->Sem.wp M Γ t (fun a _ s'=>Q a s') (fun e _ s'=>E e s') p s
noncomputable def dF (M:Model) (A:Around) (c:Code) (R:Result->Shared->Prop) (s:Shared):Prop:=
 ∀ (Γ:Ctx) p,Γ.code=c->Γ.Below A->NdL Γ.below->PySem.wpCode M Γ R p s
section
variable {α β:Type} {M:Model} {A:Around} {E:Value->Shared->Prop} {s:Shared}
theorem ib {t:Sem α} {Q:α->Shared->Prop} (h:wpAny M A t Q E s):wpK M A t Q E s:=fun Γ p hi _=>h Γ p hi
theorem gE {t:Sem α} {Q Q':α->Shared->Prop} {E':Value->Shared->Prop} (h:wpK M A t Q E s) (hQ:∀ a s,Q a s->Q' a s) (hE:∀ e s,E e s->E' e s):wpK M A t Q' E' s:=
 fun Γ p hi hn=>Sem.wp_mono M Γ t (fun a _ s=>hQ a s) (fun e _ s=>hE e s) p s (h Γ p hi hn)
theorem bu {a:α} {Q:α->Shared->Prop} (h:Q a s):wpK M A (pure a) Q E s:=fun _ _ _ _=>h
theorem aY {m:Sem α} {f:α->Sem β} {Q:β->Shared->Prop} (h:wpK M A m (fun a s'=>wpK M A (f a) Q E s') E s):wpK M A (m>>=f) Q E s:=fun Γ p hi hn=>by
 rw [Sem.wp_bind']
 exact Sem.wp_mono M Γ m (fun a p' s' h'=>h' Γ p' hi hn) (fun _ _ _ h'=>h') p s (h Γ p hi hn)
theorem aI {m:Sem α} {f:α->Sem β} {Q:β->Shared->Prop} (h:wpAny M A m (fun a s'=>wpK M A (f a) Q E s') E s):wpK M A (m>>=f) Q E s:=aY (ib h)
theorem nr {m:Sem α} {k:Value->Sem Unit} {Q:α->Shared->Prop} (h:wpK M A m Q (fun e s'=>wpK M A (k e) (fun _ s''=>E e s'') E s') s):wpK M A (m.onRaise k) Q E s:=fun Γ p hi hn=>by
 rw [Sem.wp_onRaise]
 exact Sem.wp_mono M Γ m (fun _ _ _ h'=>h') (fun e p' s' h'=>h' Γ p' hi hn) p s (h Γ p hi hn)
theorem bU {vs:List Value} {m:Sem α} {Q:α->Shared->Prop} (h:wpK M A m Q E s):wpK M A (holding vs m) Q E s:=fun Γ p hi hn=>by rw [Sem.wp_holding];exact h Γ p hi hn
theorem tc {vs:List Value} {m:Sem α} {Q:α->Shared->Prop} (h:wpK M A m Q E s):wpK M A (m.keep vs) Q E s:=fun Γ p hi hn=>by rw [Sem.wp_keep];exact h Γ p hi hn
theorem s6 {Γ:Ctx} {c:Code} {hd:Option Value} {p:Pos} (hn:Nd Γ):NdL (Γ.enter c hd p).below:=fun x hx=>by
 rcases List.mem_cons.mp (show x∈(Γ.code,p)::Γ.below from hx) with rfl | hx
 · exact hn.1
 · exact hn.2 x hx
theorem dY {f:Value} {pos:List Value} {kw:List (Str×Value)} {Q:Value->Shared->Prop}
  (hc:dF M A (.call f ⟨pos,kw⟩) (fun r s'=>match r with | .ok (.ret v)=>Q v s' | .ok _=>False | .error e=>E e s') s):wpK M A (call f pos kw) Q E s:=fun Γ p hi hn=>by
 show Sem.wp M Γ (runValue _) _ _ p s
 rw [Sem.wp_runValue]
 exact hc _ p rfl (hi.enter _ none p (by intro x;contradiction)) (s6 hn)
theorem oA {c:Code} {R:Result->Shared->Prop} (h:codeAny M A c R s):dF M A c R s:=fun Γ p hc hi _=>h Γ p hc hi
theorem kj {c:Code} {R R':Result->Shared->Prop} (h:dF M A c R s) (hR:∀ r s,R r s->R' r s):dF M A c R' s:=fun Γ p hc hi hn=>PySem.wpCode_mono hR (h Γ p hc hi hn)
noncomputable abbrev yW (M:Model) (A:Around) (R:Result->Shared->Prop) (fin:Fin) (s':Shared):Prop:=match fin with
 | .done f=>R (.ok f) s'
 | .again c'=>c'.quiet=true/\dF M A c' R s'
theorem cw {c:Code} {R:Result->Shared->Prop} (hd:sU c=false) (h:wpK M (A.under c) (M.den c) (yW M A R) (fun e s'=>R (.error e) s') s):dF M A c R s:=fun Γ p hc hi hn=>by
 rw [PySem.wpCode_iff_wp,hc]
 refine Sem.wp_mono M Γ _ (fun fin p' s' h'=>?_) (fun _ _ _ h'=>h') p s (h Γ p (hc▸hi.in) ⟨hc▸hd,hn⟩)
 cases fin with
 | done f=>exact h'
 | again c'=>exact ⟨h'.1,h'.2 (Γ.goto c') p' rfl (hi.goto c') hn⟩
end
section
variable {prog:Program} {w:World} {A:Around} {E:Value->Shared->Prop} {s:Shared} {R:Result->Shared->Prop} {env:Env}
theorem qk {body:List Stmt} (h:wpK (model prog w) (A.deeper env) (execs body env) (fun f s'=>R (.ok (.ret (match f with | .ret v=>v | _=>.none))) s')
  (fun e s'=>wpK (model prog w) (A.deeper env) (leaving env e) (fun _ s''=>R (.error e) s'') (fun e' s''=>R (.error e') s'') s') s):dF (model prog w) A (.func body env) R s:=by
 refine cw rfl ?_
 show wpK _ (A.deeper env) (do point;match <- (execs body env).onRaise (leaving env) with | .ret v=>ret v | _=>ret .none) _ _ s
 refine aI (wpAny_point (aY (nr (gE h (fun f s' h'=>?_) fun _ _ h'=>h'))))
 cases f <;> exact bu h'
theorem km {a:Addr} {args:Args} {o:Obj} {fd:FuncData} {body:List Stmt} (hroom:A.depth<recursionLimit) (ho:s.heap.get? a=some o) (hd':o.data=.func fd) (hco:fd.scope.isCoroutine=false) (hgen:fd.scope.isGenerator=false)
  (hbody:fd.body=.stmts body) (hcd:s.heap.CodeRec fd.code fd.qualname)
  (h:wpAny (model prog w) A.in1 (bindArgs fd args) (fun binds s₁=>wpAny (model prog w) A.in1 (newFunctionEnv fd.scope fd.globals fd.closure binds (fd.qualname++".<locals>.") (some a) fd.code none fd.builtins)
   (fun env s₂=>s₂.heap.NoLimit/\dF (model prog w) A (.func body env) R s₂) (fun e s'=>R (.error e) s') s₁) (fun e s'=>R (.error e) s') s):dF (model prog w) A (.call (.ref a) args) R s:=by
 exists prog,w,A,s,R,a,args,o,fd,body,_ hroom ho hd' hco hgen hbody hcd h
 refine cw rfl (ib ?_)
 show wpAny _ A.in1 (callAny (.ref a) args) _ _ s
 unfold callAny
 refine wpAny_bind (wpAny_load ho ?_)
 obtain ⟨c,oc,vs,tq,hc,hoc,hdc,hq⟩:=hcd
 rw [hd']
 show wpAny _ _ (callFunction _ _ _) _ _ _
 unfold callFunction
 rw [hco,hgen,hbody,hc]
 rw [hc] at h
 refine wpAny_bind (m:=field (.ref c) 1) (wpAny_field hoc hdc hq (wpAny_bind (wpAny_pure ?_)))
 refine wpAny_bind (wpAny_mono h (fun binds s₁ h₁=>?_) fun _ _ h'=>h')
 refine wpAny_bind (wpAny_mono h₁ (fun env s₂ h₂=>?_) fun _ _ h'=>h')
 exact wpAny_bind (wpAny_enterFrame h₂.1 hroom (wpAny_pure ⟨rfl,h₂.2⟩))
theorem ge {id:String} {args:Args} {b:Builtin} (hq:(Code.builtin id args).quiet=true) (hd:Builtin.Bytes.decodersThatHold.contains id=false) (hb:entryFor table id=some b)
  (h:wpAny (model prog w) A.in1 (checkBuiltinCall id args) (fun _ s₁=>wpK (model prog w) (A.under (.builtin id args)) (b args) (yW (model prog w) A R) (fun e s'=>R (.error e) s') s₁) (fun e s'=>R (.error e) s') s):
  dF (model prog w) A (.call (.builtin id) args) R s:=by
 refine cw rfl (ib ?_)
 show wpAny _ A.in1 (do checkBuiltinCall id args;again (.builtin id args)) _ _ s
 refine wpAny_bind (wpAny_mono h (fun _ s₁ h₁=>wpAny_pure ⟨hq,cw hd ?_⟩) fun _ _ h'=>h')
 show wpK _ _ (match entryFor table id with | some b=>b args | none=>unsupported ((withoutEnding? id "#data").getD id)) _ _ s₁
 rw [hb];exact h₁
end
end Mine
namespace Mine
open PySem PySem.W PySem.Calls PyProof.Rows
theorem sX:Nd (⟨.builtin "claim.caller" {},none,none,[],none⟩:Ctx):=⟨by decide +kernel,fun _ hx=>nomatch hx⟩
theorem qo {c:ClaimW} {tree:List Value->Sem Fin} {w:World} {s:Shared} {free:Addr->Prop} {gens:Prop} {kept:Heap->Prop} (hz:s.asleep) (hg:s.gens=#[])
  (spec:∀ args,c.pre args=true->WData.layableAll args=true->∀ ord:List DictEntry->List DictEntry,(∀ l,(ord l).Perm l)->∃ vs s₁,layAllW c.records (classAt s.heap) w.params ord args s=some (vs,s₁)/\
   wpK (model c.prog w) callerA (tree vs) (fun fin s'=>∃ f,fin=.done f/\((c.Ends s args vs s₁ (.ok f) s'/\s'.os=s.os/\kept s'.heap)/\AllBare s'.gens))
    (fun e s'=>(c.Ends s args vs s₁ (.error e) s'/\s'.os=s.os/\kept s'.heap)/\AllBare s'.gens) s₁):
  c.CallFrom (fun vs=>⟨tree vs,.builtin "claim.caller" {},default,[]⟩) w free gens kept s:=by
 intro args hp hl ord ho
 obtain ⟨vs,s₁,laid,hc⟩:=spec args hp hl ord ho
 have rest:=layAllW_rest _ _ _ laid
 have hw:=hc _ default caller_in sX
 obtain ⟨k,r,s',s'',hsch,hrun,hfo,zz⟩:=wp_halts_full (M:=model c.prog w) (R:=fun r s'=>c.Ends s args vs s₁ r s'/\s'.os=s.os/\kept s'.heap) (Shared.asleep_of_life rest.2.2.2 hz)
  (Sem.wp_mono _ _ _ (fun fin p' s' z=>by
   obtain ⟨f,rfl,z1,z2⟩:=z
   exact ⟨z1,leftWithCleanup_false_of_bare z2⟩) (fun e p' s' z=>⟨z.1,leftWithCleanup_false_of_bare z.2⟩) _ _ hw);obtain ⟨hE,hos,hkp⟩:=zz
 obtain ⟨eh,_,_,eo,_⟩:=Shared.forget_eq hfo
 have hE:=hE.congr eh
 have life:s''.heap.life=s.heap.life:=(runN_life _ _ _ hrun).trans rest.2.2.2
 refine ⟨vs,s₁,laid,k,_,s'',hsch,?_,fun _ i x hx=>?_,eh▸hkp,by rw [life],Shared.rest_eq (eo.trans hos)⟩
 · clear hrun hsch;rcases hE with ⟨v,rfl,a1,a2,a3,a4,a5⟩ | ⟨e,ob,cls,rfl,a1,a2,a3,a4,a5⟩
   · exact .inl ⟨v,rfl,a1,a2,a3,fun b o z _=>a4 b o z,a5⟩
   · exact .inr ⟨e,ob,cls,rfl,a1,a2,a3,a4,fun b o z _=>a5 b o z⟩
 · rw [hg] at hx;simp at hx
noncomputable abbrev FG (q:Program) (loose:List Str) (XP:(Str->Option Value)->Heap->Prop) (YP:World->Heap->Prop) (r:RowW) (d:DefRec) (kwd:List (Str×Expr)):Prop:=
 ∀ (w:World) (s₀ s₁:Shared) (mg mb:Str->Option Value),Ground q loose r.records XP w s₀ mg mb s₁.heap->YP w s₁.heap->∀ (a:Addr) (o:Obj) (pm cd doc dV kV:Value),s₁.heap.get? a=some o->
  o.data=.func {docDef d.name d.params d.body d.scope pm cd doc with defaults:=dV,kwdefaults:=kV}->s₁.heap.CodeRec cd d.name->Dflts mg s₁.heap d.params kwd dV kV->mg d.name=some (.ref a)->s₁.gens=#[]->
  ∀ (args:List WData) (vals:List Value) (as:List Addr),r.claim.pre args=true->WData.layableAll args=true->ReadsAllW r.records (classAt s₀.heap) s₁.heap vals args as->WellAll w.params s₁.heap vals args->(∀ a∈as,(a==sysModules)=false)->
   wpK (model r.prog w) callerA (PySem.call (.ref a) vals) (fun v s'=>GoodWG r.claim (classAt s₀.heap) (ExcName.means s₀.heap) args s₁ (.ok (.ret v)) s')
    (fun e s'=>GoodWG r.claim (classAt s₀.heap) (ExcName.means s₀.heap) args s₁ (.error e) s') s₁
theorem EY {r:OpenRow} {q:Program} {loose:List Str} {Xt:Shared->Bool} {XP:(Str->Option Value)->Heap->Prop} {α:Type} {Yf:Shared->α} {Ya:World->α} {YP:World->Heap->Prop} {d:DefRec} {kwd:List (Str×Expr)} {N:Nat}
  (left:LeftO r.prog q loose Xt Yf Ya N) (hY:∀ w s,Yf s=Ya w->YP w s.heap) (hYk:∀ w h h',YP w h->(∀ b o,h.get? b=some o->h'.get? b=some o)->YP w h')
  (hX:∀ s,Xt s=true->XP (s.heap.nsMap mainGlobals) s.heap) (hXk:∀ mg h h',XP mg h->(∀ b o,h.get? b=some o->h'.get? b=some o)->XP mg h')
  (hdef:defOf q r.name=some (d,kwd)) (hp:r.prog.theDef r.name=some (d.params,d.body,d.scope)) (hk:kwWritten? d.params.kwonlyargs d.params.kw_defaults=some kwd) (hRf:∀ s,Xt s=true->RecFacts r.records s.heap) (hwr:(!r.writes||r.records.isEmpty)=true)
  (k1:r.wellSaid=true) (ok:(chainsOk q&&opensWell r.prog&&(frees r.toRowW&&r.within.isEmpty))=true) (hb:r.prog.bare) (hw:r.toRowW.promised)
  (walk:FG q loose XP YP r.toRowW d kwd):r.Holds:=by
 obtain ⟨ok1,ok2⟩:=Bool.and_eq_true_iff.mp ok
 obtain ⟨hch,hop⟩:=Bool.and_eq_true_iff.mp ok1
 obtain ⟨hfr,hwi⟩:=Bool.and_eq_true_iff.mp ok2
 obtain ⟨hsame,hu,ha,hap,hm⟩:=frees_parts hfr
 have bh:=fun w=>left.behind (XP:=fun mg h=>XP mg h/\RecFacts r.records h) (fun s hs=>⟨hX s hs,hRf s hs⟩) hch w
 refine ⟨k1,hw,⟨hb,hop,by show r.toRowW.makers.map _=[];rw [hm];rfl⟩,hw.witness,fun w=>⟨(bh w).1,fun s' hs'=>?_⟩⟩
 obtain ⟨s₀,hf,hg0,s,hT,hz,hgens,zz⟩:=(bh w).2 s' hs';obtain ⟨hg,G00,y⟩:=zz
 have RF:=G00.X.2
 have G0:Ground q loose [] XP w s (s.heap.nsMap mainGlobals) (s.heap.nsMap builtinsNs) s.heap:=⟨G00.T,G00.B,G00.D,G00.TE,G00.TD,G00.W,G00.X.1,G00.cls,G00.has,G00.apart,G00.once,G00.K⟩
 have hgens:s.gens=#[]:=Array.eq_empty_of_size_eq_zero (beq_iff_eq.mp hgens)
 have Gr:Ground q loose r.records XP w s _ _ s.heap:=RF.ground G0
 refine ⟨s₀,hf,hg0,s,hT,fun n hn=>?_,RF.1,RF.2.1,qo (c:=r.toRowW.claim) hz hgens fun args hpre hlay ord hord=>?_⟩
 · clear hgens;obtain rfl:n=r.name:=by split at hn <;> simp_all
   exact pinned_of_view hg G0 hdef hp hk
 obtain ⟨zz,laid⟩:=Option.isSome_iff_exists.mp (layAllW_isSome (P:=w.params) (ord:=ord) Gr.has args r.toRowW.args s (pre_splitW hpre).1);obtain ⟨vs,s₁⟩:=zz
 have keeps:=layAllW_keeps _ _ _ laid
 have rest:=layAllW_rest _ _ _ laid
 obtain ⟨as,hrd,hin,hold⟩:=reads_layAllW hord _ _ _ laid hlay s₁.heap (fun _ _ e=>e)
 have L:Laid r.toRowW.records w s s₁ args vs as:=⟨⟨ord,hord,laid⟩,hrd,hin,hold,keeps,rest.1.trans hgens,rest.2.2.1⟩
 have G1:=Gr.keeps hXk keeps
 clear hgens;obtain ⟨a,o,pm,cd,doc,dV,kV,zz⟩:=G1.fn hdef;obtain ⟨f1,f2,f3,f4,f5⟩:=zz
 have wk:=walk w s s₁ _ _ G1 (hYk _ _ _ (hY w s y) keeps) a o pm cd doc dV kV f2 f3 f4 f5 (defOf_name hdef▸f1) L.gens args vs as hpre hlay L.reads L.well (L.low Gr.low)
 have hi:=ident_freeW hu ha hap
 have hwi':r.toRowW.claim.within=[]:=List.isEmpty_iff.mp hwi
 refine ⟨vs,s₁,laid,?_⟩
 refine aI (wpAny_nsGet G1.T.g ?_)
 rw [f1]
 refine aY (gE wk (fun v s' g=>bu ⟨_,rfl,?_⟩) fun e s' g=>?_)
 · have z:=g.laid (c:=r.toRowW.claim) hsame hwi' hi L
   exact ⟨⟨z.1,z.2.1,fun q=>⟨namesKept_of hT hg _ keeps g.2.1.old,noTable hwr q⟩⟩,z.2.2⟩
 · have z:=g.laid (c:=r.toRowW.claim) hsame hwi' hi L
   exact ⟨⟨z.1,z.2.1,fun q=>⟨namesKept_of hT hg _ keeps g.2.1.old,noTable hwr q⟩⟩,z.2.2⟩
end Mine
namespace Mine
open PySem PySem.W PyProof.Rows
noncomputable abbrev PR:Program:=PySem.Challenge.pw_pq1089_01
noncomputable abbrev PH:=Addr->Option Obj
noncomputable abbrev Fp:=List (List Addr)
theorem af {α:Type} {a:α} {P:Prop} (h:(none:Option α)=some a):P:=nomatch h
theorem aX {P:Prop} (h:false=true):P:=nomatch h
theorem lL {α β:Type} [BEq α] [LawfulBEq α] {a k:α} {b v:β} {l:List (α×β)} {G:Prop} (h:List.lookup a ((k,b)::l)=some v) (h1:a=k->b=v->G) (h2:(a==k)=false->List.lookup a l=some v->G):G:=by
 rw [List.lookup_cons] at h
 cases q:a==k with
 | true=>rw [q] at h;exact h1 (eq_of_beq q) (Option.some.inj h)
 | false=>rw [q] at h;exact h2 q h
theorem lK {α β:Type} [BEq α] [LawfulBEq α] {a:α} {b:β} {l:List (α×β)}:List.lookup a ((a,b)::l)=some b:=by rw [List.lookup_cons,beq_self_eq_true]
theorem jP {α β:Type} [BEq α] {a k:α} {b:β} {l:List (α×β)} (h:(a==k)=false):List.lookup a ((k,b)::l)=List.lookup a l:=by rw [List.lookup_cons,h]
theorem aD {α β:Type} {f:α->Option β} {x:Option α} {y:β} (h:x.bind f=some y):∃ a,x=some a/\f a=some y:=Option.bind_eq_some_iff.mp h
inductive D where
 | nn | bb (b:Bool) | ii (i:Int) | ss (s:Str) | bs (b:Array UInt8) | ba (b:Array UInt8)
 | tu (l:List D) | li (l:List D) | di (l:List (Str×D)) | ob (C:Addr) (l:List (Str×D)) | gl (c:Value)
 deriving Inhabited
noncomputable def jt (cs:List Value):Obj:={cls:=.type "tuple",data:=.seq cs.toArray}
noncomputable def xc (w:World) (G:PH) (a:Addr) (kvs:List (Str×Value)):Prop:=∀ h:Heap,(∀ b o,G b=some o->h.get? b=some o)->h.DictOf (strKind PR w) a kvs
noncomputable def FH (G:PH) (x C:Addr) (m:Str->Option Value):Prop:=∀ h:Heap,(∀ b o,G b=some o->h.get? b=some o)->h.Inst x C m
mutual
noncomputable def DR (w:World) (G:PH):D->Value->Prop
 | .nn,c=>c=.none
 | .bb b,c=>c=.bool b
 | .ii i,c=>∃ t,c=.int i t
 | .ss s,c=>∃ t,c=.str s t
 | .bs b,c=>∃ t,c=.bytes b t
 | .ba b,c=>∃ a n,c=.ref a/\G a=some {cls:=.type "bytearray",data:=.bytearray b n}
 | .tu l,c=>∃ a cs,c=.ref a/\G a=some (jt cs)/\DRs w G l cs
 | .li l,c=>∃ a cs o n,c=.ref a/\G a=some o/\o.cls=.type "list"/\o.data=.seq cs.toArray n/\DRs w G l cs
 | .di l,c=>∃ a cs,c=.ref a/\a≠sysModules/\xc w G a (List.zip (l.map (·.1)) cs)/\DRv w G l cs
 | .ob C l,c=>∃ x m cs,c=.ref x/\FH G x C m/\(∀ f,m f=(List.zip (l.map (·.1)) cs).lookup f)/\DRv w G l cs
 | .gl v,c=>c=v
noncomputable def DRs (w:World) (G:PH):List D->List Value->Prop
 | [],cs=>cs=[]
 | d::ds,cs=>∃ c r,cs=c::r/\DR w G d c/\DRs w G ds r
noncomputable def DRv (w:World) (G:PH):List (Str×D)->List Value->Prop
 | [],cs=>cs=[]
 | d::ds,cs=>∃ c r,cs=c::r/\DR w G d.2 c/\DRv w G ds r
end
noncomputable def Sub (G G':PH):Prop:=∀ b o,G b=some o->G' b=some o
theorem Sub.refl (G:PH):Sub G G:=fun _ _ e=>e
theorem Sub.trans {G G' G'':PH} (x:Sub G G') (y:Sub G' G''):Sub G G'':=fun b o e=>y b o (x b o e)
mutual
theorem DR.mono {w:World} {G G':PH} (k:Sub G G'):∀ {d:D} {c:Value},DR w G d c->DR w G' d c
 | .nn,_,h=>h
 | .bb _,_,h=>h
 | .ii _,_,h=>h
 | .ss _,_,h=>h
 | .bs _,_,h=>h
 | .gl _,_,h=>h
 | .ba _,_,h=>by unfold DR at h ⊢;obtain ⟨a,n,e,g⟩:=h;exact ⟨a,n,e,k _ _ g⟩
 | .tu _,_,h=>by unfold DR at h ⊢;obtain ⟨a,cs,e,g,r⟩:=h;exact ⟨a,cs,e,k _ _ g,DRs.mono k r⟩
 | .li _,_,h=>by unfold DR at h ⊢;obtain ⟨a,cs,o,n,e,g,h1,zz⟩:=h;obtain ⟨h2,r⟩:=zz;exact ⟨a,cs,o,n,e,k _ _ g,h1,h2,DRs.mono k r⟩
 | .di _,_,h=>by unfold DR at h ⊢;obtain ⟨a,cs,e,hs,g,r⟩:=h;exact ⟨a,cs,e,hs,fun h' x=>g h' (fun b o e=>x b o (k b o e)),DRv.mono k r⟩
 | .ob _ _,_,h=>by unfold DR at h ⊢;obtain ⟨a,m,cs,e,g,hm,r⟩:=h;exact ⟨a,m,cs,e,fun h' x=>g h' (fun b o e=>x b o (k b o e)),hm,DRv.mono k r⟩
theorem DRs.mono {w:World} {G G':PH} (k:Sub G G'):∀ {ds:List D} {cs:List Value},DRs w G ds cs->DRs w G' ds cs
 | [],_,h=>h
 | _::_,_,h=>by unfold DRs at h ⊢;obtain ⟨c,r,e,x,y⟩:=h;exact ⟨c,r,e,DR.mono k x,DRs.mono k y⟩
theorem DRv.mono {w:World} {G G':PH} (k:Sub G G'):∀ {ds:List (Str×D)} {cs:List Value},DRv w G ds cs->DRv w G' ds cs
 | [],_,h=>h
 | (_,_)::_,_,h=>by unfold DRv at h ⊢;obtain ⟨c,r,e,x,y⟩:=h;exact ⟨c,r,e,DR.mono k x,DRv.mono k y⟩
end
end Mine
namespace Mine
open PySem PySem.W PyProof.Rows
inductive OC where
 | li (l:List D) | di (l:List (Str×D))
 deriving Inhabited
inductive aa where
 | dead | oc (c:OC) | inst (C:Addr) (l:List (Str×D)) (own:List (Str×OC))
 deriving Inhabited
inductive V where
 | d (x:D) | tu (l:List V) | ref (k:Nat) | rng (a b:Int)
 deriving Inhabited
noncomputable def OCR (w:World) (G:PH) (h:Heap):OC->Addr->Prop
 | .li l,a=>∃ cs,h.PlainList a cs.toArray/\DRs w G l cs
 | .di l,a=>a≠sysModules/\∃ cs,h.DictOf (strKind PR w) a (List.zip (l.map (·.1)) cs)/\DRv w G l cs
noncomputable def bl (w:World) (G:PH) (h:Heap) (m:Str->Option Value):List (Str×OC)->List Addr->Prop
 | [],as=>as=[]
 | (f,c)::r,as=>∃ a as',as=a::as'/\m f=some (.ref a)/\OCR w G h c a/\bl w G h m r as'
noncomputable def bF (w:World) (G:PH) (m:Str->Option Value):List (Str×D)->Prop
 | []=>True
 | (f,x)::r=>(∃ c,m f=some c/\DR w G x c)/\bF w G m r
noncomputable def dl (h:Heap) (x dx C:Addr) (m:Str->Option Value):Prop:=
 (∃ o,h.get? x=some o/\o.cls=.ref C/\(∀ c,o.data≠.cls c)/\o.dict=some dx)/\h.Ns1 dx m
noncomputable def be (w:World) (G:PH) (h:Heap):aa->List Addr->Prop
 | .dead,fp=>fp=[]
 | .oc c,fp=>∃ a,fp=[a]/\OCR w G h c a
 | .inst C l own,fp=>∃ x dx as m,fp=x::dx::as/\dl h x dx C m/\Within m (l.map (·.1)++own.map (·.1))/\bF w G m l/\bl w G h m own as
noncomputable def aq (w:World) (G:PH) (h:Heap):List aa->Fp->Prop
 | [],O=>O=[]
 | c::r,O=>∃ fp O',O=fp::O'/\be w G h c fp/\aq w G h r O'
mutual
noncomputable def VR (w:World) (G:PH) (O:Fp):V->Value->Prop
 | .d x,c=>DR w G x c
 | .tu l,c=>∃ a cs,c=.ref a/\G a=some (jt cs)/\VRs w G O l cs
 | .ref k,c=>k<O.length/\∀ a r,O[k]?=some (a::r)->c=.ref a
 | .rng a b,c=>∃ r t u v,c=.ref r/\G r=some {cls:=.type "range",dict:=none,data:=.fields #[.int a t,.int b u,.int 1 v],slots:=#[]}
noncomputable def VRs (w:World) (G:PH) (O:Fp):List V->List Value->Prop
 | [],cs=>cs=[]
 | d::ds,cs=>∃ c r,cs=c::r/\VR w G O d c/\VRs w G O ds r
end
structure IxE (O O':Fp):Prop where
 len:O.length<=O'.length
 idx:∀ (k:Nat) (fp fp':List Addr),O[k]?=some fp->O'[k]?=some fp'->fp'=[]\/fp'.head?=fp.head?
theorem IxE.refl (O:Fp):IxE O O:=⟨Nat.le_refl _,fun k fp fp' e e'=>.inr (by rw [e] at e';cases e';rfl)⟩
theorem IxE.trans {O O' O'':Fp} (x:IxE O O') (y:IxE O' O''):IxE O O'':=by
 refine ⟨Nat.le_trans x.len y.len,fun k fp fp'' e e''=>?_⟩
 have hk:k<O'.length:=Nat.lt_of_lt_of_le (List.getElem?_eq_some_iff.mp e).1 x.len
 have e':O'[k]?=some O'[k]:=List.getElem?_eq_getElem hk
 rcases y.idx k _ _ e' e'' with q | q
 · exact .inl q
 rcases x.idx k _ _ e e' with p | p
 · rw [p] at q
   cases fp'' with
   | nil=>exact .inl rfl
   | cons a r=>simp at q
 · exact .inr (q.trans p)
mutual
theorem VR.mono {w:World} {G G':PH} {O O':Fp} (k:Sub G G') (i:IxE O O'):∀ {v:V} {c:Value},VR w G O v c->VR w G' O' v c
 | .d _,_,h=>by unfold VR at h ⊢;exact DR.mono k h
 | .tu _,_,h=>by unfold VR at h ⊢;obtain ⟨a,cs,e,g,r⟩:=h;exact ⟨a,cs,e,k _ _ g,VRs.mono k i r⟩
 | .ref n,_,h=>by
  unfold VR at h ⊢
  refine ⟨Nat.lt_of_lt_of_le h.1 i.len,fun a r e=>?_⟩
  have e0:O[n]?=some O[n]:=List.getElem?_eq_getElem h.1
  rcases i.idx n _ _ e0 e with q | q
  · contradiction
  · generalize hf:O[n]=fp at e0 q
    cases fp with
    | nil=>simp at q
    | cons b t=>simp at q;clear hf;subst q;exact h.2 _ _ e0
 | .rng _ _,_,h=>by unfold VR at h ⊢;obtain ⟨r,t,u,v,e,g⟩:=h;exact ⟨r,t,u,v,e,k _ _ g⟩
theorem VRs.mono {w:World} {G G':PH} {O O':Fp} (k:Sub G G') (i:IxE O O'):∀ {ds:List V} {cs:List Value},VRs w G O ds cs->VRs w G' O' ds cs
 | [],_,h=>h
 | _::_,_,h=>by unfold VRs at h ⊢;obtain ⟨c,r,e,x,y⟩:=h;exact ⟨c,r,e,VR.mono k i x,VRs.mono k i y⟩
end
noncomputable abbrev Loc:=List (Str×V)
structure Fx where
 env:Env
 A:Around
 stk:List Env
instance neF:Nonempty Fx:=⟨⟨default,{},[]⟩⟩
noncomputable def Fx.frs (f:Fx):List Addr:=f.stk.filterMap (·.frame)
noncomputable def Fx.own (f:Fx):List Addr:=f.env.locals::f.env.cells.map (·.2)
structure Sim (w:World) (base:Heap) (G:PH) (O:Fp) (Z:List aa) (h:Heap):Prop where
 bs:∀ b o,base.get? b=some o->G b=some o
 sub:∀ b o,G b=some o->h.get? b=some o
 cells:aq w G h Z O
 nd:O.flatten.Nodup
 out:∀ a∈O.flatten,G a=none
structure FrR (w:World) (G:PH) (O:Fp) (env:Env) (U:Loc) (h:Heap):Prop where
 ns:∃ m,h.Ns env.locals m/\∀ x v,U.lookup x=some v->env.kindOf x=some .local->∃ c,m x=some c/\VR w G O v c
 ce:∀ p∈env.cells,∃ co:Option Value,h.IsCell p.2 co/\
  ∀ v,U.lookup p.1=some v->env.kindOf p.1=some .cell->∃ c,co=some c/\VR w G O v c
structure St (w:World) (base:Heap) (fx:Fx) (G:PH) (O:Fp) (Z:List aa) (U:Loc) (h:Heap):Prop extends Sim w base G O Z h where
 fr:FrR w G O fx.env U h
 oo:∀ a∈fx.own,G a=none/\a∉O.flatten
 ond:fx.own.Nodup
 fo:∀ a∈fx.frs,a∉O.flatten/\G a=none
 ff:h.FunFrames base fx.stk
structure Ext (own frs:List Addr) (G:PH) (O:Fp) (h:Heap) (G':PH) (O':Fp) (h':Heap):Prop where
 sub:Sub G G'
 ix:IxE O O'
 dom:∀ b o,h.get? b=some o->∃ o',h'.get? b=some o'
 keep:∀ b o,h.get? b=some o->b∉O.flatten->b∉frs->b∉own->h'.get? b=some o
 slots:∀ b o,h.get? b=some o->b∈frs->b∉O.flatten->b∉own->∃ sl,h'.get? b=some {o with slots:=sl}
 newF:∀ b∈O'.flatten,b∈O.flatten\/h.get? b=none
 newG:∀ b o,G' b=some o->G b=some o\/h.get? b=none\/b∈O.flatten
theorem Ext.refl (own frs:List Addr) (G:PH) (O:Fp) (h:Heap):Ext own frs G O h G O h:=
 ⟨Sub.refl _,IxE.refl _,fun _ o e=>⟨o,e⟩,fun _ _ e _ _ _=>e,fun _ o e _ _ _=>⟨o.slots,e⟩,fun _ hb=>.inl hb,fun _ _ e=>.inl e⟩
theorem Ext.trans {own frs:List Addr} {G G' G'':PH} {O O' O'':Fp} {h h' h'':Heap} (x:Ext own frs G O h G' O' h') (y:Ext own frs G' O' h' G'' O'' h''):Ext own frs G O h G'' O'' h'' where
 sub:=x.sub.trans y.sub
 ix:=x.ix.trans y.ix
 dom:=fun b o e=>let ⟨o',e'⟩:=x.dom b o e;y.dom b o' e'
 keep:=fun b o e h1 h2 h3=>y.keep b o (x.keep b o e h1 h2 h3) (fun hb=>(x.newF b hb).elim h1 fun q=>by exact nS (q.symm.trans e)) h2 h3
 slots:=fun b o e h1 h2 h3=>by
  obtain ⟨sl,e'⟩:=x.slots b o e h1 h2 h3
  obtain ⟨sl',e''⟩:=y.slots b _ e' h1 (fun hb=>(x.newF b hb).elim h2 fun q=>by exact nS (q.symm.trans e)) h3
  exact ⟨sl',e''⟩
 newF:=fun b hb=>by
  rcases y.newF b hb with q | q
  · exact x.newF b q
  · right
    cases e:h.get? b with
    | none=>rfl
    | some o=>obtain ⟨o',e'⟩:=x.dom b o e;exact nS (q.symm.trans e')
 newG:=fun b o e=>by
  rcases y.newG b o e with q | q | q
  · exact x.newG b o q
  · right;left
    cases e0:h.get? b with
    | none=>rfl
    | some o0=>obtain ⟨o',e'⟩:=x.dom b o0 e0;exact nS (q.symm.trans e')
  · rcases x.newF b q with q | q
    · exact .inr (.inr q)
    · exact .inr (.inl q)
theorem Ext.weaken {own own' frs:List Addr} {G G':PH} {O O':Fp} {h h':Heap} (x:Ext own frs G O h G' O' h') (k:∀ b∈own,b∈own'):Ext own' frs G O h G' O' h':=
 ⟨x.sub,x.ix,x.dom,fun b o e h1 h2 h3=>x.keep b o e h1 h2 fun q=>h3 (k b q),fun b o e h1 h2 h3=>x.slots b o e h1 h2 fun q=>h3 (k b q),x.newF,x.newG⟩
end Mine
namespace Mine
open PySem PySem.W PyProof.Rows
noncomputable def gX (G:PH) (a:Addr) (o:Obj):PH:=fun b=>if b=a then some o else G b
theorem cz (G:PH) (a:Addr) (o:Obj):gX G a o a=some o:=if_pos rfl
theorem gW (G:PH) {a b:Addr} (o:Obj) (h:b≠a):gX G a o b=G b:=if_neg h
theorem jV {G:PH} {a:Addr} {o:Obj} (h:G a=none):Sub G (gX G a o):=fun b x e=>by
 by_cases q:b=a
 · subst q;exact nS (h.symm.trans e)
 · rw [gW G o q];exact e
section
variable {w:World} {base:Heap} {fx:Fx} {G G':PH} {O O':Fp} {Z:List aa} {U:Loc} {h h':Heap} {m:Str->Option Value}
theorem OCR.mono (k:Sub G G') {a:Addr} (e:∀ o,h.get? a=some o->h'.get? a=some o):∀ {c:OC},OCR w G h c a->OCR w G' h' c a
 | .li _,⟨cs,p,r⟩=>⟨cs,p.at e,DRs.mono k r⟩
 | .di _,⟨hs,cs,p,r⟩=>⟨hs,cs,(let ⟨o,es,ep,ho,z⟩:=p;⟨o,es,ep,e o ho,z⟩),DRv.mono k r⟩
theorem bl.mono (k:Sub G G'):∀ {l:List (Str×OC)} {as:List Addr},(∀ a∈as,∀ o,h.get? a=some o->h'.get? a=some o)->bl w G h m l as->bl w G' h' m l as
 | [],_,_,x=>x
 | (_,_)::_,_,e,x=>by
  unfold bl at x ⊢
  obtain ⟨a,as',rfl,hm,ho,r⟩:=x
  exact ⟨a,as',rfl,hm,ho.mono k (e a (.head _)),bl.mono k (fun b hb=>e b (.tail _ hb)) r⟩
theorem bF.mono (k:Sub G G'):∀ {l:List (Str×D)},bF w G m l->bF w G' m l
 | [],x=>x
 | (_,_)::_,x=>by
  unfold bF at x ⊢
  obtain ⟨zz,y⟩:=x;obtain ⟨c,hm,r⟩:=zz
  exact ⟨⟨c,hm,DR.mono k r⟩,bF.mono k y⟩
theorem dl.at {x dx C:Addr} (e:∀ o,h.get? x=some o->h'.get? x=some o) (e':∀ o,h.get? dx=some o->h'.get? dx=some o) (I:dl h x dx C m):dl h' x dx C m:=by
 obtain ⟨zz,n⟩:=I;obtain ⟨o,ho,r⟩:=zz
 exact ⟨⟨o,e o ho,r⟩,n.at e'⟩
theorem be.mono (k:Sub G G') {fp:List Addr} (e:∀ a∈fp,∀ o,h.get? a=some o->h'.get? a=some o):∀ {c:aa},be w G h c fp->be w G' h' c fp
 | .dead,x=>x
 | .oc _,x=>by
  unfold be at x ⊢
  obtain ⟨a,rfl,r⟩:=x
  exact ⟨a,rfl,r.mono k (e a (.head _))⟩
 | .inst _ _ _,x=>by
  unfold be at x ⊢
  obtain ⟨x,dx,as,m,rfl,I,hw,zz⟩:=x;obtain ⟨hf,ho⟩:=zz
  exact ⟨x,dx,as,m,rfl,I.at (e x (.head _)) (e dx (.tail _ (.head _))),hw,hf.mono k,ho.mono k fun a ha=>e a (.tail _ (.tail _ ha))⟩
theorem aq.mono (k:Sub G G'):∀ {Z:List aa} {O:Fp},(∀ a∈O.flatten,∀ o,h.get? a=some o->h'.get? a=some o)->aq w G h Z O->aq w G' h' Z O
 | [],_,_,x=>x
 | _::_,_,e,x=>by
  unfold aq at x ⊢
  obtain ⟨fp,O',rfl,c,r⟩:=x
  exact ⟨fp,O',rfl,c.mono k (fun a ha=>e a (by rw [List.flatten_cons];exact List.mem_append_left _ ha)),aq.mono k (fun a ha=>e a (by rw [List.flatten_cons];exact List.mem_append_right _ ha)) r⟩
theorem aq.len:∀ {Z:List aa} {O:Fp},aq w G h Z O->O.length=Z.length
 | [],_,x=>by unfold aq at x;subst x;rfl
 | _::_,_,x=>by
  obtain ⟨fp,O',rfl,_,r⟩:=x
  rw [List.length_cons,List.length_cons,aq.len r]
theorem aq.at:∀ {Z:List aa} {O:Fp} {k:Nat} {c:aa},aq w G h Z O->Z[k]?=some c->∃ fp,O[k]?=some fp/\be w G h c fp
 | [],_,_,_,_,e=>by simp at e
 | c0::Z,_,0,c,x,e=>by
  obtain ⟨fp,O',rfl,c,_⟩:=x
  simp at e;subst e
  exact ⟨fp,rfl,c⟩
 | c0::Z,_,k+1,c,x,e=>by
  obtain ⟨fp,O',rfl,_,r⟩:=x
  simp at e
  obtain ⟨fp',e',c'⟩:=aq.at r e
  exact ⟨fp',by simpa using e',c'⟩
theorem aq.append:∀ {Z Z':List aa} {O O':Fp},aq w G h Z O->aq w G h Z' O'->aq w G h (Z++Z') (O++O')
 | [],_,_,_,x,y=>by unfold aq at x;subst x;exact y
 | _::_,_,_,_,x,y=>by
  obtain ⟨fp,O',rfl,c,r⟩:=x
  show aq w G h (_::_) (fp::(O'++_))
  exact ⟨fp,_,rfl,c,aq.append r y⟩
theorem aq.set:∀ {Z:List aa} {O:Fp} {k:Nat} {c:aa} {fp:List Addr},aq w G h Z O->be w G h c fp->aq w G h (Z.set k c) (O.set k fp)
 | [],_,_,_,_,x,_=>by unfold aq at x;subst x;rfl
 | _::_,_,0,_,fp,x,y=>by
  obtain ⟨fp0,O',rfl,_,r⟩:=x
  show aq w G h (_::_) (fp::O')
  exact ⟨fp,O',rfl,y,r⟩
 | _::_,_,k+1,_,fp,x,y=>by
  obtain ⟨fp0,O',rfl,c,r⟩:=x
  show aq w G h (_::_) (fp0::O'.set k fp)
  exact ⟨fp0,_,rfl,c,aq.set r y⟩
theorem FrR.mono {env:Env} (k:Sub G G') (i:IxE O O') (e:∀ a∈env.locals::env.cells.map (·.2),∀ o,h.get? a=some o->∃ sl,h'.get? a=some {o with slots:=sl}) (x:FrR w G O env U h):FrR w G' O' env U h':=by
 refine ⟨?_,fun p hp=>?_⟩
 · obtain ⟨m,zz,hm⟩:=x.ns;obtain ⟨o,es,ep,ho,r⟩:=zz
   obtain ⟨sl,ho'⟩:=e env.locals (.head _) o ho
   exact ⟨m,⟨_,es,ep,ho',r⟩,fun y v hv hk=>let ⟨c,hc,hr⟩:=hm y v hv hk;⟨c,hc,hr.mono k i⟩⟩
 · obtain ⟨co,zz,r⟩:=x.ce p hp;obtain ⟨o,ho,hd⟩:=zz
   obtain ⟨sl,ho'⟩:=e p.2 (.tail _ (List.mem_map.mpr ⟨p,hp,rfl⟩)) o ho
   exact ⟨co,⟨_,ho',hd⟩,fun v hv hk=>let ⟨c,hc,hr⟩:=r v hv hk;⟨c,hc,hr.mono k i⟩⟩
theorem OCR.ex {c:OC} {a:Addr} (x:OCR w G h c a):∃ o,h.get? a=some o:=by
 cases c with
 | li l=>obtain ⟨cs,zz,_⟩:=x;obtain ⟨n,p⟩:=zz;exact ⟨_,p⟩
 | di l=>obtain ⟨_,cs,zz,_⟩:=x;obtain ⟨o,_,_,ho,_⟩:=zz;exact ⟨_,ho⟩
theorem bl.ex:∀ {l:List (Str×OC)} {as:List Addr},bl w G h m l as->∀ a∈as,∃ o,h.get? a=some o
 | [],_,x,a,ha=>by unfold bl at x;subst x;contradiction
 | (_,_)::_,_,x,a,ha=>by
  obtain ⟨b,as',rfl,_,ro,r⟩:=x
  rcases List.mem_cons.mp ha with rfl | ha
  · exact ro.ex
  · exact bl.ex r a ha
theorem be.ex {c:aa} {fp:List Addr} (x:be w G h c fp):∀ a∈fp,∃ o,h.get? a=some o:=by
 intro a ha
 cases c with
 | dead=>unfold be at x;subst x;contradiction
 | oc c=>unfold be at x;obtain ⟨b,rfl,ro⟩:=x;rw [List.mem_singleton] at ha;subst ha;exact ro.ex
 | inst C l own=>
  obtain ⟨x,dx,as,m,rfl,zz,_,zz⟩:=x;obtain ⟨_,ho⟩:=zz;obtain ⟨zy,zx⟩:=zz;obtain ⟨ox,hx,_⟩:=zy;obtain ⟨od,_,_,hd,_⟩:=zx
  rcases List.mem_cons.mp ha with rfl | ha
  · exact ⟨_,hx⟩
  rcases List.mem_cons.mp ha with rfl | ha
  · exact ⟨_,hd⟩
  exact ho.ex a ha
theorem aq.ex:∀ {Z:List aa} {O:Fp},aq w G h Z O->∀ a∈O.flatten,∃ o,h.get? a=some o
 | [],_,x,a,ha=>by unfold aq at x;subst x;simp at ha
 | _::_,_,x,a,ha=>by
  obtain ⟨fp,O',rfl,cr,r⟩:=x
  rw [List.flatten_cons] at ha
  rcases List.mem_append.mp ha with ha | ha
  · exact cr.ex a ha
  · exact aq.ex r a ha
theorem aW (h:Heap):h.get? h.objs.size=none:=by
 cases e:h.get? h.objs.size with
 | none=>rfl
 | some o'=>exact absurd (Heap.lt_size e) (Nat.lt_irrefl _)
theorem St.own_ex (S:St w base fx G O Z U h):∀ a∈fx.own,∃ o,h.get? a=some o:=by
 intro a ha
 rcases List.mem_cons.mp ha with rfl | ha
 · obtain ⟨_,zz,_⟩:=S.fr.ns;obtain ⟨o,_,_,ho,_⟩:=zz;exact ⟨o,ho⟩
 · obtain ⟨p,hp,rfl⟩:=List.mem_map.mp ha
   clear ha;obtain ⟨co,zz,_⟩:=S.fr.ce p hp;obtain ⟨o,e,_⟩:=zz
   exact ⟨_,e⟩
theorem St.frs_ex (S:St w base fx G O Z U h):∀ a∈fx.frs,∃ o,h.get? a=some o:=fun a ha=>let ⟨_,o',e,_⟩:=S.ff.mem ha;⟨o',e⟩
theorem St.push (S:St w base fx G O Z U h) (o:Obj) (hf:o.isFreed=false):
  St w base fx (gX G h.objs.size o) O Z U (h.push o)/\Ext [] fx.frs G O h (gX G h.objs.size o) O (h.push o):=by
 have fresh:=aW h
 have gn:G h.objs.size=none:=by
  cases e:G h.objs.size with
  | none=>rfl
  | some o'=>rw [S.sub _ _ e] at fresh;contradiction
 have k:Sub G (gX G h.objs.size o):=jV gn
 have pk:∀ b o',h.get? b=some o'->(h.push o).get? b=some o':=fun b o' e=>Heap.get?_push_of_some o e
 have ne:∀ a,(∃ o',h.get? a=some o')->a≠h.objs.size:=fun a ⟨o',e⟩ q=>by subst q;exact nS (fresh.symm.trans e)
 refine ⟨{bs:=fun b o' e=>k _ _ (S.bs b o' e),sub:=fun b o' e=>?_,cells:=S.cells.mono k fun a _ o' e=>pk a o' e,nd:=S.nd,out:=fun a ha=>?_,fr:=?_,oo:=fun a ha=>?_,ond:=S.ond,fo:=fun a ha=>?_,ff:=?_},?_⟩
 · unfold gX at e
   split at e
   · rename_i q;cases e;subst q;exact Heap.get?_push_size _ hf
   · exact pk _ _ (S.sub _ _ e)
 · rw [gW G o (ne a (S.cells.ex a ha))];exact S.out a ha
 · exact S.fr.mono k (IxE.refl _) (fun a _ o' e=>⟨o'.slots,pk a o' e⟩)
 · exact ⟨by rw [gW G o (ne a (S.own_ex a ha))];exact (S.oo a ha).1,(S.oo a ha).2⟩
 · exact ⟨(S.fo a ha).1,by rw [gW G o (ne a (S.frs_ex a ha))];exact (S.fo a ha).2⟩
 · exact S.ff.of_keeps fun b o' e _=>⟨o',pk b o' e,rfl⟩
 · refine ⟨k,IxE.refl _,fun b o' e=>⟨o',pk b o' e⟩,fun b o' e _ _ _=>pk b o' e,fun b o' e _ _ _=>⟨o'.slots,pk b o' e⟩,fun b hb=>.inl hb,fun b o' e=>?_⟩
   unfold gX at e
   split at e
   · rename_i q;subst q;exact .inr (.inl fresh)
   · exact .inl e
theorem IxE.append (O κ:Fp):IxE O (O++κ):=⟨by simp,fun k fp fp' e e'=>.inr (by
 have hk:=(List.getElem?_eq_some_iff.mp e).1
 rw [List.getElem?_append_left hk,e] at e';cases e';rfl)⟩
theorem St.newCell (S:St w base fx G O Z U h) {c:aa} {fp:List Addr} (pk:∀ b o,h.get? b=some o->h'.get? b=some o) (hc:be w G h' c fp) (hn:∀ a∈fp,h.get? a=none) (hd:fp.Nodup):
  St w base fx G (O++[fp]) (Z++[c]) U h'/\Ext [] fx.frs G O h G (O++[fp]) h':=by
 have gn:∀ a∈fp,G a=none:=fun a ha=>by
  cases e:G a with
  | none=>rfl
  | some o=>have:=S.sub _ _ e;rw [hn a ha] at this;contradiction
 have ap:∀ a,(∃ o,h.get? a=some o)->a∉fp:=fun a ⟨o,e⟩ ha=>by exact nS ((hn a ha).symm.trans e)
 have fl:(O++[fp]).flatten=O.flatten++fp:=by simp
 refine ⟨{bs:=S.bs,sub:=fun b o e=>pk b o (S.sub b o e),cells:=(S.cells.mono (Sub.refl _) fun a _ o e=>pk a o e).append ?_,nd:=?_,out:=?_,fr:=?_,oo:=fun a ha=>?_,ond:=S.ond,fo:=fun a ha=>?_,ff:=?_},?_⟩
 · unfold aq;exact ⟨fp,[],rfl,hc,rfl⟩
 · rw [fl,List.nodup_append]
   exact ⟨S.nd,hd,fun a ha b hb q=>by subst q;exact ap a (S.cells.ex a ha) hb⟩
 · intro a ha
   rw [fl] at ha
   rcases List.mem_append.mp ha with ha | ha
   · exact S.out a ha
   · exact gn a ha
 · exact S.fr.mono (Sub.refl _) (IxE.append _ _) (fun a _ o e=>⟨o.slots,pk a o e⟩)
 · refine ⟨(S.oo a ha).1,fun q=>?_⟩
   rw [fl] at q
   rcases List.mem_append.mp q with q | q
   · exact (S.oo a ha).2 q
   · exact ap a (S.own_ex a ha) q
 · refine ⟨fun q=>?_,(S.fo a ha).2⟩
   rw [fl] at q
   rcases List.mem_append.mp q with q | q
   · exact (S.fo a ha).1 q
   · exact ap a (S.frs_ex a ha) q
 · exact S.ff.of_keeps fun b o e _=>⟨o,pk b o e,rfl⟩
 · refine ⟨Sub.refl _,IxE.append _ _,fun b o e=>⟨o,pk b o e⟩,fun b o e _ _ _=>pk b o e,fun b o e _ _ _=>⟨o.slots,pk b o e⟩,fun b hb=>?_,fun b o e=>.inl e⟩
   rw [fl] at hb
   rcases List.mem_append.mp hb with hb | hb
   · exact .inl hb
   · exact .inr (hn b hb)
theorem ja {O:Fp} {k:Nat} {fp:List Addr} {a:Addr} (ha:a∈(O.set k fp).flatten):a∈fp\/a∈O.flatten:=by
 obtain ⟨l,hl,hal⟩:=List.mem_flatten.mp ha
 clear ha;rcases List.mem_or_eq_of_mem_set hl with hl | rfl
 · exact .inr (List.mem_flatten.mpr ⟨l,hl,hal⟩)
 · exact .inl hal
theorem ay {O:Fp} {k:Nat} {fp:List Addr} {a:Addr} (e:O[k]?=some fp) (ha:a∈fp):a∈O.flatten:=List.mem_flatten.mpr ⟨fp,List.mem_of_getElem? e,ha⟩
theorem aq.upd:∀ {Z:List aa} {O:Fp} {k:Nat} {c:aa} {fp:List Addr},aq w G h Z O->O.flatten.Nodup->O[k]?=some fp->be w G h' c fp->
  (∀ b∈O.flatten,b∉fp->∀ o,h.get? b=some o->h'.get? b=some o)->aq w G h' (Z.set k c) O:=by
 intro Z
 induction Z with
 | nil=>intro O k c fp x _ e;obtain rfl:=(show O=[] from x);exact nS e
 | cons c0 Z ih=>
  intro O k c fp x nd e y kp
  obtain ⟨fp0,O',rfl,c0,r⟩:=x
  rw [List.flatten_cons,List.nodup_append] at nd
  cases k with
  | zero=>
   obtain rfl:=Option.some.inj e
   exact ⟨_,O',rfl,y,r.mono (Sub.refl _) fun a ha o e=>kp a (by rw [List.flatten_cons];exact List.mem_append_right _ ha) (fun q=>nd.2.2 a q a ha rfl) o e⟩
  | succ k=>
   exact ⟨fp0,O',rfl,c0.mono (Sub.refl _) fun a ha o e'=>kp a (by rw [List.flatten_cons];exact List.mem_append_left _ ha) (fun q=>nd.2.2 a ha a (ay (show O'[k]?=some fp from e) q) rfl) o e',
    ih r nd.2.1 e y fun b hb hf o e'=>kp b (by rw [List.flatten_cons];exact List.mem_append_right _ hb) hf o e'⟩
theorem St.upd (S:St w base fx G O Z U h) {k:Nat} {c:aa} {fp:List Addr} (e:O[k]?=some fp) (hc:be w G h' c fp)
  (dom:∀ b o,h.get? b=some o->∃ o',h'.get? b=some o') (kp:∀ b o,b∉fp->h.get? b=some o->h'.get? b=some o):
  St w base fx G O (Z.set k c) U h'/\Ext [] fx.frs G O h G O h':=by
 have ofp:∀ a∈fx.own,a∉fp:=fun a ha q=>(S.oo a ha).2 (ay e q)
 have ffp:∀ a∈fx.frs,a∉fp:=fun a ha q=>(S.fo a ha).1 (ay e q)
 refine ⟨{bs:=S.bs,sub:=fun b o g=>kp b o (fun q=>?_) (S.sub b o g),cells:=S.cells.upd S.nd e hc fun b _ hb o g=>kp b o hb g,nd:=S.nd,out:=S.out,fr:=?_,oo:=S.oo,ond:=S.ond,fo:=S.fo,ff:=?_},?_⟩
 · exact nS ((S.out b (ay e q)).symm.trans g)
 · exact S.fr.mono (Sub.refl _) (IxE.refl _) (fun a ha o g=>⟨o.slots,kp a o (ofp a ha) g⟩)
 · have key:∀ {l:List Env},(∀ a∈l.filterMap (·.frame),a∉fp)->h.FunFrames base l->h'.FunFrames base l:=by
    intro l
    induction l with
    | nil=>intro _ _;trivial
    | cons env r ih=>
     rintro hf ⟨h1,⟨L,o,h2,h3,h4,h5⟩,h6⟩
     have hm:L∈(env::r).filterMap (·.frame):=by rw [List.filterMap_cons,h2];exact .head _
     exact ⟨h1,⟨L,o,h2,h3,kp L o (hf L hm) h4,h5⟩,ih (fun a ha=>hf a (by rw [List.filterMap_cons,h2];exact .tail _ ha)) h6⟩
   exact key ffp S.ff
 · exact ⟨Sub.refl _,IxE.refl _,dom,fun b o g h1 _ _=>kp b o (fun q=>h1 (ay e q)) g,fun b o g _ h2 _=>⟨o.slots,kp b o (fun q=>h2 (ay e q)) g⟩,fun b hb=>.inl hb,fun b o g=>.inl g⟩
end
end Mine
namespace Mine
open PySem PySem.W PyProof.Rows
theorem bv:∀ {O:Fp} {k:Nat} {fp fp':List Addr},O.flatten.Nodup->O[k]?=some fp->fp'.Nodup->(∀ a∈fp',a∈fp\/a∉O.flatten)->(O.set k fp').flatten.Nodup
 | [],_,_,_,_,e,_,_=>by simp at e
 | f0::O,0,fp,fp',nd,e,nd',hx=>by
  simp at e;subst e
  show (fp'::O).flatten.Nodup
  rw [List.flatten_cons,List.nodup_append] at nd ⊢
  refine ⟨nd',nd.2.1,fun a ha b hb q=>?_⟩
  subst q
  rcases hx a ha with q | q
  · exact nd.2.2 a q a hb rfl
  · exact q (by rw [List.flatten_cons];exact List.mem_append_right _ hb)
 | f0::O,k+1,fp,fp',nd,e,nd',hx=>by
  simp at e
  show (f0::O.set k fp').flatten.Nodup
  rw [List.flatten_cons,List.nodup_append] at nd ⊢
  refine ⟨nd.1,bv nd.2.1 e nd' (fun a ha=>(hx a ha).imp id fun q r=>q (by rw [List.flatten_cons];exact List.mem_append_right _ r)),fun a ha b hb q=>?_⟩
  subst q
  rcases ja hb with hb | hb
  · rcases hx a hb with q | q
    · exact nd.2.2 a ha a (ay e q) rfl
    · exact q (by rw [List.flatten_cons];exact List.mem_append_left _ ha)
  · exact nd.2.2 a ha a hb rfl
noncomputable def oL:Addr:=44
noncomputable def fM (h0 h:Heap) (e:Addr) (why:Str) (tr:Bool):Prop:=
 ∃ oe vs dx t mE a0,h.get? e=some oe/\oe.cls=.ref oL/\oe.data=.fields vs/\oe.dict=some dx/\dx≠e/\h.Ns1 dx mE/\mE "why"=some (.str why t)/\h0.get? e=none/\h0.get? dx=none/\vs[0]?=some a0/\vs.size=6/\
  (match tr with
   | false=>vs[1]?=some .none
   | true=>∃ T oT ts,vs[1]?=some (.ref T)/\h0.get? T=none/\T≠e/\T≠dx/\h.get? T=some oT/\oT.data=.fields ts/\ts[3]?=some .none)
noncomputable def qw (h0 h:Heap) (x:Value) (why:Str):Prop:=∃ e tr,x=.ref e/\fM h0 h e why tr
theorem cW {h0 h1:Heap} (k:∀ b o,h0.get? b=some o->∃ o',h1.get? b=some o') {a:Addr} (e:h1.get? a=none):h0.get? a=none:=by
 cases q:h0.get? a with
 | none=>rfl
 | some o=>obtain ⟨o',e'⟩:=k a o q;rw [e] at e';contradiction
theorem qw.weaken {h0 h1 h:Heap} (k:∀ b o,h0.get? b=some o->∃ o',h1.get? b=some o') {x:Value} {why:Str} (r:qw h1 h x why):qw h0 h x why:=by
 obtain ⟨e,tr,rfl,oe,vs,dx,t,zz⟩:=r;obtain ⟨mE,a0,h1,h2,h3,h4,h5,zy⟩:=zz;obtain ⟨h6,h7,h8,h9,h10,h11,h12⟩:=zy
 refine ⟨e,tr,rfl,oe,vs,dx,t,mE,a0,h1,h2,h3,h4,h5,h6,h7,cW k h8,cW k h9,h10,h11,?_⟩
 cases tr with
 | false=>exact h12
 | true=>obtain ⟨T,oT,ts,k1,k2,k3⟩:=h12;exact ⟨T,oT,ts,k1,cW k k2,k3⟩
section
variable (w:World) (base:Heap)
noncomputable def KQ {α β:Type} (fx:Fx) (U:Loc) (G:PH) (O:Fp) (s:Shared) (R:PH->Fp->β->α->Prop) (Q:β->List aa->Prop) (QQ:α->Shared->Prop):Prop:=
 ∀ G' O' Z' b a h' tk,Ext [] fx.frs G O s.heap G' O' h'->St w base fx G' O' Z' U h'->R G' O' b a->Q b Z'->QQ a {s with heap:=h',toks:=tk}
noncomputable def KE (fx:Fx) (U:Loc) (G:PH) (O:Fp) (s:Shared) (E:Str->List aa->Prop) (EE:Value->Shared->Prop):Prop:=
 ∀ G' O' Z' why x h' tk,Ext [] fx.frs G O s.heap G' O' h'->St w base fx G' O' Z' U h'->qw s.heap h' x why->E why Z'->EE x {s with heap:=h',toks:=tk}
noncomputable def Den {α β:Type} (fx:Fx) (U:Loc) (G:PH) (O:Fp) (Z:List aa) (t:Sem α) (R:PH->Fp->β->α->Prop) (Q:β->List aa->Prop) (E:Str->List aa->Prop):Prop:=
 ∀ (s:Shared),St w base fx G O Z U s.heap->∀ (QQ:α->Shared->Prop) (EE:Value->Shared->Prop),
  KQ w base fx U G O s R Q QQ->
  KE w base fx U G O s E EE->
  wpAny (model PR w) fx.A t QQ EE s
noncomputable abbrev bN (fx:Fx) (U:Loc) (G:PH) (O:Fp) (Z:List aa) (t:Sem Value) (Q:V->List aa->Prop) (E:Str->List aa->Prop):Prop:=Den w base fx U G O Z t (VR w) Q E
noncomputable abbrev nq (fx:Fx) (U:Loc) (G:PH) (O:Fp) (Z:List aa) (t:Sem Bool) (Q:Bool->List aa->Prop) (E:Str->List aa->Prop):Prop:=Den w base fx U G O Z t (fun _ _ b a=>a=b) Q E
end
section
variable {w:World} {base:Heap} {fx:Fx} {U:Loc} {G:PH} {O:Fp} {Z:List aa} {E:Str->List aa->Prop} {α β γ δ:Type}
theorem Den.still {t:Sem α} {R:PH->Fp->β->α->Prop} {Q:β->List aa->Prop} {b:β} (hQ:Q b Z)
 (h:∀ (s:Shared),St w base fx G O Z U s.heap->∀ (QQ:α->Shared->Prop) (EE:Value->Shared->Prop),(∀ a tk,R G O b a->QQ a {s with toks:=tk})->wpAny (model PR w) fx.A t QQ EE s):
 Den w base fx U G O Z t R Q E:=fun s S QQ EE hq _=>h s S QQ EE fun a tk r=>hq G O Z b a s.heap tk (Ext.refl ..) S r hQ
theorem Den.pure {a:α} {R:PH->Fp->β->α->Prop} {Q:β->List aa->Prop} {b:β} (hQ:Q b Z) (r:R G O b a):Den w base fx U G O Z (pure a) R Q E:=
 Den.still hQ fun s _ _ _ hq=>wpAny_pure (hq a s.toks r)
theorem Den.made {t:Sem α} {R:PH->Fp->β->α->Prop} {Q:β->List aa->Prop} {b:β} (hQ:Q b Z)
  (h:∀ (s:Shared),St w base fx G O Z U s.heap->∃ o:Obj,o.isFreed=false/\∀ (QQ:α->Shared->Prop) (EE:Value->Shared->Prop),
   (∀ a tk,R (gX G s.heap.objs.size o) O b a->QQ a {s with heap:=s.heap.push o,toks:=tk})->wpAny (model PR w) fx.A t QQ EE s):
  Den w base fx U G O Z t R Q E:=fun s S QQ EE hq _=>by
 obtain ⟨o,hf,k⟩:=h s S
 obtain ⟨S',x⟩:=S.push o hf
 exact k QQ EE fun a tk r=>hq _ O Z b a _ tk x S' r hQ
end
end Mine
namespace Mine
open PySem PySem.W PyProof.Rows
noncomputable def grd (c:Bool) (P:Prop):Prop:=match c with
 | true=>P
 | false=>False
theorem ab {c:Bool} {P:Prop}:grd c P↔c=true/\P:=match c with
 | true=>⟨fun h=>⟨rfl,h⟩,fun h=>h.2⟩
 | false=>⟨False.elim,fun h=>nomatch h.1⟩
theorem ad {c:Bool} {P:Prop} (h:c=true) (p:P):grd c P:=ab.mpr ⟨h,p⟩
noncomputable def okB (n:Nat) (x:Int):Bool:=Nat.ble (Builtin.Int.intBits x) n
theorem fS {n:Nat} {x:Int}:okB n x=true↔Builtin.Int.intBits x<=n:=by unfold okB;exact ⟨Nat.le_of_ble_eq_true,Nat.ble_eq_true_of_le⟩
theorem Bs {x:Int} {n:Nat} (h:x.natAbs<2 ^ n):okB n x=true:=fS.mpr (PyProof.Rows.intBits_le h)
noncomputable def leB (x y:Int):Bool:=decide (x<=y)
noncomputable def ltB (x y:Int):Bool:=decide (x<y)
theorem ak {x y:Int}:leB x y=true↔x<=y:=decide_eq_true_iff
theorem cH {x y:Int}:ltB x y=true↔x<y:=decide_eq_true_iff
noncomputable def neB (x y:Int):Bool:=!decide (x=y)
theorem vh {x y:Int} (h:neB x y=true):x≠y:=by unfold neB at h;rw [Bool.not_eq_true'] at h;exact of_decide_eq_false h
theorem io {x y:Int} (h:Builtin.Int.intBits y<=4096):Builtin.divisionGoesByPylong x y=false:=by
 refine PyProof.noPylong_of_log2 ?_
 unfold Builtin.Int.intBits at h
 by_cases q:(y==0)=true
 · have:y=0:=by simpa using q
   clear q h;subst this;decide
 · rw [if_neg q] at h;omega
mutual
noncomputable def D.py:D->PyData
 | .nn=>.none | .bb b=>.bool b | .ii i=>.int i | .ss s=>.str s | .tu l=>.tuple (pyL l) | .li l=>.list (pyL l)
 | .bs _=>.dict [] | .ba _=>.dict [] | .di _=>.dict [] | .ob _ _=>.dict [] | .gl _=>.dict []
noncomputable def pyL:List D->List PyData
 | []=>[]
 | d::r=>d.py::pyL r
end
noncomputable def liD:D->Option (List D)
 | .li l=>some l
 | _=>none
noncomputable def liO:OC->Option (List D)
 | .li l=>some l
 | _=>none
noncomputable def liC:aa->Option (List D)
 | .oc d=>liO d
 | _=>none
noncomputable def ir (Z:List aa) (k:Nat):Option (List D):=match Z[k]? with
 | some c=>liC c
 | none=>none
theorem vA {d:D} {l:List D} (h:liD d=some l):d=.li l:=by
 cases d with
 | li m=>exact congrArg D.li (Option.some.inj h)
 | _=>exact af h
theorem Bz {c:aa} {l:List D} (h:liC c=some l):c=.oc (.li l):=by
 cases c with
 | oc d=>cases d with
  | li m=>exact congrArg (fun x=>aa.oc (.li x)) (Option.some.inj h)
  | _=>exact af h
 | _=>exact af h
theorem mF {Z:List aa} {k:Nat} {l:List D} (h:ir Z k=some l):Z[k]?=some (.oc (.li l)):=by
 unfold ir at h
 cases e:Z[k]? with
 | none=>rw [e] at h;exact af h
 | some c=>rw [e] at h;rw [Bz h]
theorem gS {Z:List aa} {k:Nat} {l:List D} (h:Z[k]?=some (.oc (.li l))):ir Z k=some l:=by unfold ir;rw [h];rfl
noncomputable def cm (Z:List aa):V->Option (List D)
 | .d d=>liD d
 | .ref k=>ir Z k
 | _=>none
noncomputable def mX (Z:List aa):V->Option D
 | .d x=>some x
 | .ref k=>(ir Z k).map .li
 | _=>none
section
variable {w:World} {base:Heap} {fx:Fx} {U:Loc} {G:PH} {O:Fp} {Z:List aa} {E:Str->List aa->Prop} {α β γ δ:Type} {h:Heap}
mutual
theorem DR.reads (k:∀ b o,G b=some o->h.get? b=some o):∀ {d:D} {c:Value},DR w G d c->d.py.canLay0=true->∃ as,Reads h c d.py as
 | .nn,c,r,_=>by unfold DR at r;subst r;exact ⟨_,.none⟩
 | .bb _,c,r,_=>by unfold DR at r;subst r;exact ⟨_,.bool _⟩
 | .ii _,c,r,_=>by unfold DR at r;obtain ⟨t,rfl⟩:=r;exact ⟨_,.int _ _⟩
 | .ss _,c,r,_=>by unfold DR at r;obtain ⟨t,rfl⟩:=r;exact ⟨_,.str _ _⟩
 | .tu l,c,r,e=>by
  obtain ⟨a,cs,rfl,g,rs⟩:=r
  obtain ⟨as,x⟩:=DRs.reads k rs e
  exact ⟨_,.tuple (k _ _ g) rfl rfl (by simpa [jt] using x)⟩
 | .li l,c,r,e=>by
  obtain ⟨a,cs,o,n,rfl,g,h1,zz⟩:=r;obtain ⟨h2,rs⟩:=zz
  obtain ⟨as,x⟩:=DRs.reads k rs e
  exact ⟨_,.list (k _ _ g) h1 h2 (by simpa using x)⟩
 | .bs _,_,_,e=>aX e
 | .ba _,_,_,e=>aX e
 | .di _,_,_,e=>aX e
 | .ob _ _,_,_,e=>aX e
 | .gl _,_,_,e=>aX e
theorem DRs.reads (k:∀ b o,G b=some o->h.get? b=some o):∀ {ds:List D} {cs:List Value},DRs w G ds cs->PyData.canLayAll0 (pyL ds)=true->∃ as,ReadsAll h cs (pyL ds) as
 | [],cs,r,_=>by unfold DRs at r;subst r;exact ⟨_,.nil⟩
 | d::ds,cs,r,e=>by
  obtain ⟨c,r',rfl,x,y⟩:=r
  have e':d.py.canLay0=true/\PyData.canLayAll0 (pyL ds)=true:=Bool.and_eq_true_iff.mp e
  obtain ⟨as,z⟩:=DR.reads k x e'.1
  obtain ⟨bs,z'⟩:=DRs.reads k y e'.2
  exact ⟨_,.cons z z'⟩
end
theorem VR.listOf (S:Sim w base G O Z h) {v:V} {c:Value} {l:List D} (r:VR w G O v c) (e:cm Z v=some l):∃ a cs,c=.ref a/\h.IsList a cs.toArray/\DRs w G l cs:=by
 cases v with
 | d x=>
  obtain rfl:=vA e
  obtain ⟨a,cs,o,n,rfl,g,h1,zz⟩:=r;obtain ⟨h2,rs⟩:=zz
  exact ⟨a,cs,rfl,⟨o,S.sub _ _ g,h1,n,h2⟩,rs⟩
 | ref k=>
  unfold VR at r
  obtain ⟨fp,hf,cr⟩:=S.cells.at (mF e)
  obtain ⟨a,rfl,cs,p,rs⟩:=cr
  exact ⟨a,cs,r.2 a [] hf,p.isList,rs⟩
 | _=>exact af e
theorem jq {Z:List aa} {k:Nat} {x:D} (e:mX Z (.ref k)=some x):∃ l,x=.li l/\ir Z k=some l:=by
 obtain ⟨l,z,q⟩:=Option.map_eq_some_iff.mp (show (ir Z k).map D.li=some x from e)
 exact ⟨l,q.symm,z⟩
theorem VR.dOf (S:Sim w base G O Z h) {v:V} {c:Value} {x:D} (r:VR w G O v c) (e:mX Z v=some x) (hl:x.py.canLay0=true):∃ as,Reads h c x.py as:=by
 cases v with
 | d y=>
  obtain rfl:=Option.some.inj e
  exact DR.reads S.sub r hl
 | ref k=>
  obtain ⟨l,rfl,z⟩:=jq e
  obtain ⟨a,cs,rfl,zz,rs⟩:=VR.listOf S r (l:=l) z;obtain ⟨o,ho,h1,n,h2⟩:=zz
  obtain ⟨as,z⟩:=DRs.reads S.sub rs hl
  exact ⟨_,.list ho h1 h2 (by simpa using z)⟩
 | _=>exact af e
noncomputable def iiD:D->Option Int
 | .ii x=>some x
 | _=>none
noncomputable def iiV:V->Option Int
 | .d d=>iiD d
 | _=>none
theorem jW {d:D} {x:Int} (h:iiD d=some x):d=.ii x:=by
 cases d with
 | ii y=>exact congrArg D.ii (Option.some.inj h)
 | _=>exact af h
theorem fy {v:V} {x:Int} (h:iiV v=some x):v=.d (.ii x):=by
 cases v with
 | d d=>exact congrArg V.d (jW h)
 | _=>exact af h
noncomputable def ssD:D->Option Str
 | .ss x=>some x
 | _=>none
noncomputable def ssV:V->Option Str
 | .d d=>ssD d
 | _=>none
theorem fi {d:D} {x:Str} (h:ssD d=some x):d=.ss x:=by
 cases d with
 | ss y=>exact congrArg D.ss (Option.some.inj h)
 | _=>exact af h
theorem gh {v:V} {x:Str} (h:ssV v=some x):v=.d (.ss x):=by
 cases v with
 | d d=>exact congrArg V.d (fi h)
 | _=>exact af h
noncomputable def bbD:D->Option Bool
 | .bb x=>some x
 | _=>none
noncomputable def bbV:V->Option Bool
 | .d d=>bbD d
 | _=>none
theorem CC {d:D} {x:Bool} (h:bbD d=some x):d=.bb x:=by
 cases d with
 | bb y=>exact congrArg D.bb (Option.some.inj h)
 | _=>exact af h
theorem m8 {v:V} {x:Bool} (h:bbV v=some x):v=.d (.bb x):=by
 cases v with
 | d d=>exact congrArg V.d (CC h)
 | _=>exact af h
noncomputable def zs (op:Operator) (x y:Int):Option (Bool×Int):=match op with
 | .Add=>some (true,x+y)
 | .Sub=>some (true,x - y)
 | .Mult=>some (okB 4096 x&&okB 4096 y,x*y)
 | .FloorDiv=>some (neB y 0&&okB 4096 y,x.fdiv y)
 | .Mod=>some (neB y 0,x.fmod y)
 | .Pow=>some (leB 0 y&&leB y 4096&&okB 64 x,x ^ y.toNat)
 | .LShift=>some (leB 0 y&&leB y 4096&&okB 4096 x,x*2 ^ y.toNat)
 | .RShift=>some (leB 0 y,x.fdiv (2 ^ y.toNat))
 | .BitAnd=>some (true,Builtin.bitAnd x y)
 | .BitOr=>some (true,Builtin.bitOr x y)
 | .BitXor=>some (true,Builtin.bitXor x y)
 | _=>none
noncomputable def zL (Z:List aa) (a b:V):Option (Bool×D):=match ssV a,ssV b with
 | some x,some y=>some (Nat.ble (x++y).length 16777216,.ss (x++y))
 | _,_=>match cm Z a,cm Z b with
  | some l,some m=>some (Nat.ble (l.length+m.length) 16777216,.li (l++m))
  | _,_=>none
noncomputable def zp (Z:List aa) (a b:V):Option (Bool×D):=match a,iiV b with
 | .ref k,some n=>match ir Z k with
  | some l=>some (Nat.ble l.length 64&&leB 0 n&&leB n 64,.li (List.replicate n.toNat l).flatten)
  | none=>none
 | _,_=>none
noncomputable def xb (op:Operator) (Z:List aa) (a b:V):Option (Bool×D):=match iiV a,iiV b with
 | some x,some y=>match zs op x y with
  | some p=>some (p.1,.ii p.2)
  | none=>none
 | _,_=>match op with
  | .Add=>zL Z a b
  | .Mult=>zp Z a b
  | _=>none
noncomputable def oV (op:Operator) (Z:List aa) (a b:V) (Q:V->Prop):Prop:=match xb op Z a b with
 | some p=>grd p.1 (Q (.d p.2))
 | none=>False
theorem VR.ii {x:Int} {c:Value} (r:VR w G O (.d (.ii x)) c):∃ t,c=.int x t:=by unfold VR DR at r;exact r
theorem VR.ss {x:Str} {c:Value} (r:VR w G O (.d (.ss x)) c):∃ t,c=.str x t:=by unfold VR DR at r;exact r
theorem VR.bb {x:Bool} {c:Value} (r:VR w G O (.d (.bb x)) c):c=.bool x:=by unfold VR DR at r;exact r
theorem VR.nn {c:Value} (r:VR w G O (.d .nn) c):c=.none:=by unfold VR DR at r;exact r
theorem VR.mk_ii (x:Int) (t:Tok):VR w G O (.d (.ii x)) (.int x t):=by unfold VR DR;exact ⟨t,rfl⟩
theorem VR.mk_ss (x:Str) (t:Tok):VR w G O (.d (.ss x)) (.str x t):=by unfold VR DR;exact ⟨t,rfl⟩
theorem VR.mk_bb (x:Bool):VR w G O (.d (.bb x)) (.bool x):=by unfold VR DR;rfl
theorem VR.mk_nn:VR w G O (.d .nn) .none:=by unfold VR DR;rfl
theorem DRs.len:∀ {ds:List D} {cs:List Value},DRs w G ds cs->cs.length=ds.length
 | [],cs,r=>by unfold DRs at r;subst r;rfl
 | d::ds,cs,r=>by unfold DRs at r;obtain ⟨c,r',rfl,_,y⟩:=r;simp [DRs.len y]
theorem DRs.append:∀ {ds es:List D} {cs bs:List Value},DRs w G ds cs->DRs w G es bs->DRs w G (ds++es) (cs++bs)
 | [],_,cs,_,r,q=>by unfold DRs at r;subst r;exact q
 | d::ds,_,cs,_,r,q=>by
  obtain ⟨c,r',rfl,x,y⟩:=r
  show DRs w G (d::(ds++_)) (c::(r'++_))
  exact ⟨c,_,rfl,x,DRs.append y q⟩
theorem ll {A:Around} {EE:Value->Shared->Prop} {s:Shared} {l b:Addr} {vs ws:List Value} {Q:Value->Shared->Prop} (hl:s.heap.IsList l vs.toArray) (hb:s.heap.IsList b ws.toArray)
  (hsz:vs.length+ws.length<=sizeLine)
  (h:Q (.ref s.heap.objs.size) {s with heap:=s.heap.push {cls:=.type "list",data:=.seq (vs++ws).toArray}}):
  wpAny (model PR w) A (binaryOp .Add (.ref l) (.ref b)) Q EE s:=by
 obtain ⟨zz,ho,hc,n,hd⟩:=hl;obtain ⟨cls,dd,data,sl⟩:=zz
 obtain ⟨zz,ho2,hc2,n2,hd2⟩:=hb;obtain ⟨cls2,dd2,data2,sl2⟩:=zz
 simp only at hc hd hc2 hd2
 subst hc hd hc2 hd2
 have e:vs.toArray++ws.toArray=(vs++ws).toArray:=by simp
 refine concat_meets ⟨_,ho,rfl⟩ ⟨_,ho2,rfl⟩ PySem.noFill_list_add PySem.seq_list_add PySem.F.slot_list_add PySem.F.entry_list_add (PySem.F.args_list_add_2 _ _) (list_addW l b vs.toArray ws.toArray n n2 dd dd2 sl sl2 (by simpa using hsz)) ⟨ho,ho2,?_⟩
 rw [e]
 exact h
theorem lO:∀ (n:Nat) (xs acc:Array Value),(List.foldl (fun x1 x2=>x1++x2) acc (List.replicate n xs)).toList=acc.toList++(List.replicate n xs.toList).flatten
 | 0,_,acc=>by simp
 | n+1,xs,acc=>by rw [List.replicate_succ,List.foldl_cons,lO n xs];simp [List.replicate_succ]
theorem DRs.repl {ds:List D} {cs:List Value} (r:DRs w G ds cs):∀ n:Nat,DRs w G (List.replicate n ds).flatten (List.replicate n cs).flatten
 | 0=>by simp;rfl
 | n+1=>by rw [List.replicate_succ,List.replicate_succ,List.flatten_cons,List.flatten_cons];exact r.append (DRs.repl r n)
theorem yA {op:Operator} {x y:Int} {c:Bool} {z:Int} {t u:Tok} (e:zs op x y=some (c,z)) (hc:c=true) {A:Around} {EE:Value->Shared->Prop} {QQ:Value->Shared->Prop} {s:Shared}
  (k:∀ t tk,QQ (.int z t) {s with toks:=tk}):wpAny (model PR w) A (binaryOp op (.int x t) (.int y u)) QQ EE s:=by
 exists w,op,x,y,c,z,t,u,A,EE,QQ,s,_ e hc k
 subst hc
 cases op with
 | Add=>obtain ⟨-,rfl⟩:=Prod.mk.inj (Option.some.inj e);exact wpAny_add_int (k _ _)
 | Sub=>obtain ⟨-,rfl⟩:=Prod.mk.inj (Option.some.inj e);exact PyProof.Rows.sub_int' (k _ _)
 | Mult=>
  obtain ⟨c,rfl⟩:=Prod.mk.inj (Option.some.inj e)
  rw [Bool.and_eq_true] at c
  exact PyProof.Rows.mul_int (k _ _) (IntMulOk.of_bits (Nat.le_trans (fS.mp c.1) (by decide)) (Nat.le_trans (fS.mp c.2) (by decide)))
 | FloorDiv=>
  obtain ⟨c,rfl⟩:=Prod.mk.inj (Option.some.inj e)
  rw [Bool.and_eq_true] at c
  exact PyProof.Rows.floordiv_int (vh c.1) (k _ _) (.inl (io (fS.mp c.2)))
 | Mod=>obtain ⟨c,rfl⟩:=Prod.mk.inj (Option.some.inj e);exact PyProof.Rows.mod_int' (vh c) (k _ _)
 | Pow=>
  obtain ⟨c,rfl⟩:=Prod.mk.inj (Option.some.inj e)
  rw [Bool.and_eq_true,Bool.and_eq_true] at c
  have c1:=ak.mp c.1.1
  refine PyProof.Rows.pow_int c1 ?_ (k _ _)
  exact Int.le_trans (Int.mul_le_mul (Int.ofNat_le.mpr (fS.mp c.2)) (ak.mp c.1.2) c1 (by decide)) (by decide)
 | LShift=>
  obtain ⟨c,rfl⟩:=Prod.mk.inj (Option.some.inj e)
  rw [Bool.and_eq_true,Bool.and_eq_true] at c
  have c1:=ak.mp c.1.1
  have c2:=ak.mp c.1.2
  refine PyProof.Rows.lshift_int c1 ?_ (k _ _)
  have h1:(Builtin.Int.intBits _:Int)<=4096:=Int.ofNat_le.mpr (fS.mp c.2)
  have:(2:Int) ^ 27=134217728:=by decide
  omega
 | RShift=>obtain ⟨c,rfl⟩:=Prod.mk.inj (Option.some.inj e);exact PyProof.Rows.rshift_int (ak.mp c) (k _ _)
 | BitAnd=>obtain ⟨-,rfl⟩:=Prod.mk.inj (Option.some.inj e);exact PyProof.Rows.and_int (k _ _)
 | BitOr=>obtain ⟨-,rfl⟩:=Prod.mk.inj (Option.some.inj e);exact PyProof.Rows.or_int (k _ _)
 | BitXor=>obtain ⟨-,rfl⟩:=Prod.mk.inj (Option.some.inj e);exact PyProof.Rows.xor_int (k _ _)
 | _=>exact af e
theorem yC {op:Operator} {a b:V} {ca cb:Value} {Q:V->List aa->Prop} (ra:VR w G O a ca) (rb:VR w G O b cb) (q:oV op Z a b fun v=>Q v Z):
  bN w base fx U G O Z (binaryOp op ca cb) Q E:=by
 exists w,base,fx,U,G,O,Z,E,op,a,b,ca,cb,Q,_ ra rb q
 unfold oV at q
 split at q
 · rename_i p e
   obtain ⟨c,q⟩:=ab.mp q
   unfold xb at e
   split at e
   · rename_i x y e1 e2
     obtain rfl:=fy e1;obtain rfl:=fy e2
     split at e
     · rename_i z e3
       cases e
       obtain ⟨t,rfl⟩:=ra.ii;obtain ⟨u,rfl⟩:=rb.ii
       exact Den.still q fun s S QQ EE k=>yA e3 c fun t tk=>k _ _ (VR.mk_ii _ _)
     · exact af e
   · rename_i hn;clear hn
     split at e
     · unfold zL at e
       split at e
       · rename_i x y e1 e2
         obtain rfl:=gh e1;obtain rfl:=gh e2
         cases e
         obtain ⟨t,rfl⟩:=ra.ss;obtain ⟨u,rfl⟩:=rb.ss
         have c':(x++y).length<=sizeLine:=Nat.le_of_ble_eq_true c
         refine Den.still q fun s S QQ EE k=>P.add_str ?_
         by_cases h1:(x.length==0)=true
         · rw [if_pos h1]
           have e:x++y=y:=PySem.Str.append_left_empty h1
           rw [e] at k
           exact k _ s.toks (VR.mk_ss _ _)
         · rw [if_neg h1]
           by_cases h2:(y.length==0)=true
           · rw [if_pos h2]
             have e:x++y=x:=PySem.Str.append_right_empty h2
             rw [e] at k
             exact k _ s.toks (VR.mk_ss _ _)
           · rw [if_neg h2]
             exact ⟨c',k _ _ (VR.mk_ss _ _)⟩
       · split at e
         · rename_i l m e1 e2
           cases e
           have c':l.length+m.length<=sizeLine:=Nat.le_of_ble_eq_true c
           refine fun s S QQ EE hq he=>?_
           obtain ⟨a',cs,rfl,il,rl⟩:=VR.listOf S.toSim ra e1
           obtain ⟨b',ds,rfl,jl,rm⟩:=VR.listOf S.toSim rb e2
           obtain ⟨S',x⟩:=S.push {cls:=.type "list",data:=.seq (cs++ds).toArray} rfl
           refine ll il jl (by rw [rl.len,rm.len];exact c') ?_
           refine hq _ O Z (.d (.li (l++m))) _ _ s.toks x S' ?_ q
           exact ⟨_,_,_,_,rfl,cz ..,rfl,rfl,(rl.append rm).mono x.sub⟩
         · exact af e
     · unfold zp at e
       split at e
       · rename_i k n e2
         obtain rfl:=fy e2
         obtain ⟨t,rfl⟩:=rb.ii
         split at e
         · rename_i l hk
           cases e
           rw [Bool.and_eq_true,Bool.and_eq_true] at c
           have c0:=Nat.le_of_ble_eq_true c.1.1
           have c1:=ak.mp c.1.2
           have c2:=ak.mp c.2
           refine fun s S QQ EE hq he=>?_
           obtain ⟨fp,ek,cr⟩:=S.cells.at (mF hk)
           obtain ⟨a,rfl,cs,zz,rs⟩:=cr;obtain ⟨m,p⟩:=zz
           unfold VR at ra
           rw [ra.2 a [] ek]
           have hl:=rs.len
           have hmul:cs.length*n.toNat<=64*64:=Nat.mul_le_mul (by omega) (by omega)
           refine wpAny_binaryOp_repeat_ref (T:="list") (U:="int") (by decide) ⟨_,p,rfl⟩ (fun s'=>typeIs_int s' n t) noFill_list_mul PySem.F.fills_int_mul PySem.F.slot_int_rmul repeat_list PySem.F.slot_int_index.lookup
            (call_meets PySem.F.slot_int_rmul (typeIs_int s n t) PySem.F.entry_int_rmul (PySem.F.args_int_rmul_2 _ _) (int___rmul___int_list n t a cs.toArray m)
             ⟨p,rfl,⟨_,p,rfl⟩,call_meets PySem.F.slot_list_mul ⟨_,p,rfl⟩ PySem.F.entry_list_mul (PySem.F.args_list_mul_2 _ _)
              (AutoListH.list___mul___list_int_3 a cs.toArray m n t (by simp [Builtin.List.listFitsIndex];omega) (by rw [List.size_toArray];omega) (by
               simp [Builtin.List.listTooLong,sizeLine];omega))
              ⟨p,?_⟩⟩)
           have key:(List.foldl (fun x1 x2=>x1++x2) (#[]:Array Value) (List.replicate (if cs.toArray.isEmpty=true then 0 else n.toNat) cs.toArray))=((List.replicate n.toNat cs).flatten).toArray:=by
            apply Array.toList_inj.mp
            rw [lO]
            cases cs with
            | nil=>simp
            | cons x r=>simp
           rw [key]
           obtain ⟨S',x⟩:=S.push {cls:=.type "list",data:=.seq ((List.replicate n.toNat cs).flatten).toArray} rfl
           refine hq _ O Z _ _ _ s.toks x S' ?_ q
           exact ⟨_,_,_,_,rfl,cz ..,rfl,rfl,(rs.repl _).mono x.sub⟩
         · exact af e
       · exact af e
     · exact af e
 · exact q.elim
end
end Mine
namespace Mine
open PySem PySem.W PyProof.Rows PySem.SeqAt
noncomputable def diD:D->Option (List (Str×D))
 | .di l=>some l
 | _=>none
noncomputable def diO:OC->Option (List (Str×D))
 | .di l=>some l
 | _=>none
noncomputable def diC:aa->Option (List (Str×D))
 | .oc d=>diO d
 | _=>none
noncomputable def sE (Z:List aa) (k:Nat):Option (List (Str×D)):=match Z[k]? with
 | some c=>diC c
 | none=>none
theorem qa {d:D} {l:List (Str×D)} (h:diD d=some l):d=.di l:=by
 cases d with
 | di m=>exact congrArg D.di (Option.some.inj h)
 | _=>exact af h
theorem Co {c:aa} {l:List (Str×D)} (h:diC c=some l):c=.oc (.di l):=by
 cases c with
 | oc d=>cases d with
  | di m=>exact congrArg (fun x=>aa.oc (.di x)) (Option.some.inj h)
  | _=>exact af h
 | _=>exact af h
theorem mT {Z:List aa} {k:Nat} {l:List (Str×D)} (h:sE Z k=some l):Z[k]?=some (.oc (.di l)):=by
 unfold sE at h
 cases e:Z[k]? with
 | none=>rw [e] at h;exact af h
 | some c=>rw [e] at h;rw [Co h]
theorem yv {Z:List aa} {k:Nat} {l:List (Str×D)} (h:Z[k]?=some (.oc (.di l))):sE Z k=some l:=by unfold sE;rw [h];rfl
noncomputable def fV (Z:List aa):V->Option (List (Str×D))
 | .d d=>diD d
 | .ref k=>sE Z k
 | _=>none
noncomputable def EM:Value->Bool
 | .ref _=>true
 | _=>false
noncomputable def nnD:D->Option Bool
 | .nn=>some true
 | .gl v=>cond (EM v) (some false) none
 | _=>some false
noncomputable def BJ:aa->Bool
 | .oc _=>true
 | _=>false
noncomputable def EN (Z:List aa):V->Option Bool
 | .d d=>nnD d
 | .ref k=>match Z[k]? with
  | some c=>cond (BJ c) (some false) none
  | none=>none
 | .tu _=>some false
 | .rng _ _=>none
noncomputable def eO:V->Bool
 | .d d=>match d with
  | .nn=>true
  | _=>false
 | _=>false
theorem lM {v:V} (h:eO v=true):v=.d .nn:=by
 cases v with
 | d d=>cases d with
  | nn=>rfl
  | _=>exact aX h
 | _=>exact aX h
noncomputable def AN:D->Option (Bool×List D)
 | .li l=>some (true,l)
 | .tu l=>some (false,l)
 | _=>none
noncomputable def pK (Z:List aa) (k:Str) (b:V):Option (Bool×Bool):=match fV Z b with
 | some l=>some (true,(l.lookup k).isSome)
 | none=>match (mX Z b).bind AN with
  | some p=>some (PyData.strOk k&&PyData.canLayAll0 (pyL p.2),(pyL p.2).any fun y=>PyData.eqv y (.str k))
  | none=>none
noncomputable def pZ (Z:List aa) (a b:V):Option (Bool×Bool):=match mX Z a,mX Z b with
 | some x,some y=>some (x.py.canLay0&&y.py.canLay0&&Nat.ble y.py.depth 64,PyData.eqv x.py y.py)
 | _,_=>none
noncomputable def xa (op:CmpOp) (Z:List aa) (a b:V):Option (Bool×Bool):=match op with
 | .Is=>cond (eO b) ((EN Z a).map fun r=>(true,r)) none
 | .IsNot=>cond (eO b) ((EN Z a).map fun r=>(true,!r)) none
 | .Eq=>pZ Z a b
 | .NotEq=>(pZ Z a b).map fun p=>(p.1,!p.2)
 | .In=>match ssV a with
  | some k=>pK Z k b
  | none=>none
 | .NotIn=>match ssV a with
  | some k=>(pK Z k b).map fun p=>(p.1,!p.2)
  | none=>none
 | .Lt=>match iiV a,iiV b with
  | some x,some y=>some (true,decide (x<y))
  | _,_=>none
 | .LtE=>match iiV a,iiV b with
  | some x,some y=>some (true,decide (x<=y))
  | _,_=>none
 | .Gt=>match iiV a,iiV b with
  | some x,some y=>some (true,decide (y<x))
  | _,_=>none
 | .GtE=>match iiV a,iiV b with
  | some x,some y=>some (true,decide (y<=x))
  | _,_=>none
noncomputable def ky (op:CmpOp) (Z:List aa) (a b:V) (Q:Bool->Prop):Prop:=match xa op Z a b with
 | some p=>grd p.1 (Q p.2)
 | none=>False
structure aE (base:Heap) (n:Nat) (fx:Fx):Prop where
 kind:fx.env.scope.kind=.function
 glob:fx.env.globals=mainGlobals
 blt:fx.env.builtins=builtinsNs
 hand:fx.A.handled=none
 frames:fx.A.frames=some fx.stk
 depth:fx.A.depth+4*n+4<recursionLimit
 units:fx.A.units+200*n+200<cLine
 top:∃ L env0 outer,fx.stk=env0::outer/\env0.frame=some L/\fx.env.frame=some L
section
variable {w:World} {base:Heap} {fx:Fx} {U:Loc} {G:PH} {O:Fp} {Z:List aa} {E:Str->List aa->Prop} {α β γ δ:Type} {h:Heap} {n:Nat}
theorem DRv.len:∀ {ds:List (Str×D)} {cs:List Value},DRv w G ds cs->cs.length=ds.length
 | [],cs,r=>by unfold DRv at r;subst r;rfl
 | d::ds,cs,r=>by unfold DRv at r;obtain ⟨c,r',rfl,_,y⟩:=r;simp [DRv.len y]
theorem DRv.look {k:Str}:∀ {ds:List (Str×D)} {cs:List Value},DRv w G ds cs->match ds.lookup k with
  | some x=>∃ c,valueAt (List.zip (ds.map (·.1)) cs) k=some c/\DR w G x c
  | none=>valueAt (List.zip (ds.map (·.1)) cs) k=none:=by
 intro ds
 induction ds with
 | nil=>exact fun _=>rfl
 | cons p ds ih=>
  obtain ⟨f,d⟩:=p
  intro cs r
  obtain ⟨c,r',rfl,x,y⟩:=r
  have z:=ih y
  by_cases q:k=f
  · subst q
    rw [lK]
    exact ⟨c,by simp [valueAt],x⟩
  · rw [jP (beq_eq_false_iff_ne.mpr q),show valueAt (List.zip ((((f,d)::ds).map (·.1))) (c::r')) k=valueAt (List.zip (ds.map (·.1)) r') k by simp [valueAt,Ne.symm q]]
    exact z
theorem DRv.look_isSome {k:Str} {ds:List (Str×D)} {cs:List Value} (r:DRv w G ds cs):(valueAt (List.zip (ds.map (·.1)) cs) k).isSome=(ds.lookup k).isSome:=by
 have z:=r.look (k:=k)
 cases hx:ds.lookup k with
 | some x=>rw [hx] at z;obtain ⟨c,hc,_⟩:=z;rw [hc];rfl
 | none=>rw [hx] at z;simp only at z;rw [z];rfl
theorem VR.dictOf (S:Sim w base G O Z h) {v:V} {c:Value} {l:List (Str×D)} (r:VR w G O v c) (e:fV Z v=some l):
  ∃ a cs,c=.ref a/\a≠sysModules/\h.DictOf (strKind PR w) a (List.zip (l.map (·.1)) cs)/\DRv w G l cs:=by
 exists w,base,G,O,Z,h,v,c,l,_ S r e
 cases v with
 | d x=>
  obtain rfl:=qa e
  obtain ⟨a,cs,rfl,hs,g,rs⟩:=r
  exact ⟨a,cs,rfl,hs,g h S.sub,rs⟩
 | ref k=>
  unfold VR at r
  obtain ⟨fp,hf,cr⟩:=S.cells.at (mT e)
  obtain ⟨a,rfl,hs,cs,p,rs⟩:=cr
  exact ⟨a,cs,r.2 a [] hf,hs,p,rs⟩
 | _=>exact af e
theorem cA {α:Type} {b:Bool} {x y:α} (h:cond b (some x) none=some y):b=true/\x=y:=by
 cases b with
 | true=>exact ⟨rfl,Option.some.inj h⟩
 | false=>exact af h
theorem VR.isNN (S:Sim w base G O Z h) {v:V} {c:Value} {b:Bool} (r:VR w G O v c) (e:Mine.EN Z v=some b):(c==.none)=b:=by
 cases v with
 | d x=>
  unfold VR at r
  cases x
  case gl u=>
   obtain ⟨q,rfl⟩:=cA e
   unfold DR at r
   subst r
   clear e;cases c <;> first | rfl | contradiction
  all_goals obtain rfl:=Option.some.inj e
  all_goals unfold DR at r
  all_goals first | (subst r;rfl) | (obtain ⟨t,rfl⟩:=r;rfl) | (obtain ⟨a,_,rfl,_⟩:=r;rfl) | (obtain ⟨a,_,_,rfl,_⟩:=r;rfl) | (obtain ⟨a,_,_,_,rfl,_⟩:=r;rfl)
 | tu l=>unfold VR at r;obtain rfl:=Option.some.inj e;obtain ⟨a,_,rfl,_⟩:=r;rfl
 | ref k=>
  unfold VR at r
  cases hk:Z[k]? with
  | none=>rw [show Mine.EN Z (.ref k)=match Z[k]? with | some c=>cond (BJ c) (some false) none | none=>none from rfl,hk] at e;exact af e
  | some cc=>
   rw [show Mine.EN Z (.ref k)=match Z[k]? with | some c=>cond (BJ c) (some false) none | none=>none from rfl,hk] at e
   obtain ⟨q,rfl⟩:=cA e
   cases cc with
   | oc oc=>
    obtain ⟨fp,hf,cr⟩:=S.cells.at hk
    obtain ⟨a,rfl,_⟩:=cr
    rw [r.2 a [] hf];rfl
   | _=>exact aX q
 | rng a b=>exact af e
theorem qE {d:D} {b:Bool} {l:List D} (h:AN d=some (b,l)):d=cond b (.li l) (.tu l):=by
 cases d with
 | li m=>cases h;rfl
 | tu m=>cases h;rfl
 | _=>exact af h
theorem jI {α β:Type} {f:α->β} {x:Option α} {y:β} (h:x.map f=some y):∃ a,x=some a/\f a=y:=Option.map_eq_some_iff.mp h
theorem yB {op:CmpOp} {a b:V} {ca cb:Value} {Q:V->List aa->Prop} (ok:aE base n fx) (ra:VR w G O a ca) (rb:VR w G O b cb) (q:ky op Z a b fun v=>Q (.d (.bb v)) Z):
  bN w base fx U G O Z (compareOp op ca cb) Q E:=by
 exists w,base,fx,U,G,O,Z,E,n,op,a,b,ca,cb,Q,_ ok ra rb q
 have mn:∀ m k:Nat,k<=64->fx.A.units+min m k<cLine:=fun m k hk=>by
  have:min m k<=k:=Nat.min_le_right _ _
  have:=ok.units;omega
 unfold ky at q
 split at q
 · rename_i p e;exists p,_ e q
   obtain ⟨c,q⟩:=ab.mp q
   intro s S QQ EE hq he;exists s,QQ,EE,_ S hq he
   have fin:∀ tk,QQ (.bool p.2) {s with toks:=tk}:=fun tk=>hq G O Z _ _ s.heap tk (Ext.refl ..) S (VR.mk_bb _) q
   unfold xa at e
   have nn1:∀ {r:Option Bool} {f:Bool->Bool×Bool},cond (eO b) (r.map f) none=some p->cb=.none/\∃ x,r=some x/\f x=p:=fun {r f} e=>by
    cases hb:eO b with
    | false=>rw [hb] at e;exact af e
    | true=>rw [hb] at e;rw [lM hb] at rb;exact ⟨rb.nn,jI e⟩
   have eqs:∀ {p':Bool×Bool},pZ Z a b=some p'->p'.1=true->∃ x y as bs,Reads s.heap ca x as/\Reads s.heap cb y bs/\x.canLay0=true/\y.canLay0=true/\y.depth<=64/\p'.2=PyData.eqv x y:=fun {p'} e c=>by
    unfold pZ at e
    clear q;split at e
    · rename_i x y e1 e2
      cases e
      rw [Bool.and_eq_true,Bool.and_eq_true] at c
      obtain ⟨as,z⟩:=VR.dOf S.toSim ra e1 c.1.1
      obtain ⟨bs,z'⟩:=VR.dOf S.toSim rb e2 c.1.2
      exact ⟨_,_,as,bs,z,z',c.1.1,c.1.2,Nat.le_of_ble_eq_true c.2,rfl⟩
    · exact af e
   have ins:∀ {k:Str} {t:Tok} {p':Bool×Bool},pK Z k b=some p'->p'.1=true->
     ((∀ tk,QQ (.bool p'.2) {s with toks:=tk})->wpAny (model PR w) fx.A (compareOp .In (.str k t) cb) QQ EE s)/\((∀ tk,QQ (.bool (!p'.2)) {s with toks:=tk})->wpAny (model PR w) fx.A (compareOp .NotIn (.str k t) cb) QQ EE s):=fun {k t p'} e c=>by
    unfold pK at e
    clear q;split at e
    · rename_i l e1
      clear c;cases e
      clear eqs nn1;obtain ⟨a',cs,rfl,hs,hd,rl⟩:=VR.dictOf S.toSim rb e1
      refine ⟨fun z=>wpAny_in_of (knd:=strKind PR w) (k:=k) (strKind_is _ _ _ _) (by simpa using hs) hd.mapOf ?_,fun z=>wpAny_notIn_of (knd:=strKind PR w) (k:=k) (strKind_is _ _ _ _) (by simpa using hs) hd.mapOf ?_⟩ <;> rw [rl.look_isSome] <;> exact z _
    · split at e
      · rename_i p e1
        cases e
        obtain ⟨d,e2,e3⟩:=Option.bind_eq_some_iff.mp e1
        rw [Bool.and_eq_true] at c
        have hk:(PyData.str k).canLay0=true:=c.1
        have m1:∀ m,fx.A.units+1+min m (PyData.str k).depth<cLine:=fun m=>by
         have h1:min m (PyData.str k).depth<=(PyData.str k).depth:=Nat.min_le_right _ _
         have h2:(PyData.str k).depth<=1:=by simp [PyData.depth]
         have:=ok.units;clear e;omega
        obtain ⟨bb,l⟩:=p
        obtain rfl:=qE e3
        cases bb with
        | true=>
         obtain ⟨as,z⟩:=VR.dOf S.toSim rb e2 c.2
         exact ⟨fun f=>in_list_reads z (.str k t) c.2 hk (m1 _) (f _),fun f=>notIn_list_reads z (.str k t) c.2 hk (m1 _) (f _)⟩
        | false=>
         obtain ⟨as,z⟩:=VR.dOf S.toSim rb e2 c.2
         exact ⟨fun f=>in_tuple_reads z (.str k t) c.2 hk (m1 _) (f _),fun f=>notIn_tuple_reads z (.str k t) c.2 hk (m1 _) (f _)⟩
      · exact af e
   have lts:∀ {m:Int->Int->Bool},(match iiV a,iiV b with
     | some x,some y=>some (true,m x y)
     | _,_=>none)=some p->(∀ x y t u,(∀ tk,QQ (.bool (m x y)) {s with toks:=tk})->wpAny (model PR w) fx.A (compareOp op (.int x t) (.int y u)) QQ EE s)->wpAny (model PR w) fx.A (compareOp op ca cb) QQ EE s:=fun {m} e5 f=>by
    clear e
    split at e5
    · rename_i x y e1 e2
      obtain rfl:=fy e1;obtain rfl:=fy e2
      obtain ⟨t,rfl⟩:=ra.ii;clear eqs ins;obtain ⟨u,rfl⟩:=rb.ii
      clear nn1 q c;cases e5
      exact f _ _ _ _ fin
    · exact af e5
   cases op with
   | Is=>
    clear lts ins eqs q c rb;obtain ⟨rfl,x,e1,rfl⟩:=nn1 e
    refine PySem.is_none ?_
    rw [VR.isNN S.toSim ra e1]
    exact fin _
   | IsNot=>
    clear lts ins eqs q c rb;obtain ⟨rfl,x,e1,rfl⟩:=nn1 e
    refine PySem.isNot_none ?_
    rw [VR.isNN S.toSim ra e1]
    exact fin _
   | Eq=>
    clear q;obtain ⟨x,y,as,bs,z,z',h1,zz⟩:=eqs e c;obtain ⟨h2,h3,h4⟩:=zz
    exact compareEq_reads z z' h1 h2 (mn _ _ h3) (by rw [<- h4];exact fin _)
   | NotEq=>
    replace e:(pZ Z a b).map _=some p:=e
    clear lts nn1 q;obtain ⟨p',e5,rfl⟩:=jI e
    obtain ⟨x,y,as,bs,z,z',h1,zz⟩:=eqs e5 c;obtain ⟨h2,h3,h4⟩:=zz
    exact compareNe_reads z z' h1 h2 (mn _ _ h3) (by rw [<- h4];exact fin _)
   | In=>
    clear q;cases e1:ssV a with
    | some k=>
     replace e:(match ssV a with | some k=>pK Z k b | none=>none)=some p:=e
     rw [e1] at e
     obtain rfl:=gh e1
     clear lts eqs;obtain ⟨t,rfl⟩:=ra.ss
     exact (ins e c).1 fin
    | none=>
     replace e:(match ssV a with | some k=>pK Z k b | none=>none)=some p:=e
     rw [e1] at e
     contradiction
   | NotIn=>
    replace e:(match ssV a with | some k=>(pK Z k b).map fun p=>(p.1,!p.2) | none=>none)=some p:=e
    cases e1:ssV a with
    | some k=>
     rw [e1] at e
     obtain rfl:=gh e1
     clear eqs;obtain ⟨t,rfl⟩:=ra.ss
     clear lts nn1 q;obtain ⟨p',e5,rfl⟩:=jI e
     exact (ins e5 c).2 fin
    | none=>rw [e1] at e;exact af e
   | Lt=>exact lts (m:=fun x y=>decide (x<y)) e fun x y t u f=>PyProof.Rows.lt_int (f _)
   | LtE=>exact lts (m:=fun x y=>decide (x<=y)) e fun x y t u f=>PyProof.Rows.le_int (f _)
   | Gt=>exact lts (m:=fun x y=>decide (y<x)) e fun x y t u f=>PyProof.Rows.gt_int (f _)
   | GtE=>exact lts (m:=fun x y=>decide (y<=x)) e fun x y t u f=>PyProof.Rows.ge_int (f _)
 · exact q.elim
end
end Mine
namespace Mine
open PySem PySem.W PyProof.Rows PySem.SeqAt
noncomputable def sy:List (Str×Value):=[
 (Str.ofString "WallFault",.ref 31),
 (Str.ofString "Misused",.ref 44),
 (Str.ofString "payload_group",.ref 53),
 (Str.ofString "link_fields",.ref 60),
 (Str.ofString "ip_fields",.ref 67),
 (Str.ofString "ip6_fields",.ref 74),
 (Str.ofString "tcp_fields",.ref 81),
 (Str.ofString "udp_fields",.ref 88),
 (Str.ofString "th_fields",.ref 95),
 (Str.ofString "icmp_fields",.ref 102),
 (Str.ofString "meta_fields",.ref 109),
 (Str.ofString "needs_of",.ref 116),
 (Str.ofString "needs_in",.ref 123),
 (Str.ofString "field_named",.ref 130),
 (Str.ofString "is_worked",.ref 137),
 (Str.ofString "field_under",.ref 144),
 (Str.ofString "size_of",.ref 151),
 (Str.ofString "bits_of_e",.ref 158),
 (Str.ofString "order_of",.ref 165),
 (Str.ofString "type_of",.ref 172),
 (Str.ofString "parts_of",.ref 179),
 (Str.ofString "kinds_of",.ref 186),
 (Str.ofString "protos_of",.ref 193),
 (Str.ofString "number_of",.ref 200),
 (Str.ofString "bits_of",.ref 207),
 (Str.ofString "new_meta",.ref 214),
 (Str.ofString "Packet",.ref 231),
 (Str.ofString "family_of",.ref 242),
 (Str.ofString "base_of",.ref 249),
 (Str.ofString "field_bits",.ref 256),
 (Str.ofString "Scene",.ref 274),
 (Str.ofString "needs_met",.ref 285),
 (Str.ofString "width_of",.ref 292),
 (Str.ofString "read_by",.ref 299),
 (Str.ofString "masked",.ref 306),
 (Str.ofString "value_of",.ref 313),
 (Str.ofString "key_of",.ref 320),
 (Str.ofString "meta_value",.ref 327),
 (Str.ofString "read_payload",.ref 334),
 (Str.ofString "read_meta",.ref 341),
 (Str.ofString "_law_draw",.ref 348),
 (Str.ofString "_law_rows",.ref 355),
 (Str.ofString "_law_wants",.ref 362),
 (Str.ofString "_law_protos",.ref 369),
 (Str.ofString "_law_is_needed",.ref 374),
 (Str.ofString "_law_whole",.ref 381),
 (Str.ofString "_law_cut",.ref 388),
 (Str.ofString "_law_asks",.ref 395),
 (Str.ofString "_law_read",.ref 402),
 (Str.ofString "_law_worked",.ref 409),
 (Str.ofString "_law_component",.ref 416),
 (Str.ofString "_law_refusal",.ref 423),
 (Str.ofString "_law_is_told",.ref 428),
 (Str.ofString "_law_note_payload",.ref 435),
 (Str.ofString "_law_note_meta",.ref 442),
 (Str.ofString "_law_fields",.ref 449),
 (Str.ofString "_law_octets",.ref 454),
 (Str.ofString "_law_is_asked",.ref 461),
 (Str.ofString "len",.builtin "len"),
 (Str.ofString "sum",.builtin "sum"),
 (Str.ofString "range",.type "range"),
 (Str.ofString "tuple",.type "tuple"),
 (Str.ofString "bytes",.type "bytes"),
 (Str.ofString "bytearray",.type "bytearray"),
 (Str.ofString "Exception",.type "Exception")]
noncomputable def BL (P:Params):Bool:=sy.all fun p=>match nsIn (MineH.hd.heap_1 P) mainGlobals p.1 with
 | some (some v)=>decide (v=p.2)
 | some none=>decide (bootBuiltins p.1=some p.2)&&decide (p.1≠"__name__")
 | none=>false
theorem nV (P:Params):BL P=true:=by kernel_rfl
structure Wd (w:World) (base:Heap):Prop where
 K:(MineH.hd.heap_1 w.params).In base
 nolimit:base.NoLimit
 bt:∃ mb,base.Ns builtinsNs mb/\∀ x:Str,x≠"__name__"->mb x=bootBuiltins x
theorem iz {w:World} {base:Heap} (W:Wd w base) {x:Str} {v:Value} (hx:sy.lookup x=some v) {A:Around} {env:Env} (hg:env.globals=mainGlobals) (hb:env.builtins=builtinsNs)
  {s:Shared} (k:∀ b o,base.get? b=some o->s.heap.get? b=some o) {Q:Value->Shared->Prop} {E:Value->Shared->Prop} (h:Q v s):wpAny (model PR w) A (loadGlobal env x) Q E s:=by
 exists w,base,x,v,A,env,s,Q,E,_ W hx hg hb k h
 have hm:(x,v)∈sy:=by
  have key:∀ {l:List (Str×Value)},l.lookup x=some v->(x,v)∈l:=by
   intro l
   induction l with
   | nil=>intro e;simp at e
   | cons p l ih=>
    intro e
    obtain ⟨a,b⟩:=p
    rw [List.lookup_cons] at e
    split at e
    · rename_i q;cases e;rw [eq_of_beq q];exact .head _
    · exact .tail _ (ih e)
  exact key hx
 have hc:=List.all_eq_true.mp (nV w.params) _ hm
 have looks:∀ r,nsIn (MineH.hd.heap_1 w.params) mainGlobals x=some r->∀ (Q:Option Value->Shared->Prop),Q r s->wpAny (model PR w) A (nsGet mainGlobals x) Q E s:=fun r e Q q=>
  Looks.here (looks_nsIn (W.K.keeps k) e) q
 unfold loadGlobal
 rw [hg,hb]
 simp only at hc
 cases e:nsIn (MineH.hd.heap_1 w.params) mainGlobals x with
 | none=>rw [e] at hc;contradiction
 | some r=>
  rw [e] at hc
  cases r with
  | some v'=>
   clear hm hx;obtain rfl:v'=v:=of_decide_eq_true hc
   exact wpAny_bind (looks _ e _ (wpAny_pure h))
  | none=>
   rw [Bool.and_eq_true] at hc
   obtain ⟨mb,hn,hmb⟩:=W.bt
   refine wpAny_bind (looks _ e _ ?_)
   refine wpAny_bind (wpAny_nsGet (hn.keeps k) ?_)
   rw [hmb x (of_decide_eq_true hc.2),of_decide_eq_true hc.1]
   exact wpAny_pure h
end Mine
namespace Mine
open PySem PySem.W PyProof.Rows PySem.SeqAt
set_option genSizeOf false
set_option genInjectivity false
theorem iL {P:Prop} (h:true=false):P:=nomatch h
noncomputable def eG {α:Type}:List α->Option α
 | [a]=>some a
 | _=>none
noncomputable def Ar {α:Type}:List α->Option (α×α)
 | [a,b]=>some (a,b)
 | _=>none
theorem cq {α:Type} {l:List α} {a:α} (h:eG l=some a):l=[a]:=by
 cases l with
 | nil=>exact af h
 | cons x r=>cases r with
  | nil=>exact congrArg (fun x=>[x]) (Option.some.inj h)
  | cons y r=>exact af h
theorem tF {α:Type} {l:List α} {p:α×α} (h:Ar l=some p):l=[p.1,p.2]:=by
 cases l with
 | nil=>exact af h
 | cons x r=>cases r with
  | nil=>exact af h
  | cons y r=>cases r with
   | nil=>exact congrArg (fun p=>[p.1,p.2]) (Option.some.inj h)
   | cons z r=>exact af h
inductive Ve where
 | oth | star | set | scomp | dcomp | ifx
 | name (x:Str) (p:Pos) | attr (v:Expr) (f:Str) (p:Pos) | sub (v i:Expr) (p:Pos) | call (f:Expr) (args:List Expr) (kws:List Keyword) (p:Pos)
 | tup (es:List Expr) (k:Nat) (p:Pos) | const (c:Const) (k:Nat) (p:Pos) | lc (e:Expr) (g:List Comprehension) (s:Scope) (p:Pos) | slice (lo up st:Option Expr) (p:Pos)
 | unary (op:UnaryOp) (x:Expr) (p:Pos) | bool (op:BoolOp) (es:List Expr) (p:Pos) | cmp (l:Expr) (ops:List CmpOp) (rs:List Expr) (p:Pos)
noncomputable def vw:Expr->Ve
 | .Starred ..=>.star | .Set ..=>.set | .SetComp ..=>.scomp | .DictComp ..=>.dcomp | .IfExp ..=>.ifx
 | .Name x p=>.name x p | .Attribute v f p=>.attr v f p | .Subscript v i p=>.sub v i p | .Call f a k p=>.call f a k p
 | .Tuple es k p=>.tup es k p | .Constant c k p=>.const c k p | .ListComp e g s p=>.lc e g s p | .Slice a b c p=>.slice a b c p
 | .UnaryOp op x p=>.unary op x p | .BoolOp op es p=>.bool op es p | .Compare l ops rs p=>.cmp l ops rs p
 | _=>.oth
noncomputable def un:Ve->Option Expr
 | .name x p=>some (.Name x p) | .attr v f p=>some (.Attribute v f p) | .sub v i p=>some (.Subscript v i p) | .call f a k p=>some (.Call f a k p)
 | .tup es k p=>some (.Tuple es k p) | .const c k p=>some (.Constant c k p) | .lc e g s p=>some (.ListComp e g s p) | .slice a b c p=>some (.Slice a b c p)
 | .unary op x p=>some (.UnaryOp op x p) | .bool op es p=>some (.BoolOp op es p) | .cmp l ops rs p=>some (.Compare l ops rs p)
 | _=>none
theorem Dd (e:Expr):un (vw e)=none\/un (vw e)=some e:=by cases e <;> first | exact .inl rfl | exact .inr rfl
theorem fb {e x:Expr} {v:Ve} (h:vw e=v) (u:un v=some x):e=x:=by
 subst h
 exact (Dd e).elim (fun q=>af (q.symm.trans u)) fun q=>Option.some.inj (q.symm.trans u)
noncomputable def code:Ve->Nat
 | .star=>1 | .set=>2 | .scomp=>3 | .dcomp=>4 | .name ..=>5 | .call ..=>6 | .tup ..=>7 | .lc ..=>8 | .slice ..=>9 | .attr ..=>10
 | _=>0
noncomputable def cu (e:Expr):Bool:=Nat.beq (code (vw e)) 1
noncomputable def fw (e:Expr):Bool:=Nat.beq (code (vw e)) 2
noncomputable def jU (e:Expr):Bool:=Nat.beq (code (vw e)) 5
noncomputable def jo (e:Expr):Bool:=Nat.beq (code (vw e)) 6
noncomputable def EO (e:Expr):Bool:=Nat.beq (code (vw e)) 8
noncomputable def gV (e:Expr):Bool:=Nat.beq (code (vw e)) 9
noncomputable def eP (e:Expr):Bool:=Nat.beq (code (vw e)) 10
noncomputable def bV (e:Expr):Bool:=EO e||(Nat.beq (code (vw e)) 3||Nat.beq (code (vw e)) 4)
noncomputable def iS:Ve->Option (Str×Pos)
 | .name x p=>some (x,p)
 | _=>none
theorem vj {v:Ve} {q:Str×Pos} (h:iS v=some q):un v=some (.Name q.1 q.2):=by
 cases v <;> first | exact af h | exact Option.some.inj h▸rfl
noncomputable def cG (e:Expr):Option (Str×Pos):=iS (vw e)
theorem bJ {e:Expr} {q:Str×Pos} (h:cG e=some q):e=.Name q.1 q.2:=fb rfl (vj h)
noncomputable def zK:Ve->Option (Expr×Str×Pos)
 | .attr x f p=>some (x,f,p)
 | _=>none
theorem wV {v:Ve} {q:Expr×Str×Pos} (h:zK v=some q):un v=some (.Attribute q.1 q.2.1 q.2.2):=by
 cases v <;> first | exact af h | exact Option.some.inj h▸rfl
noncomputable def i5 (e:Expr):Option (Expr×Str×Pos):=zK (vw e)
theorem eq {e:Expr} {q:Expr×Str×Pos} (h:i5 e=some q):e=.Attribute q.1 q.2.1 q.2.2:=fb rfl (wV h)
noncomputable def zJ:Ve->Option (Expr×Expr×Pos)
 | .call f as ks p=>cond ks.isEmpty ((eG as).map fun a=>(f,a,p)) none
 | _=>none
theorem wQ {v:Ve} {q:Expr×Expr×Pos} (h:zJ v=some q):un v=some (.Call q.1 [q.2.1] [] q.2.2):=by
 cases v <;> first | exact af h | skip
 rename_i ks _
 cases ks with
 | nil=>
  obtain ⟨a,e1,rfl⟩:=jI (show Option.map _ _=_ from h)
  rw [cq e1];rfl
 | cons _ _=>exact af h
noncomputable def wR (e:Expr):Option (Expr×Expr×Pos):=zJ (vw e)
theorem oK {e:Expr} {q:Expr×Expr×Pos} (h:wR e=some q):e=.Call q.1 [q.2.1] [] q.2.2:=fb rfl (wQ h)
noncomputable def DV:Const->Option Str
 | .str s=>some s
 | _=>none
theorem xy {c:Const} {s:Str} (h:DV c=some s):c=.str s:=by
 cases c <;> first | exact af h | exact congrArg Const.str (Option.some.inj h)
noncomputable def DU:Ve->Option (Str×Nat×Pos)
 | .const c k p=>(DV c).map fun s=>(s,k,p)
 | _=>none
theorem xv {v:Ve} {q:Str×Nat×Pos} (h:DU v=some q):un v=some (.Constant (.str q.1) q.2.1 q.2.2):=by
 cases v <;> first | exact af h | skip
 obtain ⟨s,e1,rfl⟩:=jI (show Option.map _ _=_ from h)
 rw [xy e1];rfl
noncomputable def xw (e:Expr):Option (Str×Nat×Pos):=DU (vw e)
theorem qB {e:Expr} {q:Str×Nat×Pos} (h:xw e=some q):e=.Constant (.str q.1) q.2.1 q.2.2:=fb rfl (xv h)
inductive Tg where
 | bad | name (x:Str) (p:Pos) | tup (ts:List Expr) (k:Nat) (p:Pos) | attr (x:Str) (q:Pos) (f:Str) (p:Pos) | sub (x:Str) (q:Pos) (i:Expr) (p:Pos)
 | own (x:Str) (q:Pos) (f:Str) (r:Pos) (key:Str) (k:Nat) (s p:Pos)
noncomputable def Ej (v i:Expr) (p:Pos):Tg:=match i5 v with
 | some a=>match xw i with
  | some c=>match cG a.1 with
   | some n=>.own n.1 n.2 a.2.1 a.2.2 c.1 c.2.1 c.2.2 p
   | none=>.bad
  | none=>.bad
 | none=>.bad
noncomputable def tgV:Ve->Tg
 | .name x p=>.name x p
 | .tup ts k p=>.tup ts k p
 | .attr v f p=>match cG v with
  | some n=>.attr n.1 n.2 f p
  | none=>.bad
 | .sub v i p=>match cG v with
  | some n=>.sub n.1 n.2 i p
  | none=>Ej v i p
 | _=>.bad
noncomputable def tgE (t:Expr):Tg:=tgV (vw t)
noncomputable def unT:Tg->Option Expr
 | .bad=>none
 | .name x p=>some (.Name x p)
 | .tup ts k p=>some (.Tuple ts k p)
 | .attr x q f p=>some (.Attribute (.Name x q) f p)
 | .sub x q i p=>some (.Subscript (.Name x q) i p)
 | .own x q f r key k s p=>some (.Subscript (.Attribute (.Name x q) f r) (.Constant (.str key) k s) p)
theorem Au (v:Ve):unT (tgV v)=none\/unT (tgV v)=un v:=by
 cases v <;> first | exact .inl rfl | exact .inr rfl | skip
 · rename_i v f p
   unfold tgV
   dsimp only
   cases y:cG v with
   | none=>exact .inl rfl
   | some n=>rw [bJ y];exact .inr rfl
 · rename_i v i p
   unfold tgV Ej
   dsimp only
   cases y:cG v with
   | some n=>rw [bJ y];exact .inr rfl
   | none=>
    cases e1:i5 v with
    | none=>exact .inl rfl
    | some a=>cases e2:xw i with
     | none=>exact .inl rfl
     | some c=>
      dsimp only
      cases y:cG a.1 with
      | none=>exact .inl rfl
      | some n=>rw [eq e1,qB e2,bJ y];exact .inr rfl
theorem ny {e x:Expr} {v:Tg} (h:tgE e=v) (u:unT v=some x):e=x:=by
 subst h
 exact (Au (vw e)).elim (fun q=>af (q.symm.trans u)) fun q=>fb rfl (q.symm.trans u)
end Mine
namespace Mine
open PySem PySem.W PyProof.Rows PySem.SeqAt
noncomputable def cnd (c:Bool) (P R:Prop):Prop:=match c with
 | true=>P
 | false=>R
theorem yN {c:Bool} {P R:Prop} (h:cnd c P R):(c=true/\P)\/(c=false/\R):=by
 cases c with
 | true=>exact .inl ⟨rfl,h⟩
 | false=>exact .inr ⟨rfl,h⟩
noncomputable def qt:List V->Option (List D)
 | []=>some []
 | .d x::r=>(qt r).map (x::·)
 | _::_=>none
noncomputable def xU (vs:List V):V:=match qt vs with
 | some l=>.d (.tu l)
 | none=>.tu vs
noncomputable def tuV:V->Option (List V)
 | .tu l=>some l
 | _=>none
theorem At {v:V} {l:List V} (h:tuV v=some l):v=.tu l:=by
 cases v with
 | tu m=>exact congrArg V.tu (Option.some.inj h)
 | _=>exact af h
noncomputable def atB (k:Int) (n:Nat):Bool:=leB 0 k&&ltB k n&&ltB k 1048576
noncomputable def yP (Z:List aa) (o i:V) (Q:V->Prop):Prop:=match iiV i with
 | some k=>match (mX Z o).bind AN with
  | some p=>grd (atB k p.2.length) (Q (.d (p.2.getD k.toNat .nn)))
  | none=>match tuV o with
   | some l=>grd (atB k l.length) (Q (l.getD k.toNat (.d .nn)))
   | none=>False
 | none=>match ssV i with
  | some k=>match (fV Z o).bind (·.lookup k) with
   | some x=>Q (.d x)
   | none=>False
  | none=>False
theorem nA {k:Int} {n:Nat} (h0:0<=k) (h1:k.toNat<n):seqIndex? k n=some k.toNat:=by
 have h2:¬ k<0:=by omega
 have h3:k<(n:Int):=by omega
 unfold seqIndex?
 simp [h2,h0,h3]
theorem gG {slice:Expr} (h:gV slice=false) (o i:Value):subscripted slice false o i=operate [o,i] (getItem o i):=by
 cases slice with
 | Slice lo up st p=>exact iL h
 | _=>rfl
section
variable {w:World} {base:Heap} {fx:Fx} {U:Loc} {G:PH} {O:Fp} {Z:List aa} {E:Str->List aa->Prop} {α β γ δ:Type} {h:Heap} {n:Nat}
theorem DRs.get:∀ {ds:List D} {cs:List Value} {i:Nat} {x:D},DRs w G ds cs->ds[i]?=some x->∃ c,cs[i]?=some c/\DR w G x c
 | [],_,_,_,_,e=>by simp at e
 | d::ds,cs,0,x,r,e=>by unfold DRs at r;obtain ⟨c,r',rfl,y,_⟩:=r;simp at e;subst e;exact ⟨c,rfl,y⟩
 | d::ds,cs,i+1,x,r,e=>by
  unfold DRs at r;obtain ⟨c,r',rfl,_,y⟩:=r;simp at e
  obtain ⟨c',e',z⟩:=DRs.get y e
  exact ⟨c',by simpa using e',z⟩
theorem VRs.len:∀ {ds:List V} {cs:List Value},VRs w G O ds cs->cs.length=ds.length
 | [],cs,r=>by unfold VRs at r;subst r;rfl
 | d::ds,cs,r=>by unfold VRs at r;obtain ⟨c,r',rfl,_,y⟩:=r;simp [VRs.len y]
theorem VRs.get:∀ {ds:List V} {cs:List Value} {i:Nat} {x:V},VRs w G O ds cs->ds[i]?=some x->∃ c,cs[i]?=some c/\VR w G O x c
 | [],_,_,_,_,e=>by simp at e
 | d::ds,cs,0,x,r,e=>by unfold VRs at r;obtain ⟨c,r',rfl,y,_⟩:=r;simp at e;subst e;exact ⟨c,rfl,y⟩
 | d::ds,cs,i+1,x,r,e=>by
  unfold VRs at r;obtain ⟨c,r',rfl,_,y⟩:=r;simp at e
  obtain ⟨c',e',z⟩:=VRs.get y e
  exact ⟨c',by simpa using e',z⟩
theorem VRs.allD:∀ {vs:List V} {cs:List Value} {l:List D},VRs w G O vs cs->Mine.qt vs=some l->DRs w G l cs
 | [],cs,l,r,e=>by cases e;unfold VRs at r;subst r;rfl
 | v::vs,cs,l,r,e=>by
  obtain ⟨c,r',rfl,x,y⟩:=r
  cases v with
  | d z=>
   obtain ⟨l',e',rfl⟩:=jI e
   unfold VR at x
   exact ⟨c,r',rfl,x,VRs.allD y e'⟩
  | _=>exact af e
theorem j9 {x:Str} {pos:Pos} {v:V} {Q:V->List aa->Prop} (ok:aE base n fx) (hk:fx.env.kindOf x=some .local) (hd:(x==("__debug__":Str))=false) (hv:U.lookup x=some v) (q:Q v Z):
  bN w base fx U G O Z (eval (.Name x pos) fx.env) Q E:=fun s S QQ EE hq _=>by
 obtain ⟨m,hn,hm⟩:=S.fr.ns
 obtain ⟨c,hc,r⟩:=hm x v hv hk
 exact wpAny_Name (wpAny_loadName_local ok.kind hk hn hc (hq G O Z v c s.heap s.toks (Ext.refl ..) S r q)) hd
theorem bA {α β:Type} [BEq α] [LawfulBEq α]:∀ {l:List (α×β)} {x:α} {y:β},l.lookup x=some y->(x,y)∈l:=by
 intro l x y
 induction l with
 | nil=>exact fun e=>nS e
 | cons p l ih=>exact fun e=>lL (k:=p.1) (b:=p.2) e (fun q e2=>by rw [q,<- e2];exact .head _) fun _ e=>.tail _ (ih e)
theorem kW {x:Str} {pos:Pos} {v:V} {a:Addr} {Q:V->List aa->Prop} (ok:aE base n fx) (hk:fx.env.kindOf x=some .cell) (hc:fx.env.cells.lookup x=some a) (hd:(x==("__debug__":Str))=false) (hv:U.lookup x=some v) (q:Q v Z):
  bN w base fx U G O Z (eval (.Name x pos) fx.env) Q E:=fun s S QQ EE hq _=>by
 obtain ⟨co,hco,r⟩:=S.fr.ce (x,a) (bA hc)
 obtain ⟨c,rfl,r'⟩:=r v hv hk
 exact wpAny_Name (wpAny_loadName_cell ok.kind hk hc hco (hq G O Z v c s.heap s.toks (Ext.refl ..) S r' q)) hd
theorem e9 {x:Str} {pos:Pos} {c:Value} {Q:V->List aa->Prop} (W:Wd w base) (ok:aE base n fx) (hk:fx.env.kindOf x=some .globalImplicit) (hd:(x==("__debug__":Str))=false) (hv:sy.lookup x=some c) (q:Q (.d (.gl c)) Z):
  bN w base fx U G O Z (eval (.Name x pos) fx.env) Q E:=fun s S QQ EE hq _=>by
 refine PySem.Calls.Name_function_global ok.kind hk ?_ hd
 exact iz W hv ok.glob ok.blt (fun b o e=>S.sub b o (S.bs b o e)) (hq G O Z _ c s.heap s.toks (Ext.refl ..) S (by unfold VR DR;rfl) q)
noncomputable def wG:Const->Option D
 | .none=>some .nn
 | .bool b=>some (.bb b)
 | .int i=>some (.ii i)
 | .str s=>some (.ss s)
 | _=>none
theorem lR {c:Const} {k:Nat} {pos:Pos} {x:D} {Q:V->List aa->Prop} (hc:wG c=some x) (q:Q (.d x) Z):bN w base fx U G O Z (eval (.Constant c k pos) fx.env) Q E:=by
 cases c <;> first | obtain rfl:=Option.some.inj hc | exact af hc
 · exact Den.still q fun s S QQ EE k=>wpAny_Constant_none (k _ s.toks VR.mk_nn)
 · exact Den.still q fun s S QQ EE k=>wpAny_Constant_bool (k _ s.toks (VR.mk_bb _))
 · exact Den.still q fun s S QQ EE k=>wpAny_Constant_int (k _ _ (VR.mk_ii _ _))
 · exact Den.still q fun s S QQ EE k=>wpAny_Constant_str (k _ _ (VR.mk_ss _ _))
theorem j7 {v:V} {c:Value} {b:Bool} {Q:Bool->List aa->Prop} (r:VR w G O v c) (e:v=.d (.bb b)) (q:Q b Z):nq w base fx U G O Z (truthy c) Q E:=by
 subst e
 have:=r.bb;clear r;subst this
 exact Den.still q fun s S QQ EE k=>wpAny_truthy_bool (k b s.toks rfl)
theorem sF {vs:List V} {cs:List Value} {Q:V->List aa->Prop} (r:VRs w G O vs cs) (hsz:vs.length<=sizeLine) (q:Q (xU vs) Z):bN w base fx U G O Z (newTuple cs) Q E:=by
 refine Den.made q fun s S=>⟨jt cs,rfl,fun QQ EE k=>?_⟩
 refine wpAny_newObj_type (k _ s.toks ?_) (by show cs.toArray.size<=sizeLine;rw [List.size_toArray,r.len];exact hsz)
 have gn:G s.heap.objs.size=none:=by
  cases e:G s.heap.objs.size with
  | none=>rfl
  | some o'=>have:=S.sub _ _ e;rw [aW] at this;contradiction
 have sb:=jV (o:=jt cs) gn
 unfold xU
 split
 · rename_i l e
   exact ⟨_,cs,rfl,cz ..,(VRs.allD r e).mono sb⟩
 · unfold VR
   exact ⟨_,cs,rfl,cz ..,r.mono sb (IxE.refl _)⟩
theorem wm {vs:List V} {cs:List Value} {l:List D} {Q:V->List aa->Prop} (r:VRs w G O vs cs) (e:qt vs=some l) (hsz:l.length<=sizeLine) (q:Q (.ref Z.length) (Z++[.oc (.li l)])):
  bN w base fx U G O Z (newList cs) Q E:=fun s S QQ EE hq _=>by
 have rl:=VRs.allD r e
 refine wpAny_newObj_type ?_ (by show cs.toArray.size<=sizeLine;rw [List.size_toArray,rl.len];exact hsz)
 have pk:∀ b o',s.heap.get? b=some o'->(s.heap.push {cls:=.type "list",data:=.seq cs.toArray}).get? b=some o':=fun b o' e=>Heap.get?_push_of_some _ e
 obtain ⟨S',x⟩:=S.newCell (c:=.oc (.li l)) (fp:=[s.heap.objs.size]) pk (by unfold be;exact ⟨_,rfl,cs,⟨0,Heap.get?_push_size _ rfl⟩,rl⟩) (fun a ha=>by rw [List.mem_singleton] at ha;subst ha;exact aW _) (by simp)
 refine hq G _ _ (.ref Z.length) _ _ s.toks x S' ?_ q
 unfold VR
 have hl:=S.cells.len
 refine ⟨by simp [hl],fun a r e=>?_⟩
 rw [<- hl,List.getElem?_append_right (Nat.le_refl _)] at e
 simp at e
 rw [e.1]
theorem IsTup.ofG {a:Addr} {cs:List Value} (S:Sim w base G O Z h) (g:G a=some (jt cs)):IsTup h a cs.toArray:=⟨_,S.sub _ _ g,rfl,0,rfl⟩
theorem yx {value slice:Expr} {o i:V} {co ci:Value} {Q:V->List aa->Prop} (hs:gV slice=false) (ro:VR w G O o co) (ri:VR w G O i ci) (q:yP Z o i fun v=>Q v Z):
  bN w base fx U G O Z (subscriptTail value slice co ci) Q E:=by
 exists w,base,fx,U,G,O,Z,E,value,slice,o,i,co,ci,Q,_ hs ro ri q
 have hsub:∀ a i,subscripted slice false a i=operate [a,i] (getItem a i):=fun a i=>gG hs a i
 have at_:∀ {k:Int} {m:Nat},atB k m=true->0<=k/\k.toNat<m/\k<2 ^ 63:=fun {k m} c=>by
  unfold atB at c
  rw [Bool.and_eq_true,Bool.and_eq_true] at c
  have h1:=ak.mp c.1.1
  have h2:=cH.mp c.1.2
  have h3:=cH.mp c.2
  exact ⟨h1,by omega,by omega⟩
 have gd:∀ {α:Type} {l:List α} {j:Nat} (z:α),j<l.length->l[j]?=some (l.getD j z):=fun z h=>by rw [List.getD_eq_getElem?_getD,List.getElem?_eq_getElem h];rfl
 intro s S QQ EE hq he;exists s,QQ,EE,_ S hq he
 have tup:∀ {a:Addr} {cs:List Value} {c':Value} {k:Int} {t:Tok},G a=some (jt cs)->0<=k->k<2 ^ 63->cs[k.toNat]?=some c'->QQ c' s->wpAny (model PR w) fx.A (subscriptTail value slice (.ref a) (.int k t)) QQ EE s:=fun {a cs c' k t} g h0 h2 hc' z=>
  subscriptTail_builtinR (x:=c') (IsTup.ofG S.toSim g).typeIs slot_tuple_getitem.lookup (getItem_tuple (IsTup.ofG S.toSim g) (by omega) h2 (j:=k.toNat) (nA h0 (by rw [List.size_toArray];exact (List.getElem?_eq_some_iff.mp hc').1)) (by simpa using hc') ⟨rfl,z⟩) (hsub _ _)
 unfold yP at q
 split at q
 · rename_i k ei;exists k,_ ei q
   obtain rfl:=fy ei
   obtain ⟨t,rfl⟩:=ri.ii;exists t,_ ri
   split at q
   · rename_i p e
     obtain ⟨c,q⟩:=ab.mp q
     obtain ⟨h0,h1,h2⟩:=at_ c
     obtain ⟨bb,l⟩:=p;exists bb,l,_ e c q h1
     obtain ⟨d,e2,e3⟩:=Option.bind_eq_some_iff.mp e
     obtain rfl:=qE e3
     cases bb with
     | false=>
      have hr:∃ a cs,co=.ref a/\G a=some (jt cs)/\DRs w G l cs:=by
       cases o with
       | d y=>clear e q;obtain rfl:=Option.some.inj e2;unfold VR DR at ro;exact ro
       | ref k'=>clear q;obtain ⟨_,z,_⟩:=jq e2;contradiction
       | _=>exact af e2
      clear ro;obtain ⟨a,cs,rfl,g,rs⟩:=hr
      obtain ⟨c',hc',r'⟩:=rs.get (gd .nn h1)
      exact tup g h0 h2 hc' (hq G O Z _ c' s.heap s.toks (Ext.refl ..) S (by unfold VR;exact r') q)
     | true=>
      have el:cm Z o=some l:=by
       cases o with
       | d y=>clear e ro q;obtain rfl:=Option.some.inj e2;rfl
       | ref k'=>clear q;obtain ⟨_,z,h⟩:=jq e2;cases z;exact h
       | _=>exact af e2
      obtain ⟨a,cs,rfl,il,rs⟩:=VR.listOf S.toSim ro el
      obtain ⟨c',hc',r'⟩:=rs.get (gd .nn h1)
      exact subscriptTail_builtinR (x:=c') il.typeIs PySem.slot_list_getitem.lookup (wpAny_getItem_list il h0 h2 (by simpa using hc') ⟨rfl,hq G O Z _ c' s.heap s.toks (Ext.refl ..) S (by unfold VR;exact r') q⟩) (hsub _ _)
   · split at q
     · rename_i l e
       obtain rfl:=At e
       obtain ⟨c,q⟩:=ab.mp q
       obtain ⟨h0,h1,h2⟩:=at_ c
       obtain ⟨a,cs,rfl,g,rs⟩:=ro
       obtain ⟨c',hc',r'⟩:=rs.get (gd (.d .nn) h1)
       exact tup g h0 h2 hc' (hq G O Z _ c' s.heap s.toks (Ext.refl ..) S r' q)
     · exact q.elim
 · split at q
   · rename_i k ei
     obtain rfl:=gh ei
     obtain ⟨t,rfl⟩:=ri.ss
     split at q
     · rename_i x e
       obtain ⟨l,e,hx⟩:=Option.bind_eq_some_iff.mp e
       obtain ⟨a,cs,rfl,hsm,hd,rs⟩:=VR.dictOf S.toSim ro e
       have z:=rs.look (k:=k)
       rw [hx] at z
       clear e;obtain ⟨c',hc',r'⟩:=z
       exact subscriptTail_builtinR (x:=c') hd.typeIs PySem.slot_dict_getitem.lookup (wpAny_getItem_of (knd:=strKind PR w) (k:=k) (strKind_is _ _ _ _) hd.mapOf hc' ⟨rfl,hq G O Z _ c' s.heap _ (Ext.refl ..) S (by unfold VR;exact r') q⟩) (hsub _ _)
     · exact q.elim
   · exact q.elim
end
end Mine
namespace Mine
open PySem PySem.W PyProof.Rows PySem.SeqAt
noncomputable abbrev au:=List V->List aa->(V->List aa->Prop)->(Str->List aa->Prop)->Prop
noncomputable def CQ (w:World) (base:Heap) (stk:List Env) (G:PH) (O:Fp) (s:Shared) (Q:V->List aa->Prop) (QQ:Value->Shared->Prop):Prop:=
 ∀ G' O' Z' v c h' tk,Ext [] (stk.filterMap (·.frame)) G O s.heap G' O' h'->Sim w base G' O' Z' h'->h'.FunFrames base stk->(∀ b∈stk.filterMap (·.frame),b∉O'.flatten/\G' b=none)->VR w G' O' v c->Q v Z'->QQ c {s with heap:=h',toks:=tk}
noncomputable def CE (w:World) (base:Heap) (stk:List Env) (G:PH) (O:Fp) (s:Shared) (E:Str->List aa->Prop) (EE:Value->Shared->Prop):Prop:=
 ∀ G' O' Z' why x h' tk,Ext [] (stk.filterMap (·.frame)) G O s.heap G' O' h'->Sim w base G' O' Z' h'->h'.FunFrames base stk->(∀ b∈stk.filterMap (·.frame),b∉O'.flatten/\G' b=none)->qw s.heap h' x why->E why Z'->EE x {s with heap:=h',toks:=tk}
noncomputable def aU (w:World) (base:Heap) (a:Addr) (n:Nat) (sp:au):Prop:=
 ∀ (A:Around) (stk:List Env) (G:PH) (O:Fp) (Z:List aa) (vs:List V) (cs:List Value) (s:Shared) (Q:V->List aa->Prop) (E:Str->List aa->Prop) (QQ EE:Value->Shared->Prop),
  A.handled=none->A.frames=some stk->A.depth+4*n+4<recursionLimit->A.units+200*n+200<cLine->
  s.heap.FunFrames base stk->(∀ b∈stk.filterMap (·.frame),b∉O.flatten/\G b=none)->
  Sim w base G O Z s.heap->VRs w G O vs cs->sp vs Z Q E->
  CQ w base stk G O s Q QQ->
  CE w base stk G O s E EE->
  wpAny (model PR w) A (call (.ref a) cs) QQ EE s
noncomputable def de:List V->Bool
 | []=>true
 | .d _::r=>de r
 | _::_=>false
noncomputable def mL (k:Nat):V->Bool
 | .ref j=>Nat.beq j k
 | _=>false
theorem iu {k:Nat} {v:V} (h:mL k v=true):v=.ref k:=by
 cases v with
 | ref j=>rw [Nat.eq_of_beq_eq_true h]
 | _=>exact aX h
noncomputable def dV:V->Option D
 | .d x=>some x
 | _=>none
theorem iX {v:V} {x:D} (h:dV v=some x):v=.d x:=by
 cases v with
 | d y=>exact congrArg V.d (Option.some.inj h)
 | _=>exact af h
noncomputable def rc:List V->Option (Nat×List V)
 | []=>none
 | v::r=>match v with
  | .ref k=>some (k,r)
  | _=>none
theorem pM {vs:List V} {p:Nat×List V} (h:rc vs=some p):vs=.ref p.1::p.2:=by
 cases vs with
 | nil=>exact af h
 | cons v r=>cases v with
  | ref k=>exact congrArg (fun p=>V.ref p.1::p.2) (Option.some.inj h)
  | _=>exact af h
noncomputable def Ee (Z:List aa) (k:Nat) (Q:V->List aa->Prop) (v:V) (Z':List aa):Prop:=match dV v with
 | some x=>match eG Z' with
  | some c=>Q (.d x) (Z.set k c)
  | none=>False
 | none=>match Ar Z' with
  | some p=>grd (mL 1 v) (Q (.ref Z.length) (Z.set k p.1++[p.2]))
  | none=>False
noncomputable def Ef (Z:List aa) (Q:V->List aa->Prop) (v:V) (Z':List aa):Prop:=match dV v with
 | some x=>grd Z'.isEmpty (Q (.d x) Z)
 | none=>match eG Z' with
  | some c=>grd (mL 0 v) (Q (.ref Z.length) (Z++[c]))
  | none=>False
noncomputable def Fd (Z:List aa) (k:Nat) (E:Str->List aa->Prop) (why:Str) (Z':List aa):Prop:=match eG Z' with
 | some c=>E why (Z.set k c)
 | none=>False
noncomputable def Fe (Z:List aa) (E:Str->List aa->Prop) (why:Str) (Z':List aa):Prop:=grd Z'.isEmpty (E why Z)
noncomputable def qn (sp:au) (vs:List V) (Z:List aa) (Q:V->List aa->Prop) (E:Str->List aa->Prop):Prop:=match rc vs with
 | some p=>match Z[p.1]? with
  | some c=>grd (de p.2) (sp (.ref 0::p.2) [c] (Ee Z p.1 Q) (Fd Z p.1 E))
  | none=>False
 | none=>grd (de vs) (sp vs [] (Ef Z Q) (Fe Z E))
section
variable {w:World} {base:Heap} {fx:Fx} {U:Loc} {G G':PH} {O O':Fp} {Z Z':List aa} {E:Str->List aa->Prop} {α β γ δ:Type} {h h':Heap} {n:Nat}
theorem aq.updE (k':Sub G G'):∀ {Z:List aa} {O:Fp} {k:Nat} {c:aa} {fp fp':List Addr},aq w G h Z O->O.flatten.Nodup->O[k]?=some fp->be w G' h' c fp'->
  (∀ b∈O.flatten,b∉fp->∀ o,h.get? b=some o->h'.get? b=some o)->aq w G' h' (Z.set k c) (O.set k fp'):=by
 intro Z
 induction Z with
 | nil=>intro O k c fp fp' x _ e;obtain rfl:=(show O=[] from x);exact nS e
 | cons c0 Z ih=>
  intro O k c fp fp' x nd e y kp
  obtain ⟨fp0,O',rfl,c0,r⟩:=x
  rw [List.flatten_cons,List.nodup_append] at nd
  cases k with
  | zero=>
   obtain rfl:=Option.some.inj e
   exact ⟨fp',O',rfl,y,r.mono k' fun a ha o e=>kp a (by rw [List.flatten_cons];exact List.mem_append_right _ ha) (fun q=>nd.2.2 a q a ha rfl) o e⟩
  | succ k=>
   exact ⟨fp0,_,rfl,c0.mono k' fun a ha o e'=>kp a (by rw [List.flatten_cons];exact List.mem_append_left _ ha) (fun q=>nd.2.2 a ha a (ay (show O'[k]?=some fp from e) q) rfl) o e',
    ih r nd.2.1 e y fun b hb hf o e'=>kp b (by rw [List.flatten_cons];exact List.mem_append_right _ hb) hf o e'⟩
theorem aJ (O κ:Fp):(O++κ).flatten=O.flatten++κ.flatten:=List.flatten_append
theorem St.after0 (S:St w base fx G O Z U h) {ex:Fp} {exc:List aa} (x:Ext [] fx.frs G [] h G' ex h') (S':Sim w base G' ex exc h') (F:h'.FunFrames base fx.stk) (fo:∀ b∈fx.frs,b∉ex.flatten/\G' b=none):
  St w base fx G' (O++ex) (Z++exc) U h'/\Ext [] fx.frs G O h G' (O++ex) h':=by
 have kp:∀ b o,h.get? b=some o->b∉fx.frs->h'.get? b=some o:=fun b o e hb=>x.keep b o e (by simp) hb (by simp)
 have sl:∀ b o,h.get? b=some o->∃ sl,h'.get? b=some {o with slots:=sl}:=fun b o e=>by
  by_cases hb:b∈fx.frs
  · exact x.slots b o e hb (by simp) (by simp)
  · exact ⟨o.slots,kp b o e hb⟩
 have nf:∀ b∈ex.flatten,h.get? b=none:=fun b hb=>(x.newF b hb).resolve_left (by simp)
 have gx:∀ b o,G' b=some o->G b=some o\/h.get? b=none:=fun b o e=>by
  rcases x.newG b o e with q | q | q
  · exact .inl q
  · exact .inr q
  · simp at q
 have ap:∀ b,(∃ o,h.get? b=some o)->b∉ex.flatten:=fun b ⟨o,e⟩ hb=>by rw [nf b hb] at e;contradiction
 have gn:∀ b,(∃ o,h.get? b=some o)->G b=none->G' b=none:=fun b ⟨o,e⟩ g=>by
  cases q:G' b with
  | none=>rfl
  | some o'=>
   rcases gx b o' q with q | q
   · rw [g] at q;contradiction
   · rw [e] at q;contradiction
 refine ⟨{bs:=S'.bs,sub:=S'.sub,cells:=(S.cells.mono x.sub fun a ha o e=>kp a o e fun q=>(S.fo a q).1 ha).append S'.cells,nd:=?_,out:=?_,fr:=?_,oo:=fun a ha=>?_,ond:=S.ond,fo:=fun a ha=>?_,ff:=F},?_⟩
 · rw [aJ,List.nodup_append]
   exact ⟨S.nd,S'.nd,fun a ha b hb q=>by subst q;exact ap a (S.cells.ex a ha) hb⟩
 · intro a ha
   rw [aJ] at ha
   rcases List.mem_append.mp ha with ha | ha
   · exact gn a (S.cells.ex a ha) (S.out a ha)
   · exact S'.out a ha
 · exact S.fr.mono x.sub (IxE.append _ _) fun a _ o e=>sl a o e
 · refine ⟨gn a (S.own_ex a ha) (S.oo a ha).1,fun q=>?_⟩
   rw [aJ] at q
   rcases List.mem_append.mp q with q | q
   · exact (S.oo a ha).2 q
   · exact ap a (S.own_ex a ha) q
 · refine ⟨fun q=>?_,(fo a ha).2⟩
   rw [aJ] at q
   rcases List.mem_append.mp q with q | q
   · exact (S.fo a ha).1 q
   · exact (fo a ha).1 q
 · refine ⟨x.sub,IxE.append _ _,x.dom,fun b o e _ h2 _=>kp b o e h2,fun b o e _ _ _=>sl b o e,fun b hb=>?_,fun b o e=>(gx b o e).imp id .inl⟩
   rw [aJ] at hb
   rcases List.mem_append.mp hb with hb | hb
   · exact .inl hb
   · exact .inr (nf b hb)
theorem IxE.set {O:Fp} {k:Nat} {fp fp':List Addr} (e:O[k]?=some fp) (q:fp'=[]\/fp'.head?=fp.head?):IxE O (O.set k fp'):=by
 refine ⟨by simp,fun j f f' ej ej'=>?_⟩
 by_cases hj:k=j
 · subst hj
   rw [e] at ej;cases ej
   rw [List.getElem?_set] at ej'
   have hk:=(List.getElem?_eq_some_iff.mp e).1
   simp [hk] at ej'
   subst ej'
   exact q
 · rw [List.getElem?_set,if_neg hj,ej] at ej'
   cases ej'
   exact .inr rfl
theorem St.after1 (S:St w base fx G O Z U h) {k:Nat} {fp fp':List Addr} {c':aa} (ek:O[k]?=some fp) {ex:Fp} {exc:List aa} (x:Ext [] fx.frs G [fp] h G' (fp'::ex) h') (S':Sim w base G' (fp'::ex) (c'::exc) h')
  (F:h'.FunFrames base fx.stk) (fo:∀ b∈fx.frs,b∉(fp'::ex).flatten/\G' b=none):
  St w base fx G' (O.set k fp'++ex) (Z.set k c'++exc) U h'/\Ext [] fx.frs G O h G' (O.set k fp'++ex) h':=by
 exists w,base,fx,U,G,G',O,Z,h,h',k,fp,fp',c',ex,exc,_ S ek x S' F fo
 have f1:([fp]:Fp).flatten=fp:=by simp
 have f2:(fp'::ex).flatten=fp'++ex.flatten:=by simp
 have inn:∀ b∈fp,b∈O.flatten:=fun b hb=>ay ek hb
 have kp:∀ b o,h.get? b=some o->b∉fp->b∉fx.frs->h'.get? b=some o:=fun b o e h1 hb=>x.keep b o e (by rw [f1];exact h1) hb (by simp)
 have sl:∀ b o,h.get? b=some o->b∉fp->∃ sl,h'.get? b=some {o with slots:=sl}:=fun b o e h1=>by
  by_cases hb:b∈fx.frs
  · exact x.slots b o e hb (by rw [f1];exact h1) (by simp)
  · exact ⟨o.slots,kp b o e h1 hb⟩
 have nf:∀ b∈fp'++ex.flatten,b∈fp\/h.get? b=none:=fun b hb=>by have:=x.newF b (by rw [f2];exact hb);rw [f1] at this;exact this
 have gx:∀ b o,G' b=some o->G b=some o\/h.get? b=none\/b∈fp:=fun b o e=>by have:=x.newG b o e;rw [f1] at this;exact this
 have gn:∀ b,(∃ o,h.get? b=some o)->b∉fp->G b=none->G' b=none:=fun b ⟨o,e⟩ h1 g=>by
  cases q:G' b with
  | none=>rfl
  | some o'=>
   rcases gx b o' q with q | q | q
   · rw [g] at q;contradiction
   · rw [e] at q;contradiction
   · exact absurd q h1
 have ap:∀ b,(∃ o,h.get? b=some o)->b∉fp->b∉fp'++ex.flatten:=fun b ⟨o,e⟩ h1 hb=>by
  rcases nf b hb with q | q
  · exact h1 q
  · rw [e] at q;contradiction
 have nd':=S'.nd
 rw [f2,List.nodup_append] at nd'
 have out':∀ a∈fp'++ex.flatten,G' a=none:=fun a ha=>S'.out a (by rw [f2];exact ha)
 have hc:=S'.cells
 obtain ⟨fp0,O0,e0,cr,crs⟩:=hc
 cases e0
 have fl:∀ a,a∈(O.set k fp').flatten->a∈fp'\/(a∈O.flatten/\a∉fp):=by
  have key:∀ {O:Fp} {k:Nat},O.flatten.Nodup->O[k]?=some fp->∀ a,a∈(O.set k fp').flatten->a∈fp'\/(a∈O.flatten/\a∉fp):=by
   intro O
   induction O with
   | nil=>intro k _ e;simp at e
   | cons f O ih=>
    intro k nd e a ha
    rw [List.flatten_cons,List.nodup_append] at nd
    cases k with
    | zero=>
     simp at e;clear ih ap gn gx nf sl kp inn f1 x ek;subst e
     have:a∈(fp'::O).flatten:=ha
     rw [List.flatten_cons] at this
     rcases List.mem_append.mp this with q | q
     · exact .inl q
     · exact .inr ⟨by rw [List.flatten_cons];exact List.mem_append_right _ q,fun z=>nd.2.2 a z a q rfl⟩
    | succ k=>
     simp at e
     have:a∈(f::O.set k fp').flatten:=ha
     rw [List.flatten_cons] at this
     rcases List.mem_append.mp this with q | q
     · exact .inr ⟨by rw [List.flatten_cons];exact List.mem_append_left _ q,fun z=>nd.2.2 a q a (ay e z) rfl⟩
     · rcases ih nd.2.1 e a q with z | z
       · exact .inl z
       · exact .inr ⟨by rw [List.flatten_cons];exact List.mem_append_right _ z.1,z.2⟩
  exact key S.nd ek
 have hix:fp'=[]\/fp'.head?=fp.head?:=x.ix.idx 0 fp fp' rfl rfl
 have ixe:IxE O (O.set k fp'++ex):=(IxE.set ek hix).trans (IxE.append _ _)
 refine ⟨{bs:=S'.bs,sub:=S'.sub,cells:=(S.cells.updE x.sub S.nd ek cr fun b hb h1 o e=>kp b o e h1 fun q=>(S.fo b q).1 hb).append crs,nd:=?_,out:=?_,fr:=?_,oo:=fun a ha=>?_,ond:=S.ond,fo:=fun a ha=>?_,ff:=F},?_⟩
 · rw [aJ,List.nodup_append]
   refine ⟨bv S.nd ek nd'.1 fun a ha=>?_,nd'.2.1,fun a ha b hb q=>?_⟩
   · rcases nf a (List.mem_append_left _ ha) with q | q
     · exact .inl q
     · exact .inr fun z=>by obtain ⟨o,e⟩:=S.cells.ex a z;rw [q] at e;contradiction
   · subst q
     rcases fl a ha with q | q
     · exact nd'.2.2 a q a hb rfl
     · exact ap a (S.cells.ex a q.1) q.2 (List.mem_append_right _ hb)
 · intro a ha
   rw [aJ] at ha
   rcases List.mem_append.mp ha with ha | ha
   · rcases fl a ha with q | q
     · exact out' a (List.mem_append_left _ q)
     · exact gn a (S.cells.ex a q.1) q.2 (S.out a q.1)
   · exact out' a (List.mem_append_right _ ha)
 · exact S.fr.mono x.sub ixe fun a ha o e=>sl a o e fun q=>(S.oo a ha).2 (inn a q)
 · have hn:a∉fp:=fun q=>(S.oo a ha).2 (inn a q)
   refine ⟨gn a (S.own_ex a ha) hn (S.oo a ha).1,fun q=>?_⟩
   rw [aJ] at q
   rcases List.mem_append.mp q with q | q
   · rcases fl a q with q | q
     · exact ap a (S.own_ex a ha) hn (List.mem_append_left _ q)
     · exact (S.oo a ha).2 q.1
   · exact ap a (S.own_ex a ha) hn (List.mem_append_right _ q)
 · refine ⟨fun q=>?_,(fo a ha).2⟩
   rw [aJ] at q
   have hf:=(fo a ha).1
   rw [f2] at hf
   rcases List.mem_append.mp q with q | q
   · rcases fl a q with q | q
     · exact hf (List.mem_append_left _ q)
     · exact (S.fo a ha).1 q.1
   · exact hf (List.mem_append_right _ q)
 · refine ⟨x.sub,ixe,x.dom,fun b o e h1 h2 _=>kp b o e (fun q=>h1 (inn b q)) h2,fun b o e _ h2 _=>sl b o e fun q=>h2 (inn b q),fun b hb=>?_,fun b o e=>(gx b o e).imp id (.imp id fun q=>inn b q)⟩
   rw [aJ] at hb
   rcases List.mem_append.mp hb with hb | hb
   · rcases fl b hb with q | q
     · exact (nf b (List.mem_append_left _ q)).imp (inn b) id
     · exact .inl q.1
   · exact (nf b (List.mem_append_right _ hb)).imp (inn b) id
theorem dI:∀ {vs:List V} {cs:List Value},de vs=true->VRs w G O vs cs->VRs w G O' vs cs
 | [],_,_,r=>r
 | .d _::_,_,e,r=>by
  unfold VRs at r ⊢
  obtain ⟨c,r',rfl,x,y⟩:=r
  exact ⟨c,r',rfl,by unfold VR at x ⊢;exact x,dI e y⟩
 | .tu _::_,_,e,_=>aX e
 | .ref _::_,_,e,_=>aX e
 | .rng _ _::_,_,e,_=>aX e
theorem wq {a:Addr} {sp:au} {vs:List V} {cs:List Value} {Q:V->List aa->Prop} (ok:aE base n fx) (f:aU w base a n sp) (r:VRs w G O vs cs) (q:qn sp vs Z Q E):
  bN w base fx U G O Z (call (.ref a) cs) Q E:=by
 exists w,base,fx,U,G,O,Z,E,n,a,sp,vs,cs,Q,_ ok f r q
 intro s S QQ EE hq he;exists s,QQ,EE,_ S hq he
 unfold qn at q
 split at q
 · rename_i p ep
   obtain ⟨k,rest⟩:=p;exists k,rest,_ ep q
   obtain rfl:=pM ep
   split at q
   · rename_i c hk;exists c,_ hk q
     obtain ⟨ha,q⟩:=ab.mp q
     obtain ⟨fp,ek,cr⟩:=S.cells.at hk;exists fp,_ ek cr
     have hfp:∀ b∈fp,b∈O.flatten:=fun b hb=>ay ek hb
     have ndf:fp.Nodup:=by
      have key:∀ {O:Fp} {k:Nat},O.flatten.Nodup->O[k]?=some fp->fp.Nodup:=by
       intro O
       induction O with
       | nil=>intro k _ e;simp at e
       | cons f O ih=>
        intro k nd e
        rw [List.flatten_cons,List.nodup_append] at nd
        cases k with
        | zero=>simp at e;clear ih hfp cr ek q;subst e;exact nd.1
        | succ k=>simp at e;exact ih nd.2.1 e
      exact key S.nd ek
     have S1:Sim w base G [fp] [c] s.heap:=⟨S.bs,S.sub,by unfold aq;exact ⟨fp,[],rfl,cr,rfl⟩,by simpa using ndf,fun a ha=>S.out a (hfp a (by simpa using ha))⟩
     have r1:VRs w G [fp] (.ref 0::rest) cs:=by
      unfold VRs at r ⊢
      clear q;obtain ⟨c0,r0,rfl,x0,y0⟩:=r
      refine ⟨c0,r0,rfl,?_,dI ha y0⟩
      unfold VR at x0 ⊢
      exact ⟨by simp,fun a r e=>by simp at e;exact x0.2 a r (by rw [ek,e])⟩
     refine f fx.A fx.stk G [fp] [c] _ cs s _ _ QQ EE ok.hand ok.frames ok.depth ok.units S.ff (fun b hb=>⟨fun z=>(S.fo b hb).1 (hfp b (by simpa using z)),(S.fo b hb).2⟩) S1 r1 q ?_ ?_
     · intro G' O' Z' v c1 h' tk x S' F fo rv qv;exists G',O',Z',v,c1,h',tk,_ x S' F fo rv qv
       unfold Ee at qv
       clear q;split at qv
       · rename_i y ey
         obtain rfl:=iX ey
         split at qv
         rotate_left
         · exact qv.elim
         rename_i c' e1
         obtain rfl:=cq e1
         obtain ⟨fp',ex,rfl,crr,cn⟩:=S'.cells
         unfold aq at cn;subst cn
         obtain ⟨St',x'⟩:=S.after1 ek x S' F fo
         rw [List.append_nil,List.append_nil] at St'
         rw [List.append_nil] at x'
         exact hq G' _ _ (.d y) c1 h' tk x' St' (by unfold VR at rv ⊢;exact rv) qv
       · split at qv
         rotate_left
         · exact qv.elim
         rename_i p2 e1
         obtain ⟨c',cn'⟩:=p2;exists c',cn',_ e1 qv
         obtain rfl:=tF e1
         obtain ⟨ev,qv⟩:=ab.mp qv
         obtain rfl:=iu ev
         obtain ⟨fp',ex,rfl,crr,cn⟩:=S'.cells
         obtain ⟨St',x'⟩:=S.after1 ek x S' F fo
         refine hq G' _ _ (.ref Z.length) c1 h' tk x' St' ?_ qv
         clear qv;obtain ⟨fq,ex',rfl,_,cn⟩:=cn
         unfold aq at cn;clear x' St' S' fo x;subst cn
         unfold VR at rv ⊢
         have hl:=S.cells.len
         refine ⟨by simp [hl],fun a r e=>rv.2 a r ?_⟩
         rw [<- hl,List.getElem?_append_right (by simp)] at e
         simpa using e
     · intro G' O' Z' why x1 h' tk x S' F fo xr qe
       unfold Fd at qe
       clear q;split at qe
       · rename_i c' e1
         obtain rfl:=cq e1
         obtain ⟨fp',ex,rfl,crr,cn⟩:=S'.cells
         unfold aq at cn;subst cn
         obtain ⟨St',x'⟩:=S.after1 ek x S' F fo
         rw [List.append_nil,List.append_nil] at St'
         rw [List.append_nil] at x'
         exact he G' _ _ why x1 h' tk x' St' xr qe
       · exact qe.elim
   · exact q.elim
 · obtain ⟨ha,q⟩:=ab.mp q
   have S1:Sim w base G [] [] s.heap:=⟨S.bs,S.sub,rfl,List.nodup_nil,fun a ha=>by simp at ha⟩
   refine f fx.A fx.stk G [] [] _ cs s _ _ QQ EE ok.hand ok.frames ok.depth ok.units S.ff (fun b hb=>⟨by simp,(S.fo b hb).2⟩) S1 (dI ha r) q ?_ ?_
   · intro G' O' Z' v c1 h' tk x S' F fo rv qv;exists G',O',Z',v,c1,h',tk,_ x S' F fo rv qv
     unfold Ef at qv
     clear q;split at qv
     · rename_i y ey
       obtain rfl:=iX ey
       obtain ⟨es,qv⟩:=ab.mp qv
       obtain rfl:=List.isEmpty_iff.mp es
       have cn:=S'.cells
       unfold aq at cn;subst cn
       obtain ⟨St',x'⟩:=S.after0 x S' F fo
       rw [List.append_nil,List.append_nil] at St'
       rw [List.append_nil] at x'
       exact hq G' _ _ (.d y) c1 h' tk x' St' (by unfold VR at rv ⊢;exact rv) qv
     · split at qv
       rotate_left
       · exact qv.elim
       rename_i cn' e1
       obtain rfl:=cq e1
       obtain ⟨ev,qv⟩:=ab.mp qv
       obtain rfl:=iu ev
       obtain ⟨fq,ex,rfl,_,cn⟩:=S'.cells
       have cn2:=cn
       unfold aq at cn2;clear cn;subst cn2
       obtain ⟨St',x'⟩:=S.after0 x S' F fo
       refine hq G' _ _ (.ref Z.length) c1 h' tk x' St' ?_ qv
       unfold VR at rv ⊢
       have hl:=S.cells.len
       refine ⟨by simp [hl],fun a r e=>rv.2 a r ?_⟩
       rw [<- hl,List.getElem?_append_right (Nat.le_refl _)] at e
       simpa using e
   · intro G' O' Z' why x1 h' tk x S' F fo xr qe
     unfold Fe at qe
     · clear q;obtain ⟨es,qe⟩:=ab.mp qe
       obtain rfl:=List.isEmpty_iff.mp es
       have cn:=S'.cells
       unfold aq at cn;subst cn
       obtain ⟨St',x'⟩:=S.after0 x S' F fo
       rw [List.append_nil,List.append_nil] at St'
       rw [List.append_nil] at x'
       exact he G' _ _ why x1 h' tk x' St' xr qe
end
end Mine
namespace Mine
open PySem PySem.W PyProof.Rows PySem.SeqAt
structure Lv (frs:List Addr) (own:Addr->Prop) (h h':Heap):Prop where
 keep:∀ b o,h.get? b=some o->b∉frs->¬ own b->h'.get? b=some o
 slots:∀ b o,h.get? b=some o->b∈frs->∃ sl,h'.get? b=some {o with slots:=sl}
 dom:∀ b o,h.get? b=some o->∃ o',h'.get? b=some o'
theorem Lv.frames {base h h':Heap} {l:List Env} {own:Addr->Prop} {frs:List Addr} (x:Lv frs own h h') (hs:∀ b∈l.filterMap (·.frame),b∈frs) (F:h.FunFrames base l):h'.FunFrames base l:=by
 induction l with
 | nil=>trivial
 | cons env r ih=>
  obtain ⟨h1,zz,h6⟩:=F;obtain ⟨L,o,h2,h3,h4,h5⟩:=zz
  have hm:L∈frs:=hs L (by rw [List.filterMap_cons,h2];exact .head _)
  obtain ⟨sl,e⟩:=x.slots L o h4 hm
  exact ⟨h1,⟨L,_,h2,h3,e,h5⟩,ih (fun b hb=>hs b (by rw [List.filterMap_cons,h2];exact .tail _ hb)) h6⟩
section
variable {M:Model} {A:Around} {E:Value->Shared->Prop} {s:Shared}
theorem gQ {h0 base:Heap} {env:Env} {outer:List Env} {L e dx:Addr} {oe:Obj} {vs:Array Value} {head a0:Value} {hadNext:Bool} {why:Str} {t:Tok} {mE:Str->Option Value} {Q:Unit->Shared->Prop}
  (hfr:A.frames=some (env::outer)) (hl:s.heap.FunFrames base (env::outer)) (hf:env.frame=some L) (he0:∀ b∈(env::outer).filterMap (·.frame),b≠e/\b≠dx)
  (he:s.heap.get? e=some oe) (hc:oe.cls=.ref oL) (hd:oe.data=.fields vs) (hdict:oe.dict=some dx) (hde:dx≠e) (hn:s.heap.Ns1 dx mE) (hw:mE "why"=some (.str why t))
  (ne:h0.get? e=none) (nd:h0.get? dx=none) (d0:∀ b o,h0.get? b=some o->∃ o',s.heap.get? b=some o') (ha0:vs[0]?=some a0) (hsz:vs.size=6)
  (h:∀ h',fM h0 h' e why true->Lv ((env::outer).filterMap (·.frame)) (fun b=>b=e) s.heap h'->Q () {s with heap:=h'}):
  wpAny M A (do let a <- frameOf env;let pl <- entryPlaceOf L hadNext;let b <- EntryCells.newEntry head a .none (rawInt L) .none pl;setField (.ref e) 1 b) (fun _ s'=>wpAny M A (setFlight (.ref e) none) Q E s') E s:=by
 have hsz1:1<vs.size:=by omega
 refine wpAny_bind (wpAny_frameOf_fun hfr hl hf fun h₁ hs₁=>?_)
 refine wpAny_bind (wpAny_entryPlaceOf fun pl hpl=>?_)
 unfold EntryCells.newEntry newFields
 refine wpAny_bind (wpAny_newObj_type ?_ (hpl.sizeOk5 _ _ _ _ _))
 have he₁:h₁.get? e=some oe:=(hs₁.2.1 e fun hm=>(he0 e hm).1 rfl).trans he
 have hn₁:h₁.Ns1 dx mE:=hn.at fun o q=>(hs₁.2.1 dx fun hm=>(he0 dx hm).2 rfl).trans q
 have d₁:∀ b o,s.heap.get? b=some o->∃ o',h₁.get? b=some o':=fun b o q=>let ⟨_,e'⟩:=hs₁.2.2 b o q;⟨_,e'⟩
 generalize hT0:({cls:=.type "traceback",dict:=none,data:=.fields ([head,.ref L,.none,rawInt L,.none]++(if pl.isEmpty then List.replicate 6 Value.none else pl)).toArray}:Obj)=TO
 have hTf:TO.isFreed=false:=by rw [<- hT0];rfl
 have hTd:TO.data=.fields ([head,.ref L,.none,rawInt L,.none]++(if pl.isEmpty then List.replicate 6 Value.none else pl)).toArray:=by rw [<- hT0]
 have he₂:=Heap.get?_push_of_some (h:=h₁) TO he₁
 refine wpAny_setField he₂ hd hsz1 ?_
 have hTe:h₁.objs.size≠e:=Nat.ne_of_gt (Heap.lt_size he₁)
 have hdx1:∃ o,h₁.get? dx=some o:=let ⟨o,_,_,q,_⟩:=hn₁;⟨o,q⟩
 have hTdx:h₁.objs.size≠dx:=let ⟨o,q⟩:=hdx1;Nat.ne_of_gt (Heap.lt_size q)
 have hd₃:=Obj.data_mapFields hd (·.setIfInBounds 1 (Value.ref h₁.objs.size))
 have he₃:=Heap.get?_update_self (Obj.mapFields (·.setIfInBounds 1 (Value.ref h₁.objs.size))) he₂ (Obj.isFreed_of_fields hd₃)
 have hT₃:=(Heap.get?_update_other (h₁.push TO) (Obj.mapFields (·.setIfInBounds 1 (Value.ref h₁.objs.size))) (Ne.symm hTe)).trans (Heap.get?_push_size h₁ hTf)
 unfold setFlight
 refine wpAny_bind (wpAny_field he₃ hd₃ (x:=.ref h₁.objs.size) (by simp [hsz1]) ?_)
 rw [if_pos (show (Value.ref h₁.objs.size != Value.none)=true from by simp)]
 refine wpAny_setField hT₃ hTd (by simp only [List.size_toArray,List.length_append,List.length_cons,List.length_nil] <;> omega) ?_
 have keep:∀ b o,b≠e->h₁.get? b=some o->
   (((h₁.push TO).update e (Obj.mapFields (·.setIfInBounds 1 (Value.ref h₁.objs.size)))).update h₁.objs.size (Obj.mapFields (·.setIfInBounds 3 ((none:Option Addr).elim Value.none fun f=>rawInt f)))).get? b=some o:=fun b o hbe hb=>by
  have hbT:h₁.objs.size≠b:=Nat.ne_of_gt (Heap.lt_size hb)
  rw [Heap.get?_update_other _ _ hbT,Heap.get?_update_other _ _ (Ne.symm hbe)]
  exact Heap.get?_push_of_some _ hb
 have he₄:(((h₁.push TO).update e (Obj.mapFields (·.setIfInBounds 1 (Value.ref h₁.objs.size)))).update h₁.objs.size (Obj.mapFields (·.setIfInBounds 3 ((none:Option Addr).elim Value.none fun f=>rawInt f)))).get? e=some (oe.mapFields (·.setIfInBounds 1 (Value.ref h₁.objs.size))):=by
  rw [Heap.get?_update_other _ _ hTe];exact he₃
 refine h _ ?_ ⟨fun b o q hb hbe=>keep b o hbe ((hs₁.2.1 b hb).trans q),fun b o q hb=>?_,fun b o q=>?_⟩
 · refine ⟨_,_,dx,t,mE,a0,he₄,(Obj.cls_mapFields _ _).trans hc,hd₃,?_,hde,hn₁.at fun o q=>keep dx o hde q,hw,ne,nd,?_,?_,h₁.objs.size,_,_,?_,?_,hTe,hTdx,Heap.get?_update_self _ hT₃ (Obj.isFreed_of_fields (Obj.data_mapFields hTd _)),Obj.data_mapFields hTd _,?_⟩
   · obtain ⟨c,d,dt,sl⟩:=oe;simp only at hd hdict;clear he₄ he₃ hd₃ he₂ he₁ hc he;subst hd;exact hdict
   · rw [Array.getElem?_setIfInBounds_ne (by decide)];exact ha0
   · simp [hsz]
   · simp [hsz1]
   · cases q:h0.get? h₁.objs.size with
     | none=>rfl
     | some o=>
      obtain ⟨o',q'⟩:=d0 _ _ q
      obtain ⟨o'',q''⟩:=d₁ _ _ q'
      exact absurd (Heap.lt_size q'') (Nat.lt_irrefl _)
   · first | (simp;done) | (rcases hpl with rfl | ⟨_,_,_,_,_,_,_,rfl⟩ <;> simp)
 · obtain ⟨sl,q'⟩:=hs₁.2.2 b o q
   exact ⟨sl,keep b _ (he0 b hb).1 q'⟩
 · obtain ⟨o',q'⟩:=d₁ b o q
   by_cases hbe:b=e
   · clear keep hT₃ he₃ hTe he₂ he₁ h ne hde he he0;subst hbe;exact ⟨_,he₄⟩
   · exact ⟨_,keep b o' hbe q'⟩
theorem gU {h0 base:Heap} {env:Env} {outer:List Env} {L e:Addr} {why:Str} {tr:Bool} {Q:Unit->Shared->Prop}
  (hfr:A.frames=some (env::outer)) (hl:s.heap.FunFrames base (env::outer)) (hf:env.frame=some L) (hx:fM h0 s.heap e why tr) (d0:∀ b o,h0.get? b=some o->∃ o',s.heap.get? b=some o')
  (hfx:∀ b∈(env::outer).filterMap (·.frame),∃ o,h0.get? b=some o)
  (h:∀ h',fM h0 h' e why true->Lv ((env::outer).filterMap (·.frame)) (fun b=>h0.get? b=none) s.heap h'->Q () {s with heap:=h'}):
  wpAny M A (noteFrame (.ref e) env) (fun _ s'=>wpAny M A (setFlight (.ref e) none) Q E s') E s:=by
 obtain ⟨oe,vs,dx,t,mE,a0,he,zz⟩:=hx;obtain ⟨hc,hd,hdict,hde,hn,hw,ne,zy⟩:=zz;obtain ⟨nd,ha0,hsz,hh⟩:=zy
 have he0:∀ b∈(env::outer).filterMap (·.frame),b≠e/\b≠dx:=fun b hb=>by
  obtain ⟨o,ho⟩:=hfx b hb
  exact ⟨fun q=>(by rw [q,ne] at ho;contradiction),fun q=>(by rw [q,nd] at ho;contradiction)⟩
 unfold noteFrame
 simp only [hf]
 cases tr with
 | false=>
  refine wpAny_bind (wpAny_field he hd hh ?_)
  rw [if_neg (by decide)]
  exact gQ hfr hl hf he0 he hc hd hdict hde hn hw ne nd d0 ha0 hsz fun h' x l=>h h' x ⟨fun b o q h1 h2=>l.keep b o q h1 fun z=>h2 (z▸ne),l.slots,l.dom⟩
 | true=>
  obtain ⟨T,oT,ts,h1,hnT,hTe,hTdx,zz⟩:=hh;obtain ⟨hT,hdT,h3⟩:=zz
  refine wpAny_bind (wpAny_field he hd h1 ?_)
  rw [if_pos (show (Value.ref T != Value.none)=true from by simp)]
  refine wpAny_bind (wpAny_field hT hdT h3 ?_)
  rw [if_neg (show ¬ ((Value.none==rawInt L)=true) from by simp [rawInt])]
  refine wpAny_bind (wpAny_setField hT hdT (Array.getElem?_eq_some_iff.mp h3).1 ?_)
  have other:∀ b,b≠T->(s.heap.update T (Obj.mapFields (·.setIfInBounds 3 Value.none))).get? b=s.heap.get? b:=fun b hb=>Heap.get?_update_other _ _ (Ne.symm hb)
  have fT:∀ b∈(env::outer).filterMap (·.frame),b≠T:=fun b hb q=>by
   obtain ⟨_,o,ho,hnf⟩:=hl.mem hb
   rw [q,hT] at ho;cases ho;exact hnf ts hdT
  have hT':=Heap.get?_update_self (Obj.mapFields (·.setIfInBounds 3 Value.none)) hT (Obj.isFreed_of_fields (Obj.data_mapFields hdT _))
  refine gQ (h0:=h0) hfr (hl.of_keeps fun b o hb hnf=>⟨o,(other b fun q=>by rw [q,hT] at hb;cases hb;exact hnf ts hdT).trans hb,rfl⟩) hf he0 ((other e (Ne.symm hTe)).trans he) hc hd hdict hde
   (hn.at fun o q=>(other dx (Ne.symm hTdx)).trans q) hw ne nd (fun b o q=>?_) ha0 hsz fun h' x l=>h h' x ⟨fun b o q h1 h2=>l.keep b o ((other b fun z=>h2 (z▸hnT)).trans q) h1 fun z=>h2 (z▸ne),fun b o q hb=>l.slots b o ((other b (fT b hb)).trans q) hb,fun b o q=>?_⟩
  · obtain ⟨o',q'⟩:=d0 b o q
    exact ⟨o',(other b fun z=>by rw [z,hnT] at q;contradiction).trans q'⟩
  · by_cases hb:b=T
    · clear fT other hT hTdx hTe hnT h1;subst hb;exact l.dom _ _ hT'
    · exact l.dom b o ((other b hb).trans q)
theorem nT {h0 base:Heap} {env:Env} {outer:List Env} {L e:Addr} {why:Str} {tr:Bool} {Q:Unit->Shared->Prop}
 (hfr:A.frames=some (env::outer)) (hl:s.heap.FunFrames base (env::outer)) (hf:env.frame=some L) (hx:fM h0 s.heap e why tr) (d0:∀ b o,h0.get? b=some o->∃ o',s.heap.get? b=some o')
 (hfx:∀ b∈(env::outer).filterMap (·.frame),∃ o,h0.get? b=some o)
 (h:∀ h',fM h0 h' e why true->Lv ((env::outer).filterMap (·.frame)) (fun b=>h0.get? b=none) s.heap h'->Q () {s with heap:=h'}):
 wpAny M A (leaving env (.ref e)) Q E s:=wpAny_bind (gU hfr hl hf hx d0 hfx h)
end
end Mine
namespace Mine
open PySem PySem.W PyProof.Rows PySem.SeqAt
inductive Fl where
 | nx | ct | br | rt (v:V)
noncomputable def FlR (w:World) (G:PH) (O:Fp):Fl->Flow->Prop
 | .nx,f=>f=.next
 | .ct,f=>f=.cont
 | .br,f=>f=.brk
 | .rt v,f=>∃ c,f=.ret c/\VR w G O v c
noncomputable def flV (f:Flow):Value:=match f with
 | .ret v=>v
 | _=>.none
noncomputable def SQ (w:World) (base:Heap) (fx:Fx) (G:PH) (O:Fp) (s:Shared) (Q:Fl->Loc->List aa->Prop) (QQ:Flow->Shared->Prop):Prop:=
 ∀ G' O' Z' U' fl f h' tk,Ext fx.own fx.frs G O s.heap G' O' h'->St w base fx G' O' Z' U' h'->FlR w G' O' fl f->Q fl U' Z'->QQ f {s with heap:=h',toks:=tk}
noncomputable def SE (w:World) (base:Heap) (fx:Fx) (G:PH) (O:Fp) (s:Shared) (E:Str->List aa->Prop) (EE:Value->Shared->Prop):Prop:=
 ∀ G' O' Z' U' why x h' tk,Ext fx.own fx.frs G O s.heap G' O' h'->St w base fx G' O' Z' U' h'->qw s.heap h' x why->E why Z'->EE x {s with heap:=h',toks:=tk}
noncomputable def bT (w:World) (base:Heap) (fx:Fx) (U:Loc) (G:PH) (O:Fp) (Z:List aa) (t:Sem Flow) (Q:Fl->Loc->List aa->Prop) (E:Str->List aa->Prop):Prop:=
 ∀ (s:Shared),St w base fx G O Z U s.heap->∀ (QQ:Flow->Shared->Prop) (EE:Value->Shared->Prop),
  SQ w base fx G O s Q QQ->
  SE w base fx G O s E EE->
  wpAny (model PR w) fx.A t QQ EE s
noncomputable def frz (n:Nat) (Z:List aa):V->Option D
 | .d x=>some x
 | .ref k=>match Nat.ble n k with
  | true=>match Z[k]? with
   | some (.oc (.li l))=>some (.li l)
   | some (.oc (.di l))=>some (.di l)
   | _=>none
  | false=>none
 | .tu l=>match frzs l with
  | some ds=>some (.tu ds)
  | none=>none
 | .rng _ _=>none
where frzs:List V->Option (List D)
 | []=>some []
 | v::r=>match frz n Z v,frzs r with
  | some d,some ds=>some (d::ds)
  | _,_=>none
noncomputable def ym (fresh:Bool) (n:Nat) (v:V) (Z:List aa) (Q:V->List aa->Prop):Prop:=match fresh with
 | false=>match frz n Z v with
  | some d=>Q (.d d) (Z.take n)
  | none=>False
 | true=>match v with
  | .ref k=>grd (Nat.ble n k) (match Z[k]? with
   | some (.oc c)=>Q (.ref n) (Z.take n++[.oc c])
   | _=>False)
  | _=>False
noncomputable def a9 (fresh:Bool) (n:Nat) (Q:V->List aa->Prop) (fl:Fl) (_:Loc) (Z:List aa):Prop:=match fl with
 | .rt v=>ym fresh n v Z Q
 | .nx=>ym fresh n (.d .nn) Z Q
 | _=>False
section
variable {w:World} {base:Heap} {fx:Fx} {U:Loc} {G G':PH} {O O':Fp} {Z Z':List aa} {E:Str->List aa->Prop} {α β γ δ:Type} {h h':Heap} {n:Nat}
theorem aq.take:∀ {Z:List aa} {O:Fp} (n:Nat),aq w G h Z O->aq w G h (Z.take n) (O.take n)
 | [],_,n,x=>by unfold aq at x;subst x;simp;rfl
 | _::_,_,0,x=>by simp;rfl
 | _::_,_,n+1,x=>by
  obtain ⟨fp,O',rfl,c,r⟩:=x
  show aq w G h (_::_) (fp::O'.take n)
  exact ⟨fp,_,rfl,c,aq.take n r⟩
noncomputable def frG (n:Nat) (O:Fp) (h:Heap) (G:PH):PH:=fun b=>if b∈(O.drop n).flatten then h.get? b else G b
theorem aM (O:Fp) (n:Nat):O.flatten=(O.take n).flatten++(O.drop n).flatten:=by rw [<- List.flatten_append,List.take_append_drop]
theorem eR (S:Sim w base G O Z h):Sub G (frG n O h G):=fun b o e=>by
 unfold frG
 by_cases q:b∈(O.drop n).flatten
 · have:=S.out b (by rw [aM O n];exact List.mem_append_right _ q)
   rw [e] at this;contradiction
 · rw [if_neg q];exact e
theorem Sim.dropped (S:Sim w base G O Z h) (n:Nat):Sim w base (frG n O h G) (O.take n) (Z.take n) h:=by
 have nd:=S.nd
 rw [aM O n,List.nodup_append] at nd
 refine ⟨fun b o e=>eR S b o (S.bs b o e),fun b o e=>?_,(S.cells.mono (eR (n:=n) S) fun _ _ _ e=>e).take n,nd.1,fun a ha=>?_⟩
 · unfold frG at e
   split at e
   · exact e
   · exact S.sub b o e
 · unfold frG
   rw [if_neg fun q=>nd.2.2 a ha a q rfl]
   exact S.out a (by rw [aM O n];exact List.mem_append_left _ ha)
mutual
theorem VR.frz (S:Sim w base G O Z h):∀ {v:V} {c:Value} {d:D},VR w G O v c->Mine.frz n Z v=some d->DR w (frG n O h G) d c
 | .d x,c,d,r,e=>by
  unfold Mine.frz at e;cases e
  unfold VR at r
  exact r.mono (eR S)
 | .ref k,c,d,r,e=>by
  unfold Mine.frz at e
  split at e
  · rename_i hb
    have hk:n<=k:=Nat.le_of_ble_eq_true hb
    have put:∀ {a:Addr},O[k]?=some [a]->frG n O h G a=h.get? a:=fun {a} ek=>by
     unfold frG
     refine if_pos (List.mem_flatten.mpr ⟨[a],?_,.head _⟩)
     refine List.mem_of_getElem? (i:=k - n) ?_
     rw [List.getElem?_drop,Nat.add_sub_cancel' hk];exact ek
    unfold VR at r
    split at e
    · rename_i l hs
      cases e
      obtain ⟨fp,ek,cr⟩:=S.cells.at hs
      obtain ⟨a,rfl,cs,zz,rs⟩:=cr;obtain ⟨m,p⟩:=zz
      exact ⟨a,cs,_,m,r.2 a [] ek,(put ek).trans p,rfl,rfl,rs.mono (eR S)⟩
    · rename_i l hs
      cases e
      obtain ⟨fp,ek,cr⟩:=S.cells.at hs
      obtain ⟨a,rfl,hsm,cs,zz,rs⟩:=cr;obtain ⟨o,es,ep,ho,z⟩:=zz
      exact ⟨a,cs,r.2 a [] ek,hsm,fun h' k'=>⟨o,es,ep,k' a o ((put ek).trans ho),z⟩,rs.mono (eR S)⟩
    · contradiction
  · contradiction
 | .tu l,c,d,r,e=>by
  unfold Mine.frz at e
  split at e
  · rename_i ds hd
    cases e
    obtain ⟨a,cs,rfl,g,rs⟩:=r
    exact ⟨a,cs,rfl,eR S _ _ g,VRs.frz S rs hd⟩
  · contradiction
 | .rng _ _,_,_,_,e=>by unfold Mine.frz at e;contradiction
theorem VRs.frz (S:Sim w base G O Z h):∀ {vs:List V} {cs:List Value} {ds:List D},VRs w G O vs cs->Mine.frz.frzs n Z vs=some ds->DRs w (frG n O h G) ds cs
 | [],cs,ds,r,e=>by unfold Mine.frz.frzs at e;cases e;unfold VRs at r;subst r;rfl
 | v::vs,cs,ds,r,e=>by
  unfold Mine.frz.frzs at e
  obtain ⟨c,r',rfl,x,y⟩:=r
  split at e
  · rename_i d ds' h1 h2
    cases e
    exact ⟨c,r',rfl,VR.frz S x h1,VRs.frz S y h2⟩
  · contradiction
end
theorem cE {ps:List Str}:∀ {vs:List V} {cs:List Value},VRs w G O vs cs->∀ x v,(ps.zip vs).reverse.lookup x=some v->∃ c,(ps.zip cs).reverse.lookup x=some c/\VR w G O v c:=by
 induction ps with
 | nil=>intro vs cs _ x v e;simp at e
 | cons p ps ih=>
  intro vs cs r x v e
  cases vs with
  | nil=>simp at e
  | cons v0 vs=>
   obtain ⟨c0,r',rfl,x0,y⟩:=r
   simp only [List.zip_cons_cons,List.reverse_cons,List.lookup_append] at e ⊢
   cases q:(ps.zip vs).reverse.lookup x with
   | some v'=>
    rw [q] at e
    simp at e;subst e
    obtain ⟨c,hc,hr⟩:=ih y x v' q
    exact ⟨c,by rw [hc];rfl,hr⟩
   | none=>
    rw [q] at e
    have q':(ps.zip r').reverse.lookup x=none:=by
     have key:∀ {ps:List Str} {vs:List V} {cs:List Value},vs.length=cs.length->(ps.zip vs).reverse.lookup x=none->(ps.zip cs).reverse.lookup x=none:=by
      intro ps
      induction ps with
      | nil=>intro vs cs _ _;simp
      | cons p ps ih=>
       intro vs cs hl e
       cases vs with
       | nil=>cases cs with
        | nil=>simp
        | cons _ _=>simp at hl
       | cons v vs=>cases cs with
        | nil=>simp at hl
        | cons c cs=>
         simp only [List.zip_cons_cons,List.reverse_cons,List.lookup_append,Option.or_eq_none_iff] at e ⊢
         refine ⟨ih (by simpa using hl) e.1,?_⟩
         have:=e.2
         rw [List.lookup_cons] at this ⊢
         clear e ih;split at this
         · contradiction
         · rfl
     exact key y.len.symm q
    rw [q']
    simp only [Option.none_or,List.lookup_cons,List.lookup_nil] at e ⊢
    split at e
    · cases e;exact ⟨c0,rfl,x0⟩
    · contradiction
theorem rj {stk:List Env} {L:Addr} {env:Env} {A:Around} {h₀:Heap} {fresh:Bool} {Q:V->List aa->Prop} {fl:Fl} {f:Flow} {cs0:List Addr}
  (hf:env.frame=some L) (fr0:∀ b∈L::cs0,h.get? b=none) (hown:(⟨env,A,env::stk⟩:Fx).own=L::cs0)
  (keep:∀ b o,h.get? b=some o->h₀.get? b=some o) (hlen:O.length=n)
  (x:Ext (⟨env,A,env::stk⟩:Fx).own (⟨env,A,env::stk⟩:Fx).frs G O h₀ G' O' h') (S:St w base ⟨env,A,env::stk⟩ G' O' Z' U h') (r:FlR w G' O' fl f) (q:a9 fresh n Q fl U Z'):
  ∃ G'' O'' Z'' v,Ext [] (stk.filterMap (·.frame)) G O h G'' O'' h'/\Sim w base G'' O'' Z'' h'/\h'.FunFrames base stk/\(∀ b∈stk.filterMap (·.frame),b∉O''.flatten/\G'' b=none)/\
   VR w G'' O'' v (flV f)/\Q v Z'':=by
 have efr:(⟨env,A,env::stk⟩:Fx).frs=L::stk.filterMap (·.frame):=by show (env::stk).filterMap (·.frame)=_;rw [List.filterMap_cons,hf]
 rw [hown,efr] at x
 have hfo:=S.fo
 rw [efr] at hfo
 have ff:h'.FunFrames base stk:=S.ff.2.2
 have ne:∀ b o,h.get? b=some o->b∉L::cs0:=fun b o e q=>by rw [fr0 b q] at e;contradiction
 have neL:∀ b o,h.get? b=some o->b≠L:=fun b o e q=>ne b o e (q▸.head _)
 have dm:∀ b o,h.get? b=some o->∃ o',h₀.get? b=some o':=fun b o e=>⟨o,keep b o e⟩
 have base_ext:∀ {G'':PH} {O'':Fp},Sub G G''->IxE O O''->(∀ b∈O''.flatten,b∈O'.flatten)->(∀ b o,G'' b=some o->G' b=some o\/b∈O'.flatten)->Ext [] (stk.filterMap (·.frame)) G O h G'' O'' h':=by
  intro G'' O'' hs hi hF hG
  refine ⟨hs,hi,fun b o e=>x.dom b o (keep b o e),fun b o e h1 h2 _=>x.keep b o (keep b o e) h1 (fun q=>?_) (ne b o e),fun b o e h1 h2 _=>x.slots b o (keep b o e) (.tail _ h1) h2 (ne b o e),fun b hb=>?_,fun b o e=>?_⟩
  · rcases List.mem_cons.mp q with q | q
    · exact neL b o e q
    · exact h2 q
  · exact (x.newF b (hF b hb)).imp id fun q=>cW dm q
  · rcases hG b o e with q | q
    · rcases x.newG b o q with z | z | z
      · exact .inl z
      · exact .inr (.inl (cW dm z))
      · exact .inr (.inr z)
    · rcases x.newF b q with z | z
      · exact .inr (.inr z)
      · exact .inr (.inl (cW dm z))
 have hl':n<=O'.length:=hlen▸x.ix.len
 have ixt:IxE O (O'.take n):=by
  refine ⟨by rw [List.length_take];omega,fun k fp fp' e e'=>x.ix.idx k fp fp' e ?_⟩
  have hk:=(List.getElem?_eq_some_iff.mp e).1
  rw [List.getElem?_take] at e'
  rw [if_pos (by omega)] at e';exact e'
 have key:∀ v,ym fresh n v Z' Q->VR w G' O' v (flV f)->∃ G'' O'' Z'' v,Ext [] (stk.filterMap (·.frame)) G O h G'' O'' h'/\Sim w base G'' O'' Z'' h'/\h'.FunFrames base stk/\(∀ b∈stk.filterMap (·.frame),b∉O''.flatten/\G'' b=none)/\
   VR w G'' O'' v (flV f)/\Q v Z'':=by
  intro v q rv
  unfold ym at q
  split at q
  · split at q
    · rename_i d hd
      refine ⟨frG n O' h' G',O'.take n,Z'.take n,.d d,base_ext (x.sub.trans (eR S.toSim)) ixt (fun b hb=>by rw [aM O' n];exact List.mem_append_left _ hb) (fun b o e=>?_),S.toSim.dropped n,ff,fun b hb=>⟨fun z=>(hfo b (.tail _ hb)).1 (by rw [aM O' n];exact List.mem_append_left _ z),?_⟩,?_,q⟩
      · unfold frG at e
        clear q;split at e
        · rename_i z;exact .inr (by rw [aM O' n];exact List.mem_append_right _ z)
        · exact .inl e
      · unfold frG
        rw [if_neg fun z=>(hfo b (.tail _ hb)).1 (by rw [aM O' n];exact List.mem_append_right _ z)]
        exact (hfo b (.tail _ hb)).2
      · unfold VR;exact VR.frz S.toSim rv hd
    · exact q.elim
  · split at q
    · rename_i k
      obtain ⟨hb,q⟩:=ab.mp q
      have hk:n<=k:=Nat.le_of_ble_eq_true hb
      split at q
      · rename_i c hs
        obtain ⟨fp,ek,cr⟩:=S.cells.at hs
        have hmem:fp∈O'.drop n:=List.mem_of_getElem? (i:=k - n) (by rw [List.getElem?_drop,Nat.add_sub_cancel' hk];exact ek)
        have fl:∀ b,b∈(O'.take n++[fp]).flatten->b∈O'.flatten:=fun b hb=>by
         rw [aJ] at hb
         rw [aM O' n]
         clear q;rcases List.mem_append.mp hb with z | z
         · exact List.mem_append_left _ z
         · exact List.mem_append_right _ (List.mem_flatten.mpr ⟨fp,hmem,by simpa using z⟩)
        have nd:=S.nd
        rw [aM O' n,List.nodup_append] at nd
        have ndf:fp.Nodup:=by
         have kk:∀ {l:Fp},l.flatten.Nodup->fp∈l->fp.Nodup:=by
          intro l
          induction l with
          | nil=>intro _ hm;contradiction
          | cons f l ih=>
           intro nd hm
           rw [List.flatten_cons,List.nodup_append] at nd
           clear fl q;rcases List.mem_cons.mp hm with rfl | hm
           · exact nd.1
           · exact ih nd.2.1 hm
         exact kk nd.2.1 hmem
        refine ⟨G',O'.take n++[fp],Z'.take n++[.oc c],.ref n,base_ext x.sub (ixt.trans (IxE.append _ _)) fl (fun b o e=>.inl e),⟨S.bs,S.sub,(S.cells.take n).append (by unfold aq;exact ⟨fp,[],rfl,cr,rfl⟩),?_,fun a ha=>S.out a (fl a ha)⟩,ff,fun b hb=>⟨fun z=>(hfo b (.tail _ hb)).1 (fl b z),(hfo b (.tail _ hb)).2⟩,?_,q⟩
        · rw [aJ,List.nodup_append]
          exact ⟨nd.1,by simpa using ndf,fun a ha b hb e=>nd.2.2 a ha b (List.mem_flatten.mpr ⟨fp,hmem,by simpa using hb⟩) e⟩
        · unfold VR at rv ⊢
          have ht:(O'.take n).length=n:=by rw [List.length_take];omega
          refine ⟨by simp [ht],fun a r e=>rv.2 a r ?_⟩
          rw [List.getElem?_append_right (by omega),ht,Nat.sub_self] at e
          simp at e
          rw [ek,e]
      · exact q.elim
    · exact q.elim
 cases fl with
 | nx=>unfold FlR at r;subst r;exact key (.d .nn) q (by unfold VR DR;rfl)
 | rt v=>unfold FlR at r;obtain ⟨c,rfl,rv⟩:=r;exact key v q rv
 | ct=>exact q.elim
 | br=>exact q.elim
end
end Mine
namespace Mine
open PySem PySem.W PyProof.Rows PySem.SeqAt
noncomputable def bE (n:Nat) (E:Str->List aa->Prop) (why:Str) (_:List aa):Prop:=match n with
 | 0=>E why []
 | _=>False
section
variable {w:World} {base:Heap} {fx:Fx} {U:Loc} {G G':PH} {O O':Fp} {Z Z':List aa} {E:Str->List aa->Prop} {α β γ δ:Type} {h h':Heap} {n:Nat}
theorem gv {k:Str->Option NameKind} {x:Str} (hx:k x=some .local):∀ (binds:List (Str×Value)) (m:Str->Option Value),bindL k binds m x=(binds.reverse.lookup x).or (m x)
 | [],m=>by simp [bindL]
 | (a,v)::r,m=>by
  unfold bindL
  rw [gv hx r]
  simp only [List.reverse_cons,List.lookup_append,List.lookup_cons,List.lookup_nil,Option.or_assoc]
  congr 1
  by_cases q:x=a
  · subst q;rw [if_pos hx];simp
  · have hb:(x==a)=false:=beq_eq_false_iff_ne.mpr q
    simp only [hb]
    split
    · simp [q]
    · rfl
theorem kr {k:Str->Option NameKind} {x:Str} (hx:k x=some .cell):∀ (binds:List (Str×Value)) (m:Str->Option Value),bindC k binds m x=(binds.reverse.lookup x).or (m x):=by
 intro binds
 induction binds with
 | nil=>exact fun m=>rfl
 | cons p r ih=>
  obtain ⟨a,v⟩:=p
  intro m
  unfold bindC
  rw [ih,List.reverse_cons,List.lookup_append,Option.or_assoc]
  congr 1
  by_cases q:x=a
  · rw [q,lK,if_neg (by rw [<- q,hx];exact fun h=>NameKind.noConfusion (Option.some.inj h))];simp
  · rw [jP (beq_eq_false_iff_ne.mpr q)]
    split
    · rfl
    · simp [q]
theorem cI:∀ (names:List (Str×NameKind)) (a b:Nat) (l l':List (Str×Addr)),l.map (·.1)=l'.map (·.1)->(cellsFrom a names l).map (·.1)=(cellsFrom b names l').map (·.1)
 | [],_,_,_,_,e=>e
 | (x,kd)::r,a,b,l,l',e=>by
  unfold cellsFrom
  split
  · exact cI r _ _ _ _ (by simp [e])
  · exact cI r _ _ _ _ e
theorem b9:∀ {l:List (Str×Addr)} {p:Str×Addr},(l.map (·.1)).Nodup->p∈l->l.lookup p.1=some p.2:=by
 intro l p
 induction l with
 | nil=>exact fun _ hp=>nomatch hp
 | cons q r ih=>
  intro nd hp
  rw [List.map_cons,List.nodup_cons] at nd
  rcases List.mem_cons.mp hp with rfl | hp
  · exact lK
  · exact (jP (beq_eq_false_iff_ne.mpr fun q=>nd.1 (List.mem_map.mpr ⟨p,hp,q⟩))).trans (ih nd.2 hp)
structure FnD (w:World) (a:Addr) (fd:FuncData) (body:List Stmt) (ps:List Str):Prop where
 look:∃ o,(MineH.hd.heap_1 w.params).lookup a=some o/\o.data=.func fd
 code:codeIn (MineH.hd.heap_1 w.params) fd.code fd.qualname=true
 body:fd.body=.stmts body
 bind:∀ cs:List Value,cs.length=ps.length->bindArgs fd ⟨cs,[]⟩=pure (ps.zip cs)
 co:fd.scope.isCoroutine=false
 gen:fd.scope.isGenerator=false
 kind:fd.scope.kind=.function
 glob:fd.globals=mainGlobals
 blt:fd.builtins=builtinsNs
 clo:fd.closure=[]
theorem vV {stk:List Env} {L:Addr} {env:Env} {A:Around} {s:Shared} {h₀:Heap} {fresh:Bool} {tk₀:Nat} {cs0:List Addr} {body:List Stmt} {QV:V->List aa->Prop} {EV:Str->List aa->Prop} {QQ EE:Value->Shared->Prop}
  (W:Wd w base) (hf:env.frame=some L) (hfr:A.frames=some (env::stk)) (fr0:∀ b∈L::cs0,s.heap.get? b=none) (hown:(⟨env,A,env::stk⟩:Fx).own=L::cs0)
  (keep:∀ b o,s.heap.get? b=some o->h₀.get? b=some o) (hL:∃ o,h₀.get? L=some o) (F:s.heap.FunFrames base stk) (S0:Sim w base G O Z s.heap) (fo0:∀ b∈stk.filterMap (·.frame),b∉O.flatten/\G b=none)
  (S:St w base ⟨env,A,env::stk⟩ G O Z U h₀)
  (d:bT w base ⟨env,A,env::stk⟩ U G O Z (execs body env) (a9 fresh Z.length QV) (bE Z.length EV))
  (hq:CQ w base stk G O s QV QQ)
  (he:CE w base stk G O s EV EE):
  wpAny (model PR w) A (execs body env) (fun f s'=>QQ (match f with | .ret v=>v | _=>.none) s') (fun e s'=>wpAny (model PR w) A (leaving env e) (fun _ s''=>EE e s'') (fun e' s''=>EE e' s'') s') {s with heap:=h₀,toks:=tk₀}:=by
 refine d {s with heap:=h₀,toks:=tk₀} S _ _ (fun G' O' Z' U' fl f h' tk x S' r q=>?_) (fun G' O' Z' U' why e h' tk x S' r q=>?_)
 · obtain ⟨G'',O'',Z'',v,x',S'',F',zz⟩:=rj hf fr0 hown keep S0.cells.len x S' r q;obtain ⟨fo',rv,qv⟩:=zz
   have z:=hq G'' O'' Z'' v _ h' tk x' S'' F' fo' rv qv
   revert z
   clear rv r;cases f <;> exact id
 · unfold bE at q
   split at q
   · rename_i hn
     have hs:Z=[]:=List.length_eq_zero_iff.mp hn
     clear hn;subst hs
     have hi:O=[]:=by have:=S0.cells;unfold aq at this;exact this
     clear d S hq;subst hi
     obtain ⟨ea,tr,rfl,hx⟩:=r
     have efr:(⟨env,A,env::stk⟩:Fx).frs=L::stk.filterMap (·.frame):=by show (env::stk).filterMap (·.frame)=_;rw [List.filterMap_cons,hf]
     rw [hown,efr] at x
     have ef2:(env::stk).filterMap (·.frame)=L::stk.filterMap (·.frame):=efr
     have dm:∀ b o,s.heap.get? b=some o->∃ o',h₀.get? b=some o':=fun b o e=>⟨o,keep b o e⟩
     have ne:∀ b o,s.heap.get? b=some o->b∉L::cs0:=fun b o e q=>by rw [fr0 b q] at e;contradiction
     have neL:∀ b o,s.heap.get? b=some o->b≠L:=fun b o e q=>ne b o e (q▸.head _)
     refine nT (h0:=h₀) hfr S'.ff hf hx x.dom (fun b hb=>?_) fun h2 hx2 lv=>?_
     · rw [ef2] at hb
       clear neL ne ef2 efr x hown fr0 hf;rcases List.mem_cons.mp hb with rfl | hb
       · exact hL
       · obtain ⟨_,o,ho,_⟩:=F.mem hb;exact ⟨o,keep b o ho⟩
     rw [ef2] at lv
     have kp:∀ b o,s.heap.get? b=some o->b∉stk.filterMap (·.frame)->h2.get? b=some o:=fun b o e hb=>by
      have hb':b∉L::stk.filterMap (·.frame):=fun q=>(List.mem_cons.mp q).elim (neL b o e) hb
      exact lv.keep b o (x.keep b o (keep b o e) (by simp) hb' (ne b o e)) hb' fun z=>by rw [keep b o e] at z;contradiction
     have sl:∀ b o,s.heap.get? b=some o->b∈stk.filterMap (·.frame)->∃ sl,h2.get? b=some {o with slots:=sl}:=fun b o e hb=>by
      obtain ⟨sl,e1⟩:=x.slots b o (keep b o e) (.tail _ hb) (by simp) (ne b o e)
      obtain ⟨sl',e2⟩:=lv.slots b _ e1 (.tail _ hb)
      exact ⟨sl',e2⟩
     have gb:∀ b o,G b=some o->s.heap.get? b=some o:=S0.sub
     refine he G [] [] why (.ref ea) h2 tk ⟨Sub.refl _,IxE.refl _,fun b o e=>?_,fun b o e _ h2' _=>kp b o e h2',fun b o e h1 _ _=>sl b o e h1,fun b hb=>by simp at hb,fun b o e=>.inl e⟩
      ⟨S0.bs,fun b o e=>kp b o (gb b o e) fun hb=>(by exact nS (((fo0 b hb).2).symm.trans e)),rfl,List.nodup_nil,fun a ha=>by simp at ha⟩ ?_ (fun b hb=>⟨by simp,(fo0 b hb).2⟩) ⟨ea,true,rfl,?_⟩ q
     · by_cases hb:b∈stk.filterMap (·.frame)
       · obtain ⟨sl,e'⟩:=sl b o e hb;exact ⟨_,e'⟩
       · exact ⟨o,kp b o e hb⟩
     · exact lv.frames (fun b hb=>.tail _ hb) S'.ff.2.2
     · have:=qw.weaken dm (h:=h2) (x:=.ref ea) ⟨ea,true,rfl,hx2⟩
       obtain ⟨e',tr',h1,h2'⟩:=this
       cases h1
       cases tr' with
       | true=>exact h2'
       | false=>
        obtain ⟨oe,vs,dx,t,mE,a0,k1,zz⟩:=hx2;obtain ⟨k2,k3,k4,k5,k6,k7,k8,zy⟩:=zz;obtain ⟨k9,k10,k11,k12⟩:=zy
        obtain ⟨oe',vs',_,_,_,_,j1,zz⟩:=h2';obtain ⟨_,j3,_,_,_,_,_,zy⟩:=zz;obtain ⟨_,_,_,j12⟩:=zy
        rw [k1] at j1;cases j1
        rw [k3] at j3;cases j3
        obtain ⟨T,_,_,l1,_⟩:=k12
        rw [l1] at j12;cases j12
   · exact q.elim
theorem E1 (W:Wd w base) {a:Addr} {fd:FuncData} {body:List Stmt} {ps:List Str} {sp:au} (fresh:Bool) (D:FnD w a fd body ps) (hcell:∀ x∈fd.scope.names,x.2≠.cell) (hloc:∀ x∈ps,fd.scope.names.lookup x=some .local)
  (hb:∀ (vs:List V) (Z:List aa) (Q:V->List aa->Prop) (E:Str->List aa->Prop),sp vs Z Q E->vs.length=ps.length/\∀ (fx:Fx) (G:PH) (O:Fp),aE base n fx->fx.env.scope=fd.scope->fx.env.cells=[]->
   bT w base fx (ps.zip vs).reverse G O Z (execs body fx.env) (a9 fresh Z.length Q) (bE Z.length E)):aU w base a (n+1) sp:=by
 intro A stk G O Z vs cs s Q E QQ EE hA hfr hdep hun F fo S0 rvs q hq he
 obtain ⟨o,hlook,hdat⟩:=D.look
 obtain ⟨hlen,d⟩:=hb vs Z Q E q
 have bk:∀ b o,base.get? b=some o->s.heap.get? b=some o:=fun b o e=>S0.sub b o (S0.bs b o e)
 have hcs:cs.length=ps.length:=by rw [rvs.len];exact hlen
 refine wpAny_call (codeAny_call_plain (fd:=fd) (body:=body) (binds:=ps.zip cs) (by omega) (bk _ _ (W.K _ _ hlook)) hdat (W.nolimit.keeps bk) ((codeRec_of W.K D.code).keeps bk) D.body (D.bind cs hcs) hcell (fun x hx=>hloc _ (List.of_mem_zip hx).1) (fun h₀ hns keep=>?_) D.co D.gen D.kind)
 have fresh0:=aW s.heap
 have gn:G s.heap.objs.size=none:=by
  cases e:G s.heap.objs.size with
  | none=>rfl
  | some o'=>exact nS (fresh0.symm.trans (S0.sub _ _ e))
 have hcl:(callEnv fd s.heap.objs.size a).cells=[]:=D.clo
 have hown:(⟨callEnv fd s.heap.objs.size a,A.deeper (callEnv fd s.heap.objs.size a),callEnv fd s.heap.objs.size a::stk⟩:Fx).own=[s.heap.objs.size]:=by
  show s.heap.objs.size::(callEnv fd s.heap.objs.size a).cells.map (·.2)=_
  rw [hcl];rfl
 have Lf:∀ a∈O.flatten,a≠s.heap.objs.size:=fun a ha q=>by obtain ⟨o',e⟩:=S0.cells.ex a ha;rw [q,fresh0] at e;contradiction
 have hL:∃ o,h₀.get? s.heap.objs.size=some o:=let ⟨o,_,_,e,_⟩:=hns;⟨o,e⟩
 have bn:base.get? s.heap.objs.size=none:=by
  cases e:base.get? s.heap.objs.size with
  | none=>rfl
  | some o'=>exact nS (fresh0.symm.trans (bk _ _ e))
 refine vV (cs0:=[]) (G:=G) (O:=O) (Z:=Z) (U:=(ps.zip vs).reverse) (fresh:=fresh) W rfl (Around.frames_deeper hfr) (fun b hb=>by rw [List.mem_singleton] at hb;subst hb;exact fresh0) hown keep hL F S0 fo ?_ ?_ hq he
 · refine {bs:=S0.bs,sub:=fun b o e=>keep b o (S0.sub b o e),cells:=S0.cells.mono (Sub.refl _) fun a _ o e=>keep a o e,nd:=S0.nd,out:=S0.out,fr:=⟨⟨_,hns,fun x v hv hk=>?_⟩,fun p hp=>?_⟩,oo:=?_,ond:=by rw [hown];simp,fo:=?_,ff:=?_}
   · exact cE rvs x v hv
   · rw [hcl] at hp;contradiction
   · rw [hown]
     intro b hb
     rw [List.mem_singleton] at hb;subst hb
     exact ⟨gn,fun q=>Lf _ q rfl⟩
   · intro b hb
     rcases List.mem_cons.mp (show b∈s.heap.objs.size::stk.filterMap (·.frame) from hb) with rfl | hb
     · exact ⟨fun q=>Lf _ q rfl,gn⟩
     · exact fo b hb
   · exact Heap.FunFrames.cons (by show fd.scope.kind≠_;rw [D.kind];decide) rfl hns bn (F.of_keeps fun b o e _=>⟨o,keep b o e,rfl⟩)
 · refine d ⟨callEnv fd s.heap.objs.size a,A.deeper (callEnv fd s.heap.objs.size a),callEnv fd s.heap.objs.size a::stk⟩ G O ⟨D.kind,D.glob,D.blt,hA,Around.frames_deeper hfr,?_,?_,⟨_,_,_,rfl,rfl,rfl⟩⟩ rfl hcl
   · show A.depth+1+4*n+4<_;omega
   · show A.units+3+200*n+200<_;omega
theorem BO (W:Wd w base) {a:Addr} {fd:FuncData} {body:List Stmt} {ps:List Str} {sp:au} (fresh:Bool) (D:FnD w a fd body ps) (hnd:((cellsFrom 0 fd.scope.names []).map (·.1)).Nodup)
  (hkind:∀ x∈ps,fd.scope.names.lookup x=some .local\/(fd.scope.names.lookup x=some .cell/\x∈(cellsFrom 0 fd.scope.names []).map (·.1)))
  (hb:∀ (vs:List V) (Z:List aa) (Q:V->List aa->Prop) (E:Str->List aa->Prop),sp vs Z Q E->vs.length=ps.length/\∀ (fx:Fx) (G:PH) (O:Fp),aE base n fx->fx.env.scope=fd.scope->fx.env.cells.map (·.1)=(cellsFrom 0 fd.scope.names []).map (·.1)->
   bT w base fx (ps.zip vs).reverse G O Z (execs body fx.env) (a9 fresh Z.length Q) (bE Z.length E)):aU w base a (n+1) sp:=by
 exists w,base,n,a,fd,body,ps,sp,fresh,_ W D hnd hkind hb
 intro A stk G O Z vs cs s Q E QQ EE hA hfr hdep hun F fo S0 rvs q hq he;exists A,stk,G,O,Z,vs,cs,s,Q,E,QQ,EE,_ hA hfr hdep hun F fo S0 rvs q hq he
 obtain ⟨o,hlook,hdat⟩:=D.look
 obtain ⟨hlen,d⟩:=hb vs Z Q E q
 have bk:∀ b o,base.get? b=some o->s.heap.get? b=some o:=fun b o e=>S0.sub b o (S0.bs b o e)
 have hcs:cs.length=ps.length:=by rw [rvs.len];exact hlen
 have keys:∀ L,(cellsFrom L fd.scope.names []).map (·.1)=(cellsFrom 0 fd.scope.names []).map (·.1):=fun L=>cI _ _ _ _ _ rfl
 refine wpAny_call (codeAny_call_cells (fd:=fd) (body:=body) (binds:=ps.zip cs) (by omega) (bk _ _ (W.K _ _ hlook)) hdat (W.nolimit.keeps bk) ((codeRec_of W.K D.code).keeps bk) D.body (D.bind cs hcs) D.clo (fun x hx=>?_) (fun s₁ x=>?_) D.co D.gen D.kind)
 · refine (hkind _ (List.of_mem_zip hx).1).imp id fun z=>⟨z.1,?_⟩
   have hm:=z.2
   rw [<- keys (s.heap.objs.size+1)] at hm
   obtain ⟨p,hp,e⟩:=List.mem_map.mp hm
   rw [<- e,b9 (by rw [keys];exact hnd) hp];rfl
 obtain ⟨zz,hcell,hap,hab⟩:=x;obtain ⟨zy,hns,keep,_⟩:=zz;obtain ⟨h₀,tk₀,rfl⟩:=zy
 have fresh0:=aW s.heap
 generalize hC:callEnvC fd s.heap.objs.size a=env at *
 have hloc:env.locals=s.heap.objs.size:=by rw [<- hC];rfl
 have hce:env.cells=cellsFrom (s.heap.objs.size+1) fd.scope.names []:=by rw [<- hC];rfl
 have hsc:env.scope=fd.scope:=by rw [<- hC];rfl
 have hfm:env.frame=some s.heap.objs.size:=by rw [<- hC];rfl
 have hko:∀ x,env.kindOf x=fd.scope.names.lookup x:=fun x=>by show env.scope.names.lookup x=_;rw [hsc]
 have ndk:(env.cells.map (·.1)).Nodup:=by rw [hce,keys];exact hnd
 rw [hloc] at hns
 have hown:(⟨env,A.deeper env,env::stk⟩:Fx).own=s.heap.objs.size::env.cells.map (·.2):=by show env.locals::_=_;rw [hloc]
 have frc:∀ b∈s.heap.objs.size::env.cells.map (·.2),s.heap.get? b=none:=fun b hb=>by
  rcases List.mem_cons.mp hb with rfl | hb
  · exact fresh0
  · obtain ⟨p,hp,rfl⟩:=List.mem_map.mp hb
    have:=hab p.1 p.2 hp
    rw [hloc] at this
    cases e:s.heap.get? p.2 with
    | none=>rfl
    | some o'=>exact absurd (Heap.lt_size e) (Nat.not_lt.mpr (Nat.le_of_lt this))
 have gn:∀ b,s.heap.get? b=none->G b=none:=fun b hb=>by
  cases e:G b with
  | none=>rfl
  | some o'=>rw [S0.sub _ _ e] at hb;contradiction
 have Lf:∀ a∈O.flatten,s.heap.get? a≠none:=fun a ha q=>by obtain ⟨o',e⟩:=S0.cells.ex a ha;exact nS (q.symm.trans e)
 have hL:∃ o,h₀.get? s.heap.objs.size=some o:=let ⟨o,_,_,e,_⟩:=hns;⟨o,e⟩
 have bn:base.get? s.heap.objs.size=none:=by
  cases e:base.get? s.heap.objs.size with
  | none=>rfl
  | some o'=>exact nS (fresh0.symm.trans (bk _ _ e))
 refine vV (cs0:=env.cells.map (·.2)) (G:=G) (O:=O) (Z:=Z) (U:=(ps.zip vs).reverse) (fresh:=fresh) W hfm (Around.frames_deeper hfr) frc hown keep hL F S0 fo ?_ ?_ hq he
 · refine {bs:=S0.bs,sub:=fun b o e=>keep b o (S0.sub b o e),cells:=S0.cells.mono (Sub.refl _) fun a _ o e=>keep a o e,nd:=S0.nd,out:=S0.out,fr:=⟨⟨_,by show Heap.Ns h₀ env.locals _;rw [hloc];exact hns,fun x v hv hk=>?_⟩,fun p hp=>?_⟩,oo:=?_,ond:=?_,fo:=?_,ff:=?_}
   · obtain ⟨c,hc,r⟩:=cE rvs x v hv
     exact ⟨c,by rw [gv hk,hc];rfl,r⟩
   · refine ⟨_,hcell p.1 p.2 (b9 ndk hp),fun v hv hk=>?_⟩
     obtain ⟨c,hc,r⟩:=cE rvs p.1 v hv
     exact ⟨c,by rw [kr hk,hc];rfl,r⟩
   · rw [hown]
     intro b hb
     exact ⟨gn b (frc b hb),fun q=>Lf b q (frc b hb)⟩
   · rw [hown]
     refine List.nodup_cons.mpr ⟨fun q=>?_,?_⟩
     · obtain ⟨p,hp,e⟩:=List.mem_map.mp q
       have:=hab p.1 p.2 hp
       rw [hloc,e] at this
       exact Nat.lt_irrefl _ this
     · exact List.pairwise_map.mpr hap
   · intro b hb
     have hb':b∈s.heap.objs.size::stk.filterMap (·.frame):=by
      have:b∈(env::stk).filterMap (·.frame):=hb
      rw [List.filterMap_cons,hfm] at this;exact this
     rcases List.mem_cons.mp hb' with rfl | hb
     · exact ⟨fun q=>Lf _ q fresh0,gn _ fresh0⟩
     · exact fo b hb
   · exact Heap.FunFrames.cons (by show env.scope.kind≠_;rw [hsc,D.kind];decide) hfm hns bn (F.of_keeps fun b o e _=>⟨o,keep b o e,rfl⟩)
 · refine d ⟨env,A.deeper env,env::stk⟩ G O ⟨by show env.scope.kind=_;rw [hsc];exact D.kind,by show env.globals=_;rw [<- hC];exact D.glob,by show env.builtins=_;rw [<- hC];exact D.blt,hA,Around.frames_deeper hfr,?_,?_,⟨_,_,_,rfl,hfm,hfm⟩⟩ hsc (by show env.cells.map _=_;rw [hce,keys])
   · show A.depth+1+4*n+4<_;omega
   · show A.units+3+200*n+200<_;omega
end
end Mine
namespace Mine
open PySem PySem.W PyProof.Rows PySem.SeqAt
noncomputable def zC:Data->Option FuncData
 | .func fd=>some fd
 | _=>none
theorem nW {d:Data} {fd:FuncData} (h:zC d=some fd):d=.func fd:=by
 cases d with
 | func x=>exact congrArg Data.func (Option.some.inj h)
 | _=>exact nS h
noncomputable def yn (P:Params) (a:Addr):Option FuncData:=((MineH.hd.heap_1 P).lookup a).bind fun o=>zC o.data
noncomputable def aK (P:Params) (a:Addr):FuncData:=match yn P a with
 | some fd=>fd
 | none=>default
noncomputable def ae (P:Params) (a:Addr):List Stmt:=match (aK P a).body with
 | .stmts b=>b
 | _=>[]
noncomputable def ac (P:Params) (a:Addr):List (Str×NameKind):=(aK P a).scope.names
noncomputable def yb:FuncBody->Bool
 | .stmts _=>true
 | _=>false
noncomputable def EP:ScopeKind->Bool
 | .function=>true
 | _=>false
noncomputable def n7 (P:Params) (a:Addr):Bool:=match yn P a with
 | some fd=>yb fd.body&&(codeIn (MineH.hd.heap_1 P) fd.code fd.qualname&&(!fd.scope.isCoroutine&&(!fd.scope.isGenerator&&(EP fd.scope.kind&&(Nat.beq fd.globals mainGlobals&&(Nat.beq fd.builtins builtinsNs&&fd.closure.isEmpty))))))
 | none=>false
theorem aA {w:World} {a:Addr} {ps:List Str} (h:n7 w.params a=true) (hb:∀ cs:List Value,cs.length=ps.length->bindArgs (aK w.params a) ⟨cs,[]⟩=pure (ps.zip cs)):
  FnD w a (aK w.params a) (ae w.params a) ps:=by
 unfold n7 at h
 unfold aK at hb ⊢
 cases e:yn w.params a with
 | none=>rw [e] at h;contradiction
 | some fd=>
  rw [e] at h hb
  simp only [Bool.and_eq_true,Bool.not_eq_true'] at h
  obtain ⟨h1,h2,h3,h4,h5,h6,h7,h8⟩:=h
  have hs:ae w.params a=(match fd.body with | .stmts b=>b | _=>[]):=by unfold ae aK;rw [e]
  refine ⟨?_,h2,?_,hb,h3,h4,?_,Nat.eq_of_beq_eq_true h6,Nat.eq_of_beq_eq_true h7,?_⟩
  · obtain ⟨o,ho,e⟩:=Option.bind_eq_some_iff.mp e
    exact ⟨o,ho,nW e⟩
  · rw [hs]
    revert h1
    cases hbd:fd.body <;> intro h1
    · rfl
    · contradiction
  · revert h5
    cases hk:fd.scope.kind <;> intro h5 <;> first | rfl | contradiction
  · show fd.closure=[]
    simpa using h8
theorem gT {p:List Value->Prop} (h:p []) (cs:List Value) (e:cs.length=0):p cs:=(List.length_eq_zero_iff.mp e).symm▸h
theorem vC {n:Nat} {p:List Value->Prop} (h:∀ a r,r.length=n->p (a::r)) (cs:List Value) (e:cs.length=n+1):p cs:=by
 cases cs with
 | nil=>exact (Nat.succ_ne_zero n e.symm).elim
 | cons a r=>exact h a r (Nat.succ.inj e)
theorem mI {p:List Value->Prop} (h:∀ a,p [a]):∀ cs:List Value,cs.length=1->p cs:=vC fun a=>gT (p:=fun r=>p (a::r)) (h a)
theorem cS {p:List Value->Prop} (h:∀ a b,p [a,b]):∀ cs:List Value,cs.length=2->p cs:=vC fun a=>mI (p:=fun r=>p (a::r)) (h a)
theorem mH {p:List Value->Prop} (h:∀ a b c,p [a,b,c]):∀ cs:List Value,cs.length=3->p cs:=vC fun a=>cS (p:=fun r=>p (a::r)) (h a)
theorem x5 {p:List Value->Prop} (h:∀ a b c d,p [a,b,c,d]):∀ cs:List Value,cs.length=4->p cs:=vC fun a=>mH (p:=fun r=>p (a::r)) (h a)
theorem Gc {p:List Value->Prop} (h:∀ a b c d e,p [a,b,c,d,e]):∀ cs:List Value,cs.length=5->p cs:=vC fun a=>x5 (p:=fun r=>p (a::r)) (h a)
theorem d28 (w:World):FnD w 28 (aK w.params 28) (ae w.params 28) ["self","why"]:=aA (by kernel_rfl) (cS fun a b=>by kernel_rfl)
end Mine
namespace Mine
open PySem PySem.W PyProof.Rows PySem.SeqAt Builtin Builtin.ObjectAttr
noncomputable abbrev bmM:List Value:=[.ref 31,.type "Exception",.type "BaseException",.type "object"]
noncomputable def mo (P:Params):Obj:=((MineH.hd.heap_1 P).lookup 44).getD default
noncomputable def mcd (P:Params):ClassData:=match (mo P).data with
 | .cls c=>c
 | _=>default
noncomputable def mk (k:Nat) (P:Params):Option Value:=((mo P).slots.toList[k]?).bind id
theorem xW (P:Params):findIn (MineH.hd.heap_1 P) (.ref 44) "__init__"=some (some (.ref 28)):=by kernel_rfl
theorem Bv (P:Params):findIn (MineH.hd.heap_1 P) (.ref 44) "__setattr__"=some (some (.builtin "object.__setattr__")):=by kernel_rfl
theorem vp (P:Params):findIn (MineH.hd.heap_1 P) (.ref 44) "why"=some none:=by kernel_rfl
theorem Bw (P:Params):findIn (MineH.hd.heap_1 P) (.ref 44) "at"=some none:=by kernel_rfl
theorem Em (P:Params):typeIn (MineH.hd.heap_1 P) (.ref 28)=some (.type "function"):=by kernel_rfl
theorem eJ {P:Params} {h:Heap} (X:(MineH.hd.heap_1 P).In h):
 h.get? 44=some (excClassObj (mcd P).name (mcd P).qualname 44 (mcd P).ns (mcd P).bases bmM true (mcd P).slotNames (mcd P).subclasses false (mcd P).collection (mo P).dict (mk 0 P) (mk 1 P) (mk 2 P) (mk 3 P) (mk 5 P) "Exception.__new__"):=X _ _ (by kernel_rfl)
section
variable {prog:Program} {w:World} {A:Around} {E:Value->Shared->Prop} {h:Heap} {g:Array GenState} {d:Drawn} {t:Nat} {os:OsState}
variable {nm q:Str} {N:Addr} {bs:List Value} {sn:List Str} {sub:List Value} {col:Option Bool} {dd:Option Addr} {k0 k1 k2 k3 k5:Option Value} {R:Result->Shared->Prop}
theorem in1 {h:Heap} {a:Addr} {o:Obj} (e:h.get? a=some o):Frag.In [(a,o)] h:=fun b x q=>by
 rw [List.lookup_cons] at q
 split at q
 · rename_i z;cases q;rw [eq_of_beq z];exact e
 · contradiction
theorem kN {M:Model} {rest:List Value} {Q:Unit->Shared->Prop} (hC:h.get? 44=some (excClassObj nm q 44 N bs bmM true sn sub false col dd k0 k1 k2 k3 k5 "Exception.__new__"))
  (hq:Q () ⟨h,g,d,t,os⟩):wpAny M A (checkBuiltinCall "Exception.__new__" ⟨.ref 44::rest,[]⟩) Q E ⟨h,g,d,t,os⟩:=by
 have F:=F.excBase_Exception
 exact (Looks.of_peek (in1 hC) (by kernel_rfl)).here hq
theorem xV {rest:List Value} (hC:h.get? 44=some (excClassObj nm q 44 N bs bmM true sn sub false col dd k0 k1 k2 k3 k5 "Exception.__new__"))
  (hq:R (.ok (.ret (.ref (h.objs.size+1)))) ⟨(h.push {cls:=.type "tuple",data:=.seq rest.toArray}).push
   {cls:=.ref 44,data:=.fields #[.ref h.objs.size,.none,.none,.none,.bool false,.none]},g,d,t,os⟩) (hrest:rest.length<=sizeLine):
  codeAny (model prog w) A (.builtin "Exception.__new__" ⟨.ref 44::rest,[]⟩) R ⟨h,g,d,t,os⟩:=by
 have F:=F.excBase_Exception
 have hends:=F.ends
 have hcB:(Value.ref 44::bmM).contains (.type "Exception")=true:=by decide
 have hcA:(Value.ref 44::bmM).contains (.type "AttributeError")=false:=by decide
 have hcN:(Value.ref 44::bmM).contains (.type "NameError")=false:=by decide
 refine codeAny_builtinAt F.entry ?_
 unfold Builtin.«BaseException.__new__»
 refine PySem.wpAt_bind ?_
 show PySem.wpAt _ _ _ (stack>>=_) _ _ _
 refine PySem.wpAt_bind (PySem.wpAt_stack fun p below=>PySem.wpAt_of_wpAny ?_)
 wp_walk
 refine PySem.wpAt_of_wpAny ?_
 rw [F.owner]
 repeat (first | with_reducible refine wpAny_madeHere_exc F.canon hC ?_ | with_reducible refine wpAny_loadPart_at hC ?_ | (with_reducible refine wpAny_isSubtype_exc hC ?_;first | rw [hcB] | rw [hcA] | rw [hcN]) | wp_step)
 show R _ _
 rw [Heap.size_push]
 exact hq
theorem kK (X:(MineH.hd.heap_1 w.params).In h) {rest:List Value} {Q:PySem.Fin->Shared->Prop} (hC:h.get? 44=some (excClassObj nm q 44 N bs bmM true sn sub false col dd k0 k1 k2 k3 k5 "Exception.__new__"))
  (hq:∀ h' e,Heap.MadeExcOf h h' e (.ref 44) rest->
   wpAny (model prog w) A (call (.ref 28) (.ref e::rest)) (fun r s'=>r=.none/\Q (.done (.ret (.ref e))) s') E ⟨h',g,d,t,os⟩) (hrest:rest.length<=sizeLine):
  wpAny (model prog w) A (Builtin.«type.__call__» ⟨.ref 44::rest,[]⟩) Q E ⟨h,g,d,t,os⟩:=by
 have F:=F.excBase_Exception
 repeat (first | with_reducible refine wpAny_loadPart_at hC ?_ | with_reducible refine wpAny_madeBy_exc hC ?_ | wp_step)
 refine codeAny_call_builtin_code (Code.quiet_builtin _ F.quiet) (kN hC ?_)
 refine xV hC ?_ hrest
 show wpAny _ _ _ _ _ _
 have kp:∀ b o,h.get? b=some o->((h.push {cls:=.type "tuple",data:=.seq rest.toArray}).push {cls:=.ref 44,data:=.fields #[.ref h.objs.size,.none,.none,.none,.bool false,.none]}).get? b=some o:=fun b o e=>
  Heap.get?_push_of_some _ (Heap.get?_push_of_some _ e)
 have hC₁:=kp _ _ hC
 have X₁:=X.keeps kp
 have hget:((h.push {cls:=.type "tuple",data:=.seq rest.toArray}).push
  {cls:=.ref 44,data:=.fields #[.ref h.objs.size,.none,.none,.none,.bool false,.none]}).get? (h.objs.size+1)=some
  {cls:=.ref 44,data:=.fields #[.ref h.objs.size,.none,.none,.none,.bool false,.none]}:=by heap_get
 have hcC:(Value.ref 44::bmM).contains (.ref 44)=true:=by simp
 unfold isInstance
 repeat (first | with_reducible refine wpAny_loadPart_at hget ?_ | (with_reducible refine wpAny_isSubtype_exc hC₁ ?_;rw [hcC]) | wp_step)
 show wpAny _ _ (typeLookup (.ref 44) _) _ _ _
 refine (looks_findIn X₁ (xW w.params)).here ?_
 refine wpAny_holding (wpAny_bind ?_)
 refine (bind_fn X₁ _ (Em w.params)).here ?_
 refine wpAny_bind (wpAny_mono (hq _ (h.objs.size+1) ⟨kp,Heap.get?_none_of_le (Nat.le_succ _),h.objs.size,hget,Heap.get?_none_of_le (Nat.le_refl _),?_⟩) (fun r s' hr=>?_) fun _ _ x=>x)
 · exact Heap.get?_push_of_some _ (Heap.get?_push_at rfl rfl)
 · obtain ⟨rfl,hQ⟩:=hr
   wp_walk
   exact hQ
theorem vo (X:(MineH.hd.heap_1 w.params).In h) {rest:List Value} {Q:Value->Shared->Prop} (hq:∀ h' e,Heap.MadeExcOf h h' e (.ref 44) rest->
   wpAny (model prog w) (A.under (.builtin "type.__call__" ⟨.ref 44::rest,[]⟩)) (call (.ref 28) (.ref e::rest)) (fun r s'=>r=.none/\Q (.ref e) s') E ⟨h',g,d,t,os⟩) (hrest:rest.length<=sizeLine):
  wpAny (model prog w) A (call (.ref 44) rest) Q E ⟨h,g,d,t,os⟩:=by
 have hC:=eJ X
 have f1:=tc_lookup
 have f2:=tc_bind (.ref 44)
 have hT:(⟨h,g,d,t,os⟩:Shared).TypeIs (.ref 44) "type":=⟨_,hC,rfl⟩
 refine wpAny_call (codeAny_of_tree ?_)
 show wpAny _ _ (callAny (.ref 44) _) _ _ _
 repeat (any_goals (first | assumption | with_reducible refine wpAny_loadPart_at hC ?_ | wp_step))
 refine ⟨rfl,?_⟩
 exact codeAny_call_builtin_at (Code.quiet_builtin _ (by decide +kernel)) entry_typeCall (wpAny_check_type_call_sub hC (kK X hC (fun h' e hm=>hq h' e hm) hrest))
theorem mB {M:Model} {x:Addr} {o:Obj} {iS v:Value} {Q:Unit->Shared->Prop} (hC:h.get? 44=some (excClassObj nm q 44 N bs bmM true sn sub false col dd k0 k1 k2 k3 k5 "Exception.__new__")) (hx:h.get? x=some o) (hc:o.cls=.ref 44) (hq:Q () ⟨h,g,d,t,os⟩):
  wpAny M A (checkBuiltinCall "object.__setattr__" ⟨[.ref x,iS,v],[]⟩) Q E ⟨h,g,d,t,os⟩:=by
 have SF:=F.store_object
 have hcB:(Value.ref 44::bmM).contains (.type "object")=true:=by decide
 have ha:=SF.args (.ref x) iS v
 simp only [checkBuiltinCall,SF.kind,SF.split]
 refine wpAny_bind ?_
 unfold isInstance
 repeat (first | (with_reducible refine wpAny_loadPart_at hx ?_;rw [hc]) | (with_reducible refine wpAny_isSubtype_exc hC ?_;rw [hcB]) | wp_step)
 cases hsig:Manifest.signature? "object.__setattr__" <;> exact hq
theorem i9 {tk:Tok} {x:Addr} {name:Str} {v:Value} {mA:Str->Option Value} {Q:PySem.Fin->Shared->Prop} {ns:List Str} (X:(MineH.hd.heap_1 w.params).In h) (hname:findIn (MineH.hd.heap_1 w.params) (.ref 44) name=some none)
  (hC:h.get? 44=some (excClassObj nm q 44 N bs bmM true sn sub false col dd k0 k1 k2 k3 k5 "Exception.__new__")) (I:h.Inst x 44 mA)
  (hq:∀ h' tk',h'.Inst x 44 (fun y=>if y=name then some v else mA y)->
   (∀ b o,b≠x->(∀ o₀ dx,h.get? x=some o₀->o₀.dict=some dx->b≠dx)->h.get? b=some o->h'.get? b=some o)->
   (∀ o₀,h.get? x=some o₀->∃ o₁ dx,h'.get? x=some o₁/\o₁.cls=o₀.cls/\o₁.data=o₀.data/\o₁.dict=some dx/\(∀ d',o₀.dict=some d'->d'=dx)/\(o₀.dict=none->h.get? dx=none))->Q (.done (.ret .none)) ⟨h',g,d,tk',os⟩) (hw:Within mA ns) (hsz:ns.length<=1000):
  wpAny (model prog w) A (Builtin.«object.__setattr__» ⟨[.ref x,.str name tk,v],[]⟩) Q E ⟨h,g,d,t,os⟩:=by
 obtain ⟨o,hx,hc,hnc,hd⟩:=I
 have hpass:=F.store_Exception.passes (.ref x)
 unfold Builtin.«object.__setattr__»
 repeat (first | rw [refuse_eq] | (rw [refuseLoop_ref,refuseLoop_ref,hpass]) | (with_reducible refine wpAny_loadPart_at hx ?_;rw [hc]) | with_reducible refine wpAny_mroOf_exc hC ?_ | (with_reducible refine (looks_findIn X hname).here ?_) | wp_step)
 rcases hd with ⟨hdn,hmA⟩ | ⟨dx,hdx,hne,hns⟩
 · rw [hdn,if_neg (by simp [typeHasDict])]
   split
   · rename_i hcd
     contradiction
   split
   · rename_i c hcd
     exact absurd hcd (hnc c)
   · have hx₁:(h.push {cls:=.type "dict",data:=.dict #[]}).get? x=some o:=Heap.get?_push_of_some _ hx
     have hxs:x≠h.objs.size:=Nat.ne_of_lt (Heap.lt_size hx)
     refine wpAny_bind (wpAny_alloc' ?_)
     refine wpAny_bind (wpAny_update' hx₁ ?_)
     refine wpAny_pure ?_
     have hgd:((h.push {cls:=.type "dict",data:=.dict #[]}).update x fun o=>{cls:=o.cls,dict:=some h.objs.size,data:=o.data,slots:=o.slots}).get? h.objs.size
       = some {cls:=.type "dict",data:=.dict #[]}:=
      (Heap.get?_update_ne _ _ _ _ hxs.symm).trans (Heap.get?_push_at rfl rfl)
     have hnd:((h.push {cls:=.type "dict",data:=.dict #[]}).update x fun o=>{cls:=o.cls,dict:=some h.objs.size,data:=o.data,slots:=o.slots}).Ns h.objs.size (fun _=>none):=
      ⟨_,#[],_,hgd,rfl,fun e he=>absurd he (by simp),fun _=>rfl⟩
     show wpAny _ _ (storeInDict h.objs.size (.str name tk) name v) _ _ _
     unfold storeInDict newKeyGuard
     refine wpAny_bind (wpAny_pure (wpAny_bind (wpAny_nsSet1 (Heap.Ns1.of_empty hnd) fun h' hn' hs=>?_)))
     obtain ⟨oD,esD,epD,hoD,hdD,hcD⟩:=hn'.count (Within.cons name v Within.nil)
     refine wpAny_bind (wpAny_lookBehind hoD (by rw [hdD];exact pastItsLine_dict (Nat.le_trans hcD (by rw [List.length_cons,List.length_nil,sizeLine_eq];omega))) ?_)
     wp_walk
     have hx':h'.get? x=some {cls:=o.cls,dict:=some h.objs.size,data:=o.data,slots:=o.slots}:=?_
     refine hq h' _ ⟨{cls:=o.cls,dict:=some h.objs.size,data:=o.data,slots:=o.slots},hx',hc,hnc,.inr ⟨h.objs.size,rfl,hxs.symm,?_⟩⟩ (fun b ob hbx _ hb=>?_)
      (fun o₀ h₀=>by obtain rfl:o=o₀:=Option.some.inj (hx.symm.trans h₀);exact ⟨_,h.objs.size,hx',rfl,rfl,rfl,(fun d' e=>by rw [hdn] at e;contradiction),fun _=>aW h⟩)
     · obtain ⟨o',es,ep,e1,e2,e3,eu,e4⟩:=hn'
       exact ⟨o',es,ep,e1,e2,e3,eu,fun y=>by rw [e4 y];by_cases hy:y=name <;> simp [hy,hmA]⟩
     · exact (hs.2 b (Nat.ne_of_lt (Heap.lt_size hb))).trans ((Heap.get?_update_ne _ _ _ _ hbx).trans (Heap.get?_push_of_some _ hb))
     · refine (hs.2 x hxs).trans (Heap.get?_update_self _ hx₁ ?_)
       have hfr:=(Heap.get?_some_iff.mp hx).2
       obtain ⟨oc,od,odt,osl⟩:=o
       clear hx₁ hdn hnc hc hx;cases odt <;> first | rfl | exact hfr
 · rw [hdx]
   refine wpAny_pure ?_
   show wpAny _ _ (storeInDict dx (.str name tk) name v) _ _ _
   unfold storeInDict newKeyGuard
   refine wpAny_bind (wpAny_pure (wpAny_bind (wpAny_nsSet1 hns fun h' hn' hs=>?_)))
   obtain ⟨oD,esD,epD,hoD,hdD,hcD⟩:=hn'.count (Within.cons name v hw)
   refine wpAny_bind (wpAny_lookBehind hoD (by rw [hdD];exact pastItsLine_dict (Nat.le_trans hcD (by rw [List.length_cons,sizeLine_eq];omega))) ?_)
   wp_walk
   refine hq h' _ ⟨o,(hs.2 x hne.symm).trans hx,hc,hnc,.inr ⟨dx,hdx,hne,hn'⟩⟩ (fun b ob _ hbd hb=>?_)
    (fun o₀ h₀=>by obtain rfl:o=o₀:=Option.some.inj (hx.symm.trans h₀);exact ⟨o,dx,(hs.2 x hne.symm).trans hx,rfl,rfl,hdx,(fun d' e=>by rw [hdx] at e;cases e;rfl),fun e=>by rw [hdx] at e;contradiction⟩)
   exact (hs.2 b (hbd o dx hx hdx)).trans hb
theorem iT {x:Addr} {name:Str} {v:Value} {mA:Str->Option Value} {Q:Unit->Shared->Prop} {ns:List Str} (X:(MineH.hd.heap_1 w.params).In h) (hname:findIn (MineH.hd.heap_1 w.params) (.ref 44) name=some none) (I:h.Inst x 44 mA)
  (hq:∀ h' tk',h'.Inst x 44 (fun y=>if y=name then some v else mA y)->
   (∀ b o,b≠x->(∀ o₀ dx,h.get? x=some o₀->o₀.dict=some dx->b≠dx)->h.get? b=some o->h'.get? b=some o)->
   (∀ o₀,h.get? x=some o₀->∃ o₁ dx,h'.get? x=some o₁/\o₁.cls=o₀.cls/\o₁.data=o₀.data/\o₁.dict=some dx/\(∀ d',o₀.dict=some d'->d'=dx)/\(o₀.dict=none->h.get? dx=none))->Q () ⟨h',g,d,tk',os⟩) (hw:Within mA ns) (hsz:ns.length<=1000):
  wpAny (model prog w) A (setAttr (.ref x) name v) Q E ⟨h,g,d,t,os⟩:=by
 have hC:=eJ X
 obtain ⟨o,hx,hc,_⟩:=id I
 have f3:=F.store_object.slot.bind (.ref x)
 unfold setAttr callSpecial? specialOf
 repeat (any_goals (first | assumption | (with_reducible refine wpAny_loadPart_at hx ?_;rw [hc]) | (with_reducible refine (looks_findIn X (Bv w.params)).here ?_) | wp_step))
 refine codeAny_call_builtin F.store_object.slot.plain F.store_object.entry (mB hC hx hc (i9 X hname hC I (fun h' tk' I' k1 k2=>?_) hw hsz))
 repeat (any_goals (first | assumption | wp_step))
 exact hq h' _ I' k1 k2
end
end Mine
namespace Mine
open PySem PySem.W PyProof.Rows PySem.SeqAt Builtin Builtin.ObjectAttr
theorem pY:(findCls [] (.type "Exception") (.type "type") "__init__")=some (.val (.builtin "Exception.__init__")):=by kernel_rfl
section
variable {prog:Program} {w:World} {A:Around} {E:Value->Shared->Prop} {h:Heap} {g:Array GenState} {d:Drawn} {t:Nat} {os:OsState}
variable {nm q:Str} {N:Addr} {bs:List Value} {sn:List Str} {sub:List Value} {col:Option Bool} {dd:Option Addr} {k0 k1 k2 k3 k5:Option Value} {R:Result->Shared->Prop}
theorem jN {M:Model} {e:Addr} {oe:Obj} {rest:List Value} {Q:Unit->Shared->Prop}
  (hC:h.get? 44=some (excClassObj nm q 44 N bs bmM true sn sub false col dd k0 k1 k2 k3 k5 "Exception.__new__")) (he:h.get? e=some oe) (hcls:oe.cls=.ref 44) (hq:Q () ⟨h,g,d,t,os⟩):
  wpAny M A (checkBuiltinCall "Exception.__init__" ⟨.ref e::rest,[]⟩) Q E ⟨h,g,d,t,os⟩:=by
 have F:=F.excBase_Exception
 have hcB:(Value.ref 44::bmM).contains (.type "Exception")=true:=by decide
 have hshort:=F.noStar
 simp only [checkBuiltinCall,F.initKind,F.initSplit,F.initRow]
 repeat (first | (with_reducible refine wpAny_loadPart_at he ?_;rw [hcls]) | with_reducible refine wpAny_loadPart_at hC ?_ | (with_reducible refine wpAny_isSubtype_exc hC ?_;rw [hcB]) | wp_step)
 refine wpAny_onRaise ?_
 rw [show ∀ (a b:String) (n:Nat),Bind.check ⟨.positional,"*","Exception",.self,[⟨"args",.varPos,false⟩]⟩ a b n (List.map (fun x=>x.fst) ({pos:=Value.ref e::rest}:Args).kw)=pure () from
  fun a b n=>check_star_args _ _ _ _ _ _]
 exact wpAny_pure hq
theorem kO {e T0:Addr} {v:Value} {Q:Value->Shared->Prop}
  (X:(MineH.hd.heap_1 w.params).In h) (he:h.get? e=some {cls:=.ref 44,data:=.fields #[.ref T0,.none,.none,.none,.bool false,.none]})
  (hq:∀ h' T,(∀ b o,b≠e->h.get? b=some o->h'.get? b=some o)->h'.get? e=some {cls:=.ref 44,data:=.fields #[.ref T,.none,.none,.none,.bool false,.none]}->Q .none ⟨h',g,d,t,os⟩):
  wpAny (model prog w) A (call (.builtin "Exception.__init__") [.ref e,v]) Q E ⟨h,g,d,t,os⟩:=by
 have hC:=eJ X
 have F:=F.excBase_Exception
 refine wpAny_call (codeAny_call_builtin F.init.plain F.initEntry (jN hC he rfl ?_))
 wp_walk
 refine hq _ h.objs.size (fun b o hb hbo=>?_) ?_
 · exact (Heap.get?_update_ne _ _ _ _ hb).trans (Heap.get?_push_of_some _ hbo)
 · exact Heap.get?_update_self _ (Heap.get?_push_of_some _ he) rfl
noncomputable def B28:List Stmt:=[.Expr (.Call (.Attribute (.Name "Exception" ⟨5,8,5,17⟩) "__init__" ⟨5,8,5,26⟩) [.Name "self" ⟨5,27,5,31⟩,.Name "why" ⟨5,33,5,36⟩] [] ⟨5,8,5,37⟩) ⟨5,8,5,37⟩,
 .Assign [.Attribute (.Name "self" ⟨6,8,6,12⟩) "why" ⟨6,8,6,16⟩] (.Name "why" ⟨6,19,6,22⟩) ⟨6,8,6,22⟩,
 .Assign [.Attribute (.Name "self" ⟨7,8,7,12⟩) "at" ⟨7,8,7,15⟩] (.UnaryOp .USub (.Constant (.int 1) 0 ⟨7,19,7,20⟩) ⟨7,18,7,20⟩) ⟨7,8,7,20⟩]
theorem b28 (P:Params):ae P 28=B28:=by kernel_rfl
theorem mO (P:Params):(ac P 28).lookup (Str.ofString "self")=some .local/\(ac P 28).lookup (Str.ofString "why")=some .local/\(ac P 28).lookup (Str.ofString "Exception")=some .globalImplicit:=⟨by kernel_rfl,by kernel_rfl,by kernel_rfl⟩
theorem mP (P:Params):((ac P 28).all fun p=>match p.2 with | .cell=>false | _=>true)=true:=by kernel_rfl
theorem vn {base:Heap} (W:Wd w base) {e:Addr} {why:Str} {tk:Tok} {T0:Addr} {Q:Value->Shared->Prop} (k:∀ b o,base.get? b=some o->h.get? b=some o) (hroom:A.depth<recursionLimit) (hbe:base.get? e=none)
  (he:h.get? e=some {cls:=.ref 44,data:=.fields #[.ref T0,.none,.none,.none,.bool false,.none]})
  (hq:∀ h' tk' dx mE tw T,(∀ b o,b≠e->h.get? b=some o->h'.get? b=some o)->(∃ oe,h'.get? e=some oe/\oe.cls=.ref 44/\oe.data=.fields #[.ref T,.none,.none,.none,.bool false,.none]/\oe.dict=some dx)->h.get? dx=none->h'.Ns1 dx mE->mE "why"=some (.str why tw)->Q .none ⟨h',g,d,tk',os⟩):
  wpAny (model PR w) A (call (.ref 28) [.ref e,.str why tk]) Q E ⟨h,g,d,t,os⟩:=by
 obtain ⟨n1,n2,n3⟩:=mO w.params
 have hcells:=mP w.params
 have D:=d28 w
 have hnm:(aK w.params 28).scope.names=ac w.params 28:=rfl
 obtain ⟨o,hlook,hdat⟩:=D.look
 rw [b28] at D
 unfold B28 at D
 have X:(MineH.hd.heap_1 w.params).In h:=W.K.keeps k
 refine wpAny_call (codeAny_call_plain (fd:=aK w.params 28) (binds:=[("self",.ref e),("why",.str why tk)]) hroom (X _ _ hlook) hdat (W.nolimit.keeps k) ((codeRec_of W.K D.code).keeps k) D.body (D.bind [.ref e,.str why tk] rfl) (fun x hx hc=>?_) (fun x hx=>?_) (fun h₀ hns keep=>?_) D.co D.gen D.kind)
 · have:=List.all_eq_true.mp hcells x hx
   rw [hc] at this;cases this
 · rcases List.mem_cons.mp hx with rfl | hx
   · exact n1
   · rw [List.mem_singleton] at hx;subst hx;exact n2
 generalize henv:callEnv (aK w.params 28) h.objs.size 28=env
 generalize A.deeper env=A'
 have hk:env.scope.kind=.function:=by rw [<- henv];exact D.kind
 have hl:env.locals=h.objs.size:=by rw [<- henv];rfl
 have hg:env.globals=mainGlobals:=by rw [<- henv];exact D.glob
 have hb:env.builtins=builtinsNs:=by rw [<- henv];exact D.blt
 have hn:∀ x,env.kindOf x=(ac w.params 28).lookup x:=fun x=>by rw [<- henv];rfl
 have hint:interactive env=false:=by unfold interactive;rw [hk];rfl
 have dbg:∀ x:Str,x∈[Str.ofString "self",Str.ofString "why",Str.ofString "Exception"]->(x==("__debug__":Str))=false:=by decide
 let m:Str->Option Value:=fun x=>[(Str.ofString "self",Value.ref e),(Str.ofString "why",.str why tk)].reverse.lookup x
 have nself:∀ {s:Shared} {Q:Value->Shared->Prop} {EE:Value->Shared->Prop} {pos:Pos},s.heap.Ns h.objs.size m->Q (.ref e) s->wpAny (model PR w) A' (eval (.Name "self" pos) env) Q EE s:=fun {s Q EE pos} ns q=>
  wpAny_Name (wpAny_loadName_local hk ((hn _).trans n1) (by rw [hl];exact ns) (v:=.ref e) (by rfl) q) (dbg _ (by simp))
 have nwhy:∀ {s:Shared} {Q:Value->Shared->Prop} {EE:Value->Shared->Prop} {pos:Pos},s.heap.Ns h.objs.size m->Q (.str why tk) s->wpAny (model PR w) A' (eval (.Name "why" pos) env) Q EE s:=fun {s Q EE pos} ns q=>
  wpAny_Name (wpAny_loadName_local hk ((hn _).trans n2) (by rw [hl];exact ns) (v:=.str why tk) (by rfl) q) (dbg _ (by simp))
 have e0:=keep _ _ he
 have neL:e≠h.objs.size:=Nat.ne_of_lt (Heap.lt_size he)
 have hC:=eJ (X.keeps keep)
 refine wpAny_execs_cons (wpAny_Expr ?_ hint rfl)
 rw [arm_eval_Call]
 show wpAny _ _ (eval (.Name "Exception" _) env>>=_) _ _ _
 refine wpAny_bind ?_
 refine PySem.Calls.Name_function_global hk ((hn _).trans n3) ?_ (dbg _ (by simp))
 refine iz W (v:=.type "Exception") (by kernel_rfl) hg hb (fun b o e=>keep b o (k b o e)) ?_
 refine wpAny_bind (wpAny_standAt ?_)
 have hform:methodCallForm ([Expr.Name (Str.ofString "self") ⟨5,27,5,31⟩,Expr.Name (Str.ofString "why") ⟨5,33,5,36⟩].length+([]:List Keyword).length) (backTo ⟨5,8,5,37⟩ (starEach [Expr.Name "self" ⟨5,27,5,31⟩,Expr.Name "why" ⟨5,33,5,36⟩] env)) (backToKw ⟨5,8,5,37⟩ (keywordEach [] env))=true:=rfl
 have hpos:methodCallPos true (Expr.Name "Exception" ⟨5,8,5,17⟩) env ⟨5,8,5,26⟩ ⟨5,8,5,37⟩=pure ⟨5,8,5,37⟩:=rfl
 unfold methodCall
 rw [hform]
 refine wpAny_bind (wpAny_holding ?_)
 refine method_type (K:=[]) (h₀:=h) (L:=h.objs.size) (m:=m) ⟨hns,keep,Nat.le_refl _⟩ (fun _ _ z=>by cases z) (by rfl) (by decide +kernel) pY (by rfl) ?_
 refine wpAny_bind (wpAny_of_eq hpos ?_)
 refine callWith_of (P:=fun _=>True) rfl (fun h _=>⟨.machine,.inr (.inl rfl),.now⟩) (Calls.evalArgs_plain (Calls.spliced_cons ?_))
 refine nself hns ?_
 refine Calls.spliced_cons ?_
 refine nwhy hns ?_
 refine Calls.spliced_nil ⟨trivial,?_⟩
 refine kO (X.keeps keep) e0 fun h1 T k1 e1=>?_
 have kp1:∀ b o,b≠e->h.get? b=some o->h1.get? b=some o:=fun b o hb z=>k1 b o hb (keep b o z)
 have hns1:h1.Ns h.objs.size m:=hns.at fun o z=>k1 _ o neL.symm z
 refine wpAny_execs_cons (plainObj_wpAny_Assign_Attribute ?_ rfl)
 refine nwhy hns1 ?_
 refine nself hns1 ?_
 have XX:∀ {h':Heap},(∀ b o,b≠e->h.get? b=some o->h'.get? b=some o)->(MineH.hd.heap_1 w.params).In h':=fun {h'} kk a o z=>by
  have hb:=W.K a o z
  exact kk a o (fun q=>by clear kk hns1 kp1 e1 k1 neL e0 nwhy nself hns hq he;subst q;rw [hbe] at hb;cases hb) (k a o hb)
 refine iT (mA:=fun _=>none) (ns:=[]) (XX kp1) (vp w.params) ⟨_,e1,rfl,(fun c z=>by cases z),.inl ⟨rfl,fun _=>rfl⟩⟩ (fun h2 tk2 I2 k2 d2=>?_) Within.nil (by decide)
 obtain ⟨o1,dx,g1,g2,g3,g4,_,g5⟩:=d2 _ e1
 have g5':h1.get? dx=none:=g5 rfl
 have hdx:h.get? dx=none:=by
  cases z:h.get? dx with
  | none=>rfl
  | some od=>
   by_cases q:dx=e
   · clear g1 d2 k2 I2 XX hns1 kp1 k1 neL e0 nwhy nself hns hq he hbe;subst q;rw [e1] at g5';cases g5'
   · rw [kp1 dx od q z] at g5';cases g5'
 have kp2:∀ b o,b≠e->h.get? b=some o->h2.get? b=some o:=fun b o hb z=>k2 b o hb (fun o₀ d' q1 q2=>by rw [e1] at q1;clear hb;cases q1;cases q2) (kp1 b o hb z)
 have hns2:h2.Ns h.objs.size m:=hns1.at fun o z=>k2 _ o neL.symm (fun o₀ d' q1 q2=>by rw [e1] at q1;cases q1;cases q2) z
 refine wpAny_execs_cons (plainObj_wpAny_Assign_Attribute ?_ rfl)
 refine wpAny_UnaryOp (wpAny_Constant_int (neg_int ?_))
 refine nself hns2 ?_
 refine iT (ns:=["why"]) (XX kp2) (Bw w.params) I2 (fun h3 tk3 I3 k3 d3=>?_) (fun y hy=>by
  by_cases q:y="why"
  · clear hy;subst q;exact .head _
  · simp [q] at hy) (by decide)
 obtain ⟨o3,dx3,l1,l2,l3,l4,l5,_⟩:=d3 _ g1
 obtain rfl:=l5 dx g4
 refine wpAny_execs_nil ?_
 obtain ⟨o4,w1,w2,w3,w4⟩:=I3
 clear w3 w2;obtain rfl:o3=o4:=by rw [l1] at w1;exact Option.some.inj w1
 rcases w4 with ⟨q1,_⟩ | ⟨d',q1,q2,hn3⟩
 · rw [l4] at q1;cases q1
 rw [l4] at q1;cases q1
 refine hq h3 _ dx _ tk T (fun b o hb z=>k3 b o hb (fun o₀ d' q1 q2=>?_) (kp2 b o hb z)) ⟨o3,l1,l2.trans g2,l3.trans g3,l4⟩ hdx hn3 (by rfl)
 rw [g1] at q1;clear hb;cases q1;rw [g4] at q2;cases q2
 intro q;clear hn3 q2 l5 l4 g5' g5 g4;subst q;rw [hdx] at z;cases z
end
end Mine
namespace Mine
open PySem PySem.W PyProof.Rows PySem.SeqAt Builtin Builtin.ObjectAttr
theorem El (P:Params):findIn (MineH.hd.heap_1 P) (.ref 44) "__getattribute__"=some (some (.builtin "BaseException.__getattribute__")):=by kernel_rfl
theorem vq (P:Params):findIn (MineH.hd.heap_1 P) (.ref 44) "__getattr__"=some none:=by kernel_rfl
theorem lx:Slot "ValueError" "__getattribute__" "BaseException.__getattribute__":=F.excAttr_ValueError.ga
section
variable {prog:Program} {w:World} {A:Around} {E:Value->Shared->Prop} {h:Heap} {g:Array GenState} {d:Drawn} {t:Nat} {os:OsState}
variable {nm q:Str} {N:Addr} {bs:List Value} {sn:List Str} {sub:List Value} {col:Option Bool} {dd:Option Addr} {k0 k1 k2 k3 k5:Option Value} {R:Result->Shared->Prop}
theorem mC {M:Model} {a:Addr} {o:Obj} {iS:Value} {Q:Unit->Shared->Prop} (hC:h.get? 44=some (excClassObj nm q 44 N bs bmM true sn sub false col dd k0 k1 k2 k3 k5 "Exception.__new__"))
  (hx:h.get? a=some o) (hc:o.cls=.ref 44) (hq:Q () ⟨h,g,d,t,os⟩):wpAny M A (checkBuiltinCall "BaseException.__getattribute__" ⟨[.ref a,iS],[]⟩) Q E ⟨h,g,d,t,os⟩:=by
 have hk:builtinKind "BaseException.__getattribute__"=some .slot:=by decide +kernel
 have hsplit:splitId "BaseException.__getattribute__"=some ("BaseException","__getattribute__"):=by decide +kernel
 have hcB:(Value.ref 44::bmM).contains (.type "BaseException")=true:=by decide
 have ha:=F.args_bexc_ga (.ref a) iS
 simp only [checkBuiltinCall,hk,hsplit]
 refine wpAny_bind ?_
 unfold isInstance
 repeat (first | (with_reducible refine wpAny_loadPart_at hx ?_;rw [hc]) | (with_reducible refine wpAny_isSubtype_exc hC ?_;rw [hcB]) | wp_step)
 exact hq
theorem kM {tk:Tok} {x:Addr} {name:Str} {v:Value} {mA:Str->Option Value} {Q:PySem.Fin->Shared->Prop} (X:(MineH.hd.heap_1 w.params).In h) (hname:findIn (MineH.hd.heap_1 w.params) (.ref 44) name=some none)
  (hC:h.get? 44=some (excClassObj nm q 44 N bs bmM true sn sub false col dd k0 k1 k2 k3 k5 "Exception.__new__")) (I:h.Inst x 44 mA) (hv:mA name=some v)
  (hq:Q (.done (.ret v)) ⟨h,g,d,t,os⟩):wpAny (model prog w) A (Builtin.«object.__getattribute__» ⟨[.ref x,.str name tk],[]⟩) Q E ⟨h,g,d,t,os⟩:=by
 obtain ⟨o,hx,hc,hnc,hd⟩:=I
 rcases hd with ⟨_,hmA⟩ | ⟨dx,hdx,hne,hns⟩
 · rw [hmA name] at hv;contradiction
 unfold Builtin.«object.__getattribute__»
 repeat (first | (with_reducible refine wpAny_loadPart_at hx ?_;rw [hc]) | (with_reducible refine (looks_findIn X hname).here ?_) | wp_step)
 split
 · rename_i c hcd
   exact absurd hcd (hnc c)
 unfold instanceDict
 repeat (first | (with_reducible refine wpAny_loadPart_at hx ?_;rw [hc]) | with_reducible refine wpAny_loadPart_at hC ?_ | wp_step)
 rw [hdx]
 repeat (first | (with_reducible refine wpAny_nsGet hns.ns ?_;rw [hv]) | wp_step)
 exact hq
theorem nQ {x:Addr} {name:Str} {v:Value} {mA:Str->Option Value} {expr:Bool} {Q:Value->Shared->Prop} (X:(MineH.hd.heap_1 w.params).In h) (hname:findIn (MineH.hd.heap_1 w.params) (.ref 44) name=some none)
  (I:h.Inst x 44 mA) (hv:mA name=some v) (hh:handedOut v=pure v) (hq:Q v ⟨h,g,d,t+1,os⟩):
  wpAny (model prog w) A (getAttr (.ref x) name expr) Q E ⟨h,g,d,t,os⟩:=by
 have hC:=eJ X
 obtain ⟨o,hx,hc,_⟩:=id I
 have f3:=lx.bind (.ref x)
 have hx0:(expr&&onTheHeap (Value.builtin "BaseException.__getattribute__"))=false:=by cases expr <;> rfl
 have hx2:(Value.builtin "BaseException.__getattribute__"==Value.builtin "object.__getattribute__")=false:=by decide +kernel
 have hx1:(onTheHeap (Value.ref 44)&&Value.builtin "BaseException.__getattribute__"==Value.builtin "object.__getattribute__")=false:=by rw [hx2];rfl
 unfold getAttr getAttrBy
 repeat (any_goals (first | assumption | (with_reducible refine wpAny_loadPart_at hx ?_;rw [hc]) | (with_reducible refine (looks_findIn X (El w.params)).here ?_) | (with_reducible refine (looks_findIn X (vq w.params)).here ?_) | wp_step))
 refine codeAny_call_builtin lx.plain F.entry_bexc_ga (mC hC hx hc (kM X hname hC I hv ?_))
 show wpAny _ _ (handedOut v) _ _ _
 rw [hh]
 exact wpAny_pure hq
end
end Mine
set_option genSizeOf false
set_option genInjectivity false
namespace Mine
open PySem PySem.W PyProof.Rows PySem.SeqAt
noncomputable def cK:Loc->Str->V->Loc
 | [],x,v=>[(x,v)]
 | (y,u)::r,x,v=>match decide (x=y) with
  | true=>(x,v)::r
  | false=>(y,u)::cK r x v
noncomputable def bz:List (Str×D)->Str->D->List (Str×D)
 | [],x,v=>[(x,v)]
 | (y,u)::r,x,v=>match decide (x=y) with
  | true=>(y,v)::r
  | false=>(y,u)::bz r x v
noncomputable def jO (l:List (Str×D)):List (Str×D)->List (Str×D)
 | []=>l
 | (k,v)::r=>jO (bz l k v) r
noncomputable abbrev QV:=V->List aa->Prop
noncomputable abbrev QE:=Str->List aa->Prop
noncomputable def cZ:List D->Option (List Int)
 | []=>some []
 | d::r=>(iiD d).bind fun i=>(cZ r).bind fun l=>some (i::l)
noncomputable def jv:List Int->Int
 | []=>0
 | i::r=>i+jv r
noncomputable def Gb:D->Option Nat
 | .li l=>some l.length
 | .tu l=>some l.length
 | .ba b=>some b.size
 | _=>none
noncomputable def vD (Z:List aa) (v:V):Option Nat:=(mX Z v).bind Gb
noncomputable def ko (i:Int):Bool:=leB 0 i&&ltB i 256
noncomputable def kz (id:String) (Z:List aa) (vs:List V) (Q:V->Prop):Prop:=match eG vs with
 | some v=>cnd (decide (id="len")) (match vD Z v with
   | some n=>grd (Nat.ble n 16777216) (Q (.d (.ii n)))
   | none=>False)
  (grd (decide (id="sum")) (match (cm Z v).bind cZ with
   | some ns=>Q (.d (.ii (jv ns)))
   | none=>False))
 | none=>False
noncomputable def wU (T:String) (Z:List aa) (vs:List V) (Q:V->Prop):Prop:=match eG vs with
 | some v=>cnd (decide (T="range")) (match iiV v with
   | some n=>grd (leB n 1048576) (Q (.rng 0 n))
   | none=>False)
  (cnd (decide (T="tuple")) (match cm Z v with
   | some l=>grd (Nat.ble l.length 1048576) (Q (.d (.tu l)))
   | none=>False)
  (grd (decide (T="bytes")) (match (cm Z v).bind cZ with
   | some ns=>grd (ns.all ko&&Nat.ble ns.length 1048576) (Q (.d (.bs (byteArr ns))))
   | none=>False)))
 | none=>False
structure Tab where
 sp:Addr->Option au
 fz:Nat->List Str
 fg:Nat->List Str
instance neT:Nonempty Tab:=⟨⟨fun _=>none,fun _=>[],fun _=>[]⟩⟩
noncomputable def BK (x:Str):List Str->Bool
 | []=>false
 | y::r=>match decide (x=y) with
  | true=>true
  | false=>BK x r
noncomputable def nZ (xs:List Str):Loc->Loc
 | []=>[]
 | (x,v)::r=>match BK x xs with
  | true=>nZ xs r
  | false=>(x,v)::nZ xs r
noncomputable def ocD:OC->D
 | .li l=>.li l
 | .di l=>.di l
noncomputable def oH:aa->Option D
 | .oc c=>some (ocD c)
 | .inst C l own=>some (.ob C (l++own.map fun p=>(p.1,ocD p.2)))
 | .dead=>none
noncomputable def eQ:Loc->Nat->D->Loc
 | [],_,_=>[]
 | (x,.ref j)::r,k,d=>match Nat.beq j k with
  | true=>(x,.d d)::eQ r k d
  | false=>(x,.ref j)::eQ r k d
 | p::r,k,d=>p::eQ r k d
noncomputable def nY:List Str->Loc->List aa->(Loc->List aa->Prop)->Prop
 | [],U,Z,K=>K U Z
 | x::r,U,Z,K=>match U.lookup x with
  | some (.ref k)=>match Z[k]? with
   | some c=>match oH c with
    | some d=>nY r (eQ U k d) (Z.set k .dead) K
    | none=>False
   | none=>False
  | _=>nY r U Z K
noncomputable def glV:V->Option Value
 | .d d=>match d with
  | .gl c=>some c
  | _=>none
 | _=>none
theorem vS {v:V} {x:Value} (h:glV v=some x):v=.d (.gl x):=by
 cases v with
 | d d=>cases d with
  | gl y=>exact congrArg (fun x=>V.d (.gl x)) (Option.some.inj h)
  | _=>exact af h
 | _=>exact af h
noncomputable def lX (S:Tab) (Z:List aa) (f:V) (vs:List V) (Q:QV) (E:QE):Prop:=match glV f with
 | some c=>match c with
  | .ref a=>match S.sp a with
   | some sp=>qn sp vs Z Q E
   | none=>False
  | .builtin id=>kz id Z vs fun v=>Q v Z
  | .type T=>wU T Z vs fun v=>Q v Z
  | _=>False
 | none=>False
noncomputable def vN:aa->Option (Addr×List (Str×D)×List (Str×OC))
 | .inst C l own=>some (C,l,own)
 | _=>none
noncomputable def iy (Z:List aa) (k:Nat):Option (Addr×List (Str×D)×List (Str×OC)):=match Z[k]? with
 | some c=>vN c
 | none=>none
theorem lN {Z:List aa} {k:Nat} {i:Addr×List (Str×D)×List (Str×OC)} (h:iy Z k=some i):Z[k]?=some (.inst i.1 i.2.1 i.2.2):=by
 unfold iy at h
 cases e:Z[k]? with
 | none=>rw [e] at h;exact af h
 | some c=>
  rw [e] at h
  cases c with
  | inst C l own=>rw [<- Option.some.inj h]
  | _=>exact af h
noncomputable def ui:V->Option Nat
 | .ref k=>some k
 | _=>none
theorem mf {v:V} {k:Nat} (h:ui v=some k):v=.ref k:=by
 cases v with
 | ref j=>exact congrArg V.ref (Option.some.inj h)
 | _=>exact af h
noncomputable def liR (Z:List aa) (o:V):Option (Nat×List D):=(ui o).bind fun k=>(ir Z k).bind fun l=>some (k,l)
noncomputable def diR (Z:List aa) (o:V):Option (Nat×List (Str×D)):=(ui o).bind fun k=>(sE Z k).bind fun l=>some (k,l)
theorem vy {Z:List aa} {o:V} {p:Nat×List D} (h:liR Z o=some p):o=.ref p.1/\Z[p.1]?=some (.oc (.li p.2)):=by
 obtain ⟨k,e1,h⟩:=aD h
 obtain ⟨l,e2,h⟩:=aD h
 obtain rfl:=Option.some.inj h
 exact ⟨mf e1,mF e2⟩
theorem wg {Z:List aa} {o:V} {p:Nat×List (Str×D)} (h:diR Z o=some p):o=.ref p.1/\Z[p.1]?=some (.oc (.di p.2)):=by
 obtain ⟨k,e1,h⟩:=aD h
 obtain ⟨l,e2,h⟩:=aD h
 obtain rfl:=Option.some.inj h
 exact ⟨mf e1,mT e2⟩
noncomputable def lI (name:Str) (Z:List aa) (o:V):Bool:=cond (decide (name="append")) (liR Z o).isSome (cond (decide (name="get")) (fV Z o).isSome (cond (decide (name="update")) (diR Z o).isSome false))
noncomputable def zo (k:Nat):V->Bool
 | .ref j=>!Nat.beq j k
 | _=>true
noncomputable def lk (name:Str) (Z:List aa) (o v:V) (Q:QV):Prop:=cnd (decide (name="append")) (match liR Z o with
  | some p=>match dV v with
   | some x=>grd (Nat.ble p.2.length 1048576) (Q (.d .nn) (Z.set p.1 (.oc (.li (p.2++[x])))))
   | none=>False
  | none=>False)
 (cnd (decide (name="get")) (match fV Z o with
  | some l=>match ssV v with
   | some k=>Q (.d ((l.lookup k).getD .nn)) Z
   | none=>False
  | none=>False)
 (grd (decide (name="update")) (match diR Z o with
  | some p=>match fV Z v with
   | some m=>grd (zo p.1 v&&Nat.ble (p.2.length+m.length) 1048576) (Q (.d .nn) (Z.set p.1 (.oc (.di (jO p.2 m)))))
   | none=>False
  | none=>False)))
noncomputable def dE:List Str:=["data","link","kind","l4","off","place","meta",
 "packet","now","hook","talk","state","is_reply","talks","sets","objects",
 "fields","readers","doers","ops","tools","order","log","replies","steps","homes"]
noncomputable def iJ (C:Addr) (f:Str):Bool:=(Nat.beq C 231||Nat.beq C 274)&&dE.any fun g=>decide (g=f)
noncomputable def vg:D->Bool
 | .gl _=>false
 | _=>true
noncomputable def rB (Z:List aa) (o:V) (f:Str) (Q:V->Prop):Prop:=match o with
 | .d (.ob C l)=>match l.lookup f with
  | some x=>grd (iJ C f&&vg x) (Q (.d x))
  | none=>False
 | .ref k=>match Z[k]? with
  | some (.inst C l _)=>match l.lookup f with
   | some x=>grd (iJ C f&&vg x) (Q (.d x))
   | none=>False
  | _=>False
 | _=>False
noncomputable def ft (U:Loc) (Z:List aa) (x f:Str):Option (Nat×OC):=match U.lookup x with
 | some (.ref k)=>match Z[k]? with
  | some (.inst C _ own)=>match iJ C f with
   | true=>match own.lookup f with
    | some c=>some (k,c)
    | none=>none
   | false=>none
  | _=>none
 | _=>none
noncomputable def du:List (Str×OC)->Str->OC->List (Str×OC)
 | [],_,_=>[]
 | (y,u)::r,x,v=>match decide (x=y) with
  | true=>(y,v)::r
  | false=>(y,u)::du r x v
noncomputable def dN (lo:Option Int) (n:Nat):Nat:=match lo with
 | some i=>min i.toNat n
 | none=>0
noncomputable def fE (hi:Option Int) (n:Nat):Nat:=match hi with
 | some i=>min i.toNat n
 | none=>n
noncomputable def eF (p:Option Int):Bool:=match p with
 | some i=>leB 0 i&&leB i 1048576
 | none=>true
noncomputable def CG (Z:List aa) (o:V) (lo hi:Option Int) (Q:V->Prop):Prop:=grd (eF lo&&eF hi) <| match o with
 | .d (.li l)=>grd (Nat.ble l.length 1048576) (Q (.d (.li ((l.drop (dN lo l.length)).take (fE hi l.length - dN lo l.length)))))
 | .d (.ba b)=>grd (Nat.ble b.size 1048576) (Q (.d (.ba (b.extract (dN lo b.size) (fE hi b.size)))))
 | .d (.ss s)=>grd (Nat.ble (Builtin.Str.strSliceIndices lo hi 1 s.length).length 1048576&&!Nat.beq (Builtin.Str.strSliceIndices lo hi 1 s.length).length s.length) (Q (.d (.ss ⟨((Builtin.Str.strSliceIndices lo hi 1 s.length).filterMap (s.cps[·]?)).toArray⟩)))
 | _=>False
noncomputable def Ei:D->Option (Option Int)
 | .nn=>some none
 | .ii i=>some (some i)
 | _=>none
noncomputable def jE:V->Option (Option Int)
 | .d d=>Ei d
 | _=>none
noncomputable def iQ (a b:Int):Bool:=leB (-1048576) a&&leB a 1048576&&leB (-1048576) b&&leB b 1048576
noncomputable def BI:D->Option (List V)
 | .tu l=>some (l.map .d)
 | .li l=>some (l.map .d)
 | .di l=>some (l.map fun p=>.d (.ss p.1))
 | .ba b=>some (b.toList.map fun u=>.d (.ii u.toNat))
 | _=>none
noncomputable def bS:V->Option (List V)
 | .d d=>BI d
 | .tu l=>some l
 | .rng a b=>cond (iQ a b) (some ((List.range (b - a).toNat).map fun (i:Nat)=>.d (.ii (a+(i:Int))))) none
 | _=>none
noncomputable abbrev QF:=Fl->Loc->List aa->Prop
noncomputable def bq (step:V->Loc->List aa->QF->Prop):List V->Loc->List aa->QF->Prop
 | [],U,Z,K=>K .nx U Z
 | v::r,U,Z,K=>step v U Z fun fl U' Z'=>match fl with
  | .nx=>bq step r U' Z' K
  | .ct=>bq step r U' Z' K
  | .br=>K .nx U' Z'
  | .rt v=>K (.rt v) U' Z'
noncomputable def vf (Z:List aa) (k:Nat):Option OC:=match Z[k]? with
 | some c=>match c with
  | .oc d=>some d
  | _=>none
 | none=>none
theorem xO {Z:List aa} {k:Nat} {d:OC} (h:vf Z k=some d):Z[k]?=some (.oc d):=by
 unfold vf at h
 cases e:Z[k]? with
 | none=>rw [e] at h;exact af h
 | some c=>
  rw [e] at h
  cases c with
  | oc x=>exact congrArg (fun x=>some (aa.oc x)) (Option.some.inj h)
  | _=>exact af h
theorem xN {Z:List aa} {k:Nat} {d:OC} (h:Z[k]?=some (.oc d)):vf Z k=some d:=by unfold vf;rw [h]
noncomputable def nX (v:V) (U:Loc) (Z:List aa) (K:V->Loc->List aa->Prop):Prop:=match ui v with
 | some k=>match vf Z k with
  | some c=>K (.d (ocD c)) (eQ U k (ocD c)) (Z.set k .dead)
  | none=>False
 | none=>K v U Z
noncomputable abbrev aC:=List (Str×NameKind)
structure Ev where
 ev:aC->Expr->Loc->List aa->QV->QE->Prop
 te:aC->Expr->Loc->List aa->(Bool->List aa->Prop)->QE->Prop
 ex:aC->Stmt->Loc->List aa->QF->QE->Prop
instance neE:Nonempty Ev:=⟨⟨fun _ _ _ _ _ _=>True,fun _ _ _ _ _ _=>True,fun _ _ _ _ _ _=>True⟩⟩
noncomputable def dR (es:List Expr):Bool:=es.all fun e=>!cu e
noncomputable def hB (ev:Expr->Loc->List aa->QV->QE->Prop):List Expr->Loc->List aa->(List V->List aa->Prop)->QE->Prop
 | [],_,Z,Q,_=>Q [] Z
 | e::r,U,Z,Q,E=>grd (!cu e) (ev e U Z (fun v Z1=>hB ev r U Z1 (fun vs Z2=>Q (v::vs) Z2) E) E)
noncomputable def ng (te:Expr->Loc->List aa->(Bool->List aa->Prop)->QE->Prop):List Expr->Loc->List aa->(Bool->List aa->Prop)->QE->Prop
 | [],_,Z,Q,_=>Q true Z
 | e::r,U,Z,Q,E=>te e U Z (fun b Z1=>cnd b (ng te r U Z1 Q E) (Q false Z1)) E
noncomputable def orF (te:Expr->Loc->List aa->(Bool->List aa->Prop)->QE->Prop):List Expr->Loc->List aa->(Bool->List aa->Prop)->QE->Prop
 | [],_,Z,Q,_=>Q false Z
 | e::r,U,Z,Q,E=>te e U Z (fun b Z1=>cnd b (Q true Z1) (orF te r U Z1 Q E)) E
noncomputable def bm (ex:Stmt->Loc->List aa->QF->QE->Prop):List Stmt->Loc->List aa->QF->QE->Prop
 | [],U,Z,K,_=>K .nx U Z
 | s::r,U,Z,K,E=>ex s U Z (fun fl U' Z'=>match fl with
  | .nx=>bm ex r U' Z' K E
  | .ct=>K .ct U' Z'
  | .br=>K .br U' Z'
  | .rt v=>K (.rt v) U' Z') E
noncomputable def bi (x:Str):Bool:=!(x==("__debug__":Str))
noncomputable def aN (N:aC) (x:Str):Bool:=match N.lookup x with
 | some .local=>true
 | some .cell=>true
 | _=>false
noncomputable def jT:List (Option Expr)->Option (List Str)
 | []=>some []
 | o::r=>o.bind fun e=>(xw e).bind fun s=>(jT r).bind fun l=>some (s.1::l)
noncomputable def eH:List Str->Bool
 | []=>true
 | x::r=>!r.contains x&&eH r
noncomputable def jd (te:Expr->Loc->List aa->(Bool->List aa->Prop)->QE->Prop) (ev:Expr->Loc->List aa->QV->QE->Prop) (ifs:List Expr) (elt:Expr) (Uc:Loc) (x:Str):List V->List D->(List D->Prop)->Prop
 | [],acc,K=>K acc
 | v::r,acc,K=>ng te ifs (cK Uc x v) [] (fun b Z1=>match Z1 with
  | []=>cnd b (ev elt (cK Uc x v) [] (fun y Z2=>match Z2,y with
   | [],.d d=>jd te ev ifs elt Uc x r (acc++[d]) K
   | _,_=>False) fun _ _=>False) (jd te ev ifs elt Uc x r acc K)
  | _=>False) fun _ _=>False
noncomputable def em (N names:aC):aC:=names.map fun p=>match p.2,N.lookup p.1 with
 | .free,some .cell=>(p.1,.cell)
 | _,_=>p
noncomputable def iG (U:Loc):aC->Loc
 | []=>[]
 | (x,.free)::r=>match U.lookup x with
  | some (.d d)=>(x,.d d)::iG U r
  | _=>iG U r
 | _::r=>iG U r
noncomputable def xS (names:aC):Bool:=names.all fun p=>match p.2 with
 | .cell=>false
 | _=>true
noncomputable def yk (N names:aC):Bool:=names.all fun p=>match p.2,N.lookup p.1 with
 | .free,some .cell=>true
 | .free,_=>false
 | _,_=>true
noncomputable def vi (names:aC):Bool:=names.all fun p=>match p.2,names.lookup p.1 with
 | .local,some .local=>true
 | .local,_=>false
 | _,_=>true
noncomputable def o6 (te:Loc->List aa->(Bool->List aa->Prop)->Prop) (body:Loc->List aa->QF->Prop):Nat->Loc->List aa->QF->Prop
 | 0,_,_,_=>False
 | m+1,U,Z,K=>te U Z fun b Z1=>cnd b (body U Z1 fun fl U' Z'=>match fl with
  | .nx=>o6 te body m U' Z' K
  | .ct=>o6 te body m U' Z' K
  | .br=>K .nx U' Z'
  | .rt v=>K (.rt v) U' Z') (K .nx U Z1)
noncomputable def wS (N:aC) (t:Expr) (v:V) (U:Loc):Option Loc:=(cG t).bind fun n=>cond (aN N n.1) (some (cK U n.1 v)) none
noncomputable def dW (N:aC):List Expr->List V->Loc->Option Loc
 | [],vs,U=>cond vs.isEmpty (some U) none
 | t::r,vs,U=>match vs with
  | v::vs=>(wS N t v U).bind fun U'=>dW N r vs U'
  | []=>none
noncomputable def tuD:D->Option (List D)
 | .tu l=>some l
 | _=>none
theorem ig {d:D} {l:List D} (h:tuD d=some l):d=.tu l:=by
 cases d with
 | tu m=>exact congrArg D.tu (Option.some.inj h)
 | _=>exact af h
noncomputable def eE:V->Option (List V)
 | .d d=>(tuD d).map fun l=>l.map .d
 | .tu l=>some l
 | _=>none
noncomputable def DS:Ve->Option (List Expr×Nat×Pos)
 | .tup ts k p=>some (ts,k,p)
 | _=>none
theorem xo {v:Ve} {q:List Expr×Nat×Pos} (h:DS v=some q):un v=some (.Tuple q.1 q.2.1 q.2.2):=by
 cases v <;> first | exact af h | exact Option.some.inj h▸rfl
noncomputable def As (e:Expr):Option (List Expr×Nat×Pos):=DS (vw e)
theorem xp {e:Expr} {q:List Expr×Nat×Pos} (h:As e=some q):e=.Tuple q.1 q.2.1 q.2.2:=fb rfl (xo h)
noncomputable def i0 (N:aC) (t:Expr) (v:V) (U:Loc):Option Loc:=match As t with
 | some q=>(eE v).bind fun vs=>dW N q.1 vs U
 | none=>wS N t v U
noncomputable def dNN:V->Bool
 | .d .nn=>true
 | _=>false
noncomputable def cR (k:Str->Option NameKind) (ts:List Expr):List Str:=ts.filterMap fun
 | .Name id pos=>if k id==some .local&&pos.line==(ts.head?.map (·.pos.line)).getD 0 then some id else none
 | _=>none
noncomputable def tJ (N:aC) (ts vs:List Expr):Option (Option (List Str)):=
 cond (!(ts.length==2||ts.length==3)||vs.length != ts.length) (some none) <| cond (vs.any cu) (some none) <|
 cond ((cR (fun x=>N.lookup x) ts).length != ts.length||(cR (fun x=>N.lookup x) ts).eraseDups.length != (cR (fun x=>N.lookup x) ts).length) (some none) <|
 cond (vs.all (foldedForSure 8)) (some none) <| cond (vs.all (constantsAlone 8)) none (some (some (cR (fun x=>N.lookup x) ts)))
noncomputable def lu (N:aC) (ts:List Expr) (v:Expr):Option (Option (List Str)):=match As v with
 | some q=>tJ N ts q.1
 | none=>some none
noncomputable def t9:Ve->Option (Option Expr×Option Expr×Pos)
 | .slice a b c p=>match c with
  | none=>some (a,b,p)
  | some _=>none
 | _=>none
theorem rW {v:Ve} {q:Option Expr×Option Expr×Pos} (h:t9 v=some q):un v=some (.Slice q.1 q.2.1 none q.2.2):=by
 cases v <;> first | exact af h | skip
 rename_i c p
 cases c with
 | none=>exact Option.some.inj h▸rfl
 | some _=>exact af h
noncomputable def ua (e:Expr):Option (Option Expr×Option Expr×Pos):=t9 (vw e)
theorem rX {e:Expr} {q:Option Expr×Option Expr×Pos} (h:ua e=some q):e=.Slice q.1 q.2.1 none q.2.2:=fb rfl (rW h)
noncomputable def uc (Q:QV) (o a b:V) (Z:List aa):Prop:=match jE a with
 | some l=>match jE b with
  | some h=>CG Z o l h fun r=>Q r Z
  | none=>False
 | none=>False
noncomputable def vd (ev:Expr->List aa->QV->QE->Prop) (o:Option Expr) (Z:List aa) (Q:QV) (E:QE):Prop:=match o with
 | some e=>ev e Z Q E
 | none=>Q (.d .nn) Z
structure Gen where
 x:Str
 px:Pos
 iter:Expr
 ifs:List Expr
noncomputable def EZ (gens:List Comprehension):Option Gen:=(eG gens).bind fun g=>(cG g.target).bind fun n=>cond (decide (g.is_async=0)) (some ⟨n.1,n.2,g.iter,g.ifs⟩) none
theorem rg {gens:List Comprehension} {g:Gen} (h:EZ gens=some g):gens=[⟨.Name g.x g.px,g.iter,g.ifs,0⟩]:=by
 obtain ⟨c,e1,h⟩:=aD h
 obtain ⟨n,e2,h⟩:=aD h
 obtain ⟨e3,rfl⟩:=cA h
 obtain ⟨t,i,f,z⟩:=c
 obtain rfl:=of_decide_eq_true e3
 clear h e3;obtain rfl:=bJ e2
 exact cq e1
noncomputable def x4 (N:aC) (x:Str):Bool:=match N.lookup x with
 | some .local=>true
 | _=>false
noncomputable def yj (N:aC) (x:Str):Bool:=match N.lookup x with
 | some .globalImplicit=>true
 | _=>false
noncomputable def Hz:ScopeKind->Bool
 | .function=>true
 | _=>false
noncomputable def AO (N:aC) (sc:Scope) (x:Str):Bool:=xS sc.names&&(vi sc.names&&(yk N sc.names&&(eH (sc.names.map (·.1))&&(Hz sc.kind&&x4 sc.names x))))
section
variable (S:Tab) (I:Ev) (N:aC)
noncomputable def ql (l:Expr) (op:CmpOp) (r:Expr) (U:Loc) (Z:List aa) (Q:Bool->List aa->Prop) (E:QE):Prop:=
 grd (!fw r) (I.ev N l U Z (fun a Z1=>I.ev N r U Z1 (fun b Z2=>ky op Z2 a b fun c=>Q c Z2) E) E)
noncomputable def lF (U:Loc) (Z:List aa) (x f:Str):Option (Nat×List D):=match ft U Z x f with
 | some p=>(liO p.2).map fun l=>(p.1,l)
 | none=>none
noncomputable def qU (U:Loc) (Z:List aa) (x f:Str):Option (Nat×List (Str×D)):=match ft U Z x f with
 | some p=>(diO p.2).map fun l=>(p.1,l)
 | none=>none
theorem vz {c:OC} {l:List D} (h:liO c=some l):c=.li l:=by
 cases c with
 | li m=>exact congrArg OC.li (Option.some.inj h)
 | _=>exact af h
theorem Cn {c:OC} {l:List (Str×D)} (h:diO c=some l):c=.di l:=by
 cases c with
 | di m=>exact congrArg OC.di (Option.some.inj h)
 | _=>exact af h
theorem nK {U:Loc} {Z:List aa} {x f:Str} {p:Nat×List D} (h:lF U Z x f=some p):ft U Z x f=some (p.1,.li p.2):=by
 unfold lF at h
 cases e:ft U Z x f with
 | none=>rw [e] at h;exact af h
 | some q=>
  rw [e] at h
  obtain ⟨l,e1,rfl⟩:=jI h
  rw [<- vz e1]
theorem u8 {U:Loc} {Z:List aa} {x f:Str} {p:Nat×List (Str×D)} (h:qU U Z x f=some p):ft U Z x f=some (p.1,.di p.2):=by
 unfold qU at h
 cases e:ft U Z x f with
 | none=>rw [e] at h;exact af h
 | some q=>
  rw [e] at h
  obtain ⟨l,e1,rfl⟩:=jI h
  rw [<- Cn e1]
noncomputable def eqB:CmpOp->Option Bool
 | .Eq=>some true
 | .NotEq=>some false
 | _=>none
noncomputable def Cv (l r:Expr):Option ((Str×Pos)×(Str×Pos)×Str×Pos):=(i5 l).bind fun a=>(cG a.1).bind fun x=>(cG r).bind fun y=>some (x,y,a.2)
theorem yO {l r:Expr} {t:(Str×Pos)×(Str×Pos)×Str×Pos} (h:Cv l r=some t):l=.Attribute (.Name t.1.1 t.1.2) t.2.2.1 t.2.2.2/\r=.Name t.2.1.1 t.2.1.2:=by
 obtain ⟨a,e1,h⟩:=aD h
 obtain ⟨x,e2,h⟩:=aD h
 obtain ⟨y,e3,h⟩:=aD h
 rw [eq e1,bJ e2,bJ e3,<- Option.some.inj h]
 exact ⟨rfl,rfl⟩
noncomputable def sW (l:Expr) (op:CmpOp) (r:Expr) (U:Loc) (Z:List aa) (Q:Bool->List aa->Prop) (E:QE):Prop:=match Cv l r with
 | some t=>match lF U Z t.1.1 t.2.2.1 with
  | some p=>match U.lookup t.2.1.1 with
   | some v=>match mX Z v with
    | some d=>match eqB op with
     | some b=>grd (bi t.1.1&&bi t.2.1.1&&aN N t.1.1&&aN N t.2.1.1&&PyData.canLayAll0 (pyL p.2)&&d.py.canLay0&&Nat.ble d.py.depth 64) (Q (cond b (PyData.eqv (D.li p.2).py d.py) (!PyData.eqv (D.li p.2).py d.py)) Z)
     | none=>False
    | none=>False
   | none=>ql I N l op r U Z Q E
  | none=>ql I N l op r U Z Q E
 | none=>ql I N l op r U Z Q E
noncomputable def dU:Expr->Loc->List aa->QV->QE->Prop
 | .Constant c _ _,_,Z,Q,_=>match wG c with
  | some x=>Q (.d x) Z
  | none=>False
 | .Name x _,U,Z,Q,_=>grd (bi x) (match N.lookup x with
  | some .local=>match U.lookup x with
   | some v=>Q v Z
   | none=>False
  | some .cell=>match U.lookup x with
   | some v=>Q v Z
   | none=>False
  | some .globalImplicit=>match sy.lookup x with
   | some c=>Q (.d (.gl c)) Z
   | none=>False
  | _=>False)
 | .BinOp l op r _,U,Z,Q,E=>I.ev N l U Z (fun a Z1=>I.ev N r U Z1 (fun b Z2=>oV op Z2 a b fun v=>Q v Z2) E) E
 | .UnaryOp op x _,U,Z,Q,E=>match op with
  | .Not=>I.ev N x U Z (fun v Z1=>match bbV v with
   | some b=>Q (.d (.bb (!b))) Z1
   | none=>False) E
  | .USub=>I.ev N x U Z (fun v Z1=>match iiV v with
   | some i=>Q (.d (.ii (-i))) Z1
   | none=>False) E
  | _=>False
 | .IfExp t b o _,U,Z,Q,E=>I.te N t U Z (fun c Z1=>cnd c (I.ev N b U Z1 Q E) (I.ev N o U Z1 Q E)) E
 | .Compare l ops rs _,U,Z,Q,E=>match eG ops,eG rs with
  | some op,some r=>sW I N l op r U Z (fun b Z'=>Q (.d (.bb b)) Z') E
  | _,_=>False
 | .BoolOp op es _,U,Z,Q,E=>match Ar es with
  | some p=>match op with
   | .And=>I.ev N p.1 U Z (fun v Z1=>match bbV v with
    | some b=>cnd b (I.ev N p.2 U Z1 Q E) (Q (.d (.bb b)) Z1)
    | none=>False) E
   | .Or=>I.ev N p.1 U Z (fun v Z1=>match bbV v with
    | some b=>cnd b (Q (.d (.bb b)) Z1) (I.ev N p.2 U Z1 Q E)
    | none=>False) E
  | none=>False
 | .Tuple es _ _,U,Z,Q,E=>hB (I.ev N) es U Z (fun vs Z'=>grd (Nat.ble vs.length 1048576) (Q (xU vs) Z')) E
 | .List es _,U,Z,Q,E=>hB (I.ev N) es U Z (fun vs Z'=>match qt vs with
  | some l=>grd (Nat.ble l.length 1048576) (Q (.ref Z'.length) (Z'++[.oc (.li l)]))
  | none=>False) E
 | .Dict ks vs _,U,Z,Q,E=>match jT ks with
  | some names=>grd (eH names&&Nat.beq names.length vs.length&&Nat.ble names.length 15) (hB (I.ev N) vs U Z (fun vs Z'=>match qt vs with
   | some l=>Q (.ref Z'.length) (Z'++[.oc (.di (List.zip names l))])
   | none=>False) E)
  | none=>False
 | .Subscript v i _,U,Z,Q,E=>match ua i with
  | some s=>grd (jU v) (I.ev N v U Z (fun o Z1=>vd (I.ev N · U) s.1 Z1 (fun a Z2=>vd (I.ev N · U) s.2.1 Z2 (uc Q o a) E) E) E)
  | none=>grd (!gV i) (I.ev N v U Z (fun o Z1=>I.ev N i U Z1 (fun k Z2=>yP Z2 o k fun r=>Q r Z2) E) E)
 | .Attribute v f _,U,Z,Q,E=>grd (!jo v) (I.ev N v U Z (fun o Z1=>rB Z1 o f fun r=>Q r Z1) E)
 | .Call f args kws p,U,Z,Q,E=>grd kws.isEmpty <| match i5 f with
  | some m=>match eG args with
   | some a=>grd (!jo m.1&&Nat.beq m.2.2.endLine p.line&&!cu a) (I.ev N m.1 U Z (fun ov Z1=>grd (lI m.2.1 Z1 ov) (I.ev N a U Z1 (fun v Z2=>lk m.2.1 Z2 ov v Q) E)) E)
   | none=>False
  | none=>grd (!eP f&&(Nat.ble args.length 20&&dR args)) (I.ev N f U Z (fun fv Z1=>hB (I.ev N) args U Z1 (fun vs Z2=>lX S Z2 fv vs Q E) E) E)
 | .ListComp elt gens sc _,U,Z,Q,E=>match EZ gens with
  | some g=>grd (!fw g.iter&&AO N sc g.x) (I.ev N g.iter U Z (fun sv Z1=>match bS sv with
   | some items=>grd (de items&&Nat.ble items.length 1048576) <| jd (I.te (em N sc.names)) (I.ev (em N sc.names)) g.ifs elt (iG U sc.names) g.x items [] fun l=>Q (.ref Z1.length) (Z1++[.oc (.li l)])
   | none=>False) E)
  | none=>False
 | _,_,_,_,_=>False
inductive Te where
 | no | ev | not (x:Expr) (p:Pos) | and (es:List Expr) (p:Pos) | or (es:List Expr) (p:Pos) | cmp (l:Expr) (ops:List CmpOp) (rs:List Expr) (p:Pos)
noncomputable def teV:Ve->Te
 | .unary op x p=>match op with
  | .Not=>.not x p
  | _=>.ev
 | .bool op es p=>match op with
  | .And=>.and es p
  | .Or=>.or es p
 | .cmp l ops rs p=>.cmp l ops rs p
 | .ifx=>.no
 | _=>.ev
noncomputable def Aq:Te->Option Expr
 | .not x p=>some (.UnaryOp .Not x p)
 | .and es p=>some (.BoolOp .And es p)
 | .or es p=>some (.BoolOp .Or es p)
 | .cmp l ops rs p=>some (.Compare l ops rs p)
 | _=>none
theorem Av (v:Ve):Aq (teV v)=none\/Aq (teV v)=un v:=by
 cases v <;> first | exact .inl rfl | exact .inr rfl | skip
 · rename_i op x p
   cases op <;> first | exact .inl rfl | exact .inr rfl
 · rename_i op x p
   cases op <;> exact .inr rfl
theorem qz {e x:Expr} {v:Te} (h:teV (vw e)=v) (u:Aq v=some x):e=x:=by
 subst h
 exact (Av (vw e)).elim (fun q=>af (q.symm.trans u)) fun q=>fb rfl (q.symm.trans u)
noncomputable def pg (e:Expr) (U:Loc) (Z:List aa) (Q:Bool->List aa->Prop) (E:QE):Prop:=match teV (vw e) with
 | .not x _=>I.te N x U Z (fun b Z'=>Q (!b) Z') E
 | .and es _=>ng (I.te N) es U Z Q E
 | .or es _=>orF (I.te N) es U Z Q E
 | .cmp l ops rs _=>match eG ops,eG rs with
  | some op,some r=>sW I N l op r U Z Q E
  | _,_=>False
 | .no=>False
 | .ev=>I.ev N e U Z (fun v Z'=>match bbV v with
  | some b=>Q b Z'
  | none=>False) E
noncomputable def ki (U:Loc):Loc->Loc
 | []=>[]
 | p::r=>match (U.lookup p.1).bind dV with
  | some d=>(p.1,.d d)::ki U r
  | none=>ki U r
noncomputable def CJ (f:Str):Bool:=decide (f="log")||decide (f="meta")
noncomputable def nN {α:Type}:Option α->Bool
 | none=>true
 | some _=>false
noncomputable def db {α:Type} (l:List (Str×α)) (f:Str):List (Str×α):=l.filter fun p=>!decide (p.1=f)
noncomputable def qr (Z:List aa) (o:V) (f:Str) (r:V) (Q:List aa->Prop):Prop:=match o with
 | .ref k=>match Z[k]? with
  | some (.inst C l own)=>grd (iJ C f&&Nat.ble (l.length+own.length) 1048576) <| match r with
   | .d x=>grd (nN (own.lookup f)) (Q (Z.set k (.inst C (db l f++[(f,x)]) own)))
   | .ref j=>grd (!Nat.beq j k) (match Z[j]? with
    | some (.oc c)=>match CJ f with
     | true=>grd (nN (l.lookup f)) (Q ((Z.set k (.inst C l (db own f++[(f,c)]))).set j .dead))
     | false=>grd (nN (own.lookup f)) (Q ((Z.set k (.inst C (db l f++[(f,ocD c)]) own)).set j .dead))
    | _=>False)
   | _=>False
  | _=>False
 | _=>False
noncomputable def wW (Z:List aa) (o i r:V) (Q:List aa->Prop):Prop:=match o,r with
 | .ref k,.d x=>match Z[k]? with
  | some (.oc (.li l))=>match i with
   | .d (.ii n)=>grd (leB 0 n&&ltB n l.length&&Nat.ble l.length 1048576) (Q (Z.set k (.oc (.li (l.set n.toNat x)))))
   | _=>False
  | some (.oc (.di l))=>match i with
   | .d (.ss s)=>grd (Nat.ble l.length 1048576) (Q (Z.set k (.oc (.di (bz l s x)))))
   | _=>False
  | _=>False
 | _,_=>False
noncomputable def cP:List Expr->Option (List Str)
 | []=>some []
 | t::r=>(cG t).bind fun n=>(cP r).bind fun l=>some (n.1::l)
noncomputable def ER:Const->Option Int
 | .int i=>some i
 | _=>none
theorem ye {c:Const} {i:Int} (h:ER c=some i):c=.int i:=by
 cases c <;> first | exact af h | exact congrArg Const.int (Option.some.inj h)
noncomputable def EQ:Ve->Option (Int×Nat×Pos)
 | .const c k p=>(ER c).map fun s=>(s,k,p)
 | _=>none
theorem yd {v:Ve} {q:Int×Nat×Pos} (h:EQ v=some q):un v=some (.Constant (.int q.1) q.2.1 q.2.2):=by
 cases v <;> first | exact af h | skip
 obtain ⟨s,e1,rfl⟩:=jI (show Option.map _ _=_ from h)
 rw [ye e1];rfl
noncomputable def DT:Ve->Option (Expr×Expr×Pos)
 | .sub v i p=>some (v,i,p)
 | _=>none
theorem xu {v:Ve} {q:Expr×Expr×Pos} (h:DT v=some q):un v=some (.Subscript q.1 q.2.1 q.2.2):=by
 cases v <;> first | exact af h | exact Option.some.inj h▸rfl
noncomputable def sbE (e:Expr):Option (Str×Int):=(DT (vw e)).bind fun s=>(cG s.1).bind fun n=>(EQ (vw s.2.1)).bind fun i=>some (n.1,i.1)
theorem uf {e:Expr} {q:Str×Int} (h:sbE e=some q):∃ p1 k p2 p3,e=.Subscript (.Name q.1 p1) (.Constant (.int q.2) k p2) p3:=by
 obtain ⟨zz,e1,h⟩:=aD h;obtain ⟨v,i,p⟩:=zz
 obtain ⟨n,e2,h⟩:=aD h
 obtain ⟨zz,e3,h⟩:=aD h;obtain ⟨j,k,r⟩:=zz
 obtain rfl:=Option.some.inj h
 refine ⟨n.2,k,r,p,?_⟩
 rw [fb rfl (xu e1),<- bJ e2,<- fb rfl (yd e3)]
noncomputable def lw:List Expr->Option (List (Str×Int))
 | []=>some []
 | t::r=>(sbE t).bind fun p=>(lw r).bind fun l=>some (p::l)
noncomputable def tK (U:Loc):List (Str×Int)->List V->List aa->(List aa->Prop)->Prop
 | [],vs,Z,Q=>grd vs.isEmpty (Q Z)
 | p::r,vs,Z,Q=>match vs with
  | v::vs=>match U.lookup p.1 with
   | some o=>wW Z o (.d (.ii p.2)) v fun Z'=>tK U r vs Z' Q
   | none=>False
  | []=>False
structure App where
 x:Str
 px:Pos
 f:Str
 pf:Pos
 m:Str
 ap:Pos
 a:Expr
 cp:Pos
noncomputable def CH (v:Expr):Option App:=(wR v).bind fun c=>(i5 c.1).bind fun m=>(i5 m.1).bind fun f=>(cG f.1).bind fun n=>some ⟨n.1,n.2,f.2.1,f.2.2,m.2.1,m.2.2,c.2.1,c.2.2⟩
theorem yQ {v:Expr} {t:App} (h:CH v=some t):v=.Call (.Attribute (.Attribute (.Name t.x t.px) t.f t.pf) t.m t.ap) [t.a] [] t.cp:=by
 obtain ⟨c,e1,h⟩:=aD h
 obtain ⟨m,e2,h⟩:=aD h
 obtain ⟨f,e3,h⟩:=aD h
 obtain ⟨n,e4,h⟩:=aD h
 rw [oK e1,eq e2,eq e3,bJ e4,<- Option.some.inj h]
noncomputable def Ba (e c:Option Expr):Option ((Str×Pos)×Expr×Pos):=cond (nN c) (e.bind fun e=>(wR e).bind fun c=>(cG c.1).bind fun n=>some (n,c.2)) none
theorem xK {e c:Option Expr} {t:(Str×Pos)×Expr×Pos} (h:Ba e c=some t):e=some (.Call (.Name t.1.1 t.1.2) [t.2.1] [] t.2.2)/\c=none:=by
 cases c with
 | some _=>exact af h
 | none=>
  obtain ⟨e,rfl,h⟩:=aD h
  obtain ⟨c,e1,h⟩:=aD h
  obtain ⟨n,e2,h⟩:=aD h
  rw [oK e1,bJ e2,<- Option.some.inj h]
  exact ⟨rfl,rfl⟩
structure Han where
 c:Str
 p1:Pos
 x:Str
 x':Str
 p2:Pos
 y:Str
 p3:Pos
 p4:Pos
 p5:Pos
noncomputable def Ed:Stmt->Option (Expr×Pos)
 | .Return e p=>e.map fun e=>(e,p)
 | _=>none
theorem xJ {s:Stmt} {q:Expr×Pos} (h:Ed s=some q):s=.Return (some q.1) q.2:=by
 cases s <;> first | exact af h | (obtain ⟨e,rfl,rfl⟩:=jI (show Option.map _ _=_ from h);rfl)
noncomputable def yi:ExceptHandler->Option Han
 | .ExceptHandler ty x b p5=>ty.bind fun ty=>x.bind fun x=>(eG b).bind fun b=>(cG ty).bind fun c=>(Ed b).bind fun r=>(i5 r.1).bind fun a=>(cG a.1).bind fun n=>some ⟨c.1,c.2,x,n.1,n.2,a.2.1,a.2.2,r.2,p5⟩
theorem yh {h:ExceptHandler} {t:Han} (q:yi h=some t):h=.ExceptHandler (some (.Name t.c t.p1)) (some t.x) [.Return (some (.Attribute (.Name t.x' t.p2) t.y t.p3)) t.p4] t.p5:=by
 obtain ⟨ty,x,b,p5⟩:=h
 obtain ⟨ty,rfl,q⟩:=aD q
 obtain ⟨x,rfl,q⟩:=aD q
 obtain ⟨b,e0,q⟩:=aD q
 obtain ⟨c,e1,q⟩:=aD q
 obtain ⟨r,e2,q⟩:=aD q
 obtain ⟨a,e3,q⟩:=aD q
 obtain ⟨n,e4,q⟩:=aD q
 rw [cq e0,bJ e1,xJ e2,eq e3,bJ e4,<- Option.some.inj q]
noncomputable def CY (v:Expr) (U:Loc) (Z:List aa) (K:QF) (E:QE):Prop:=I.ev N v U Z (fun r Z1=>grd (dNN r) (K .nx U Z1)) E
noncomputable def FW (t:App) (p:Nat×List D) (U:Loc) (Z:List aa) (K:QF):Prop:=grd (bi t.x&&aN N t.x&&decide (t.m="append")&&Nat.beq t.ap.endLine t.cp.line&&!cu t.a&&Nat.ble p.2.length 1048576)
 (I.ev N t.a (ki U U) [] (fun r Z1=>grd Z1.isEmpty (match dV r,iy Z p.1 with
  | some d,some i=>K .nx U (Z.set p.1 (.inst i.1 i.2.1 (du i.2.2 t.f (.li (p.2++[d])))))
  | _,_=>False)) fun _ _=>False)
noncomputable def tb (v:Expr) (U:Loc) (Z:List aa) (K:QF) (E:QE):Prop:=match CH v with
 | some t=>match lF U Z t.x t.f with
  | some p=>FW I N t p U Z K
  | none=>CY I N v U Z K E
 | none=>grd (!bV v) (CY I N v U Z K E)
noncomputable def zX (x:Str) (v:Expr) (U:Loc) (Z:List aa) (K:QF) (E:QE):Prop:=grd (aN N x) (cnd (EO v) (dU S I N v U Z (fun r Z1=>K .nx (cK U x r) Z1) E)
 (grd (!bV v) (I.ev N v U Z (fun r Z1=>K .nx (cK U x r) Z1) E)))
noncomputable def CW (ts:List Expr) (v:Expr) (U:Loc) (Z:List aa) (K:QF) (E:QE):Prop:=I.ev N v U Z (fun r Z1=>match (eE r).bind fun vs=>dW N ts vs U with
 | some U'=>K .nx U' Z1
 | none=>False) E
noncomputable def CV (ps:List (Str×Int)) (v:Expr) (U:Loc) (Z:List aa) (K:QF) (E:QE):Prop:=I.ev N v U Z (fun r Z1=>match eE r with
 | some vs=>grd (Nat.beq vs.length ps.length) (tK U ps vs Z1 fun Z'=>K .nx U Z')
 | none=>False) E
noncomputable def CU (ts:List Expr) (v:Expr) (U:Loc) (Z:List aa) (K:QF) (E:QE):Prop:=I.ev N v U Z (fun r Z1=>match (eE r).bind fun vs=>dW N ts.reverse vs.reverse U with
 | some U'=>K .nx U' Z1
 | none=>False) E
noncomputable def zW (ts:List Expr) (v:Expr) (U:Loc) (Z:List aa) (K:QF) (E:QE):Prop:=match lu N ts v with
 | none=>False
 | some o=>match o with
  | none=>match cP ts with
   | some _=>CW I N ts v U Z K E
   | none=>match lw ts with
    | some ps=>grd (ps.all fun p=>bi p.1&&aN N p.1) (CV I N ps v U Z K E)
    | none=>False
  | some names=>grd (decide (cP ts=some names)) (CU I N ts v U Z K E)
noncomputable def FV (x f:Str) (v:Expr) (U:Loc) (Z:List aa) (K:QF) (E:QE):Prop:=match U.lookup x with
 | some o=>I.ev N v U Z (fun r Z1=>qr Z1 o f r fun Z'=>K .nx U Z') E
 | none=>False
noncomputable def FR (x:Str) (i v:Expr) (U:Loc) (Z:List aa) (K:QF) (E:QE):Prop:=match U.lookup x with
 | some o=>I.ev N v U Z (fun r Z1=>I.ev N i U Z1 (fun iv Z2=>wW Z2 o iv r fun Z'=>K .nx U Z') E) E
 | none=>False
noncomputable def FT (x f key:Str) (v:Expr) (U:Loc) (Z:List aa) (K:QF) (E:QE):Prop:=I.ev N v U Z (fun r Z1=>match dV r,qU U Z1 x f with
 | some d,some p=>match iy Z1 p.1 with
  | some i=>grd (Nat.ble p.2.length 1048576) (K .nx U (Z1.set p.1 (.inst i.1 i.2.1 (du i.2.2 f (.di (bz p.2 key d))))))
  | none=>False
 | _,_=>False) E
noncomputable def CZ (t:Tg) (v:Expr) (U:Loc) (Z:List aa) (K:QF) (E:QE):Prop:=match t with
 | .name x _=>zX S I N x v U Z K E
 | .tup ts _ _=>grd (!bV v) (zW I N ts v U Z K E)
 | .attr x _ f _=>grd (!bV v&&(bi x&&aN N x)) (FV I N x f v U Z K E)
 | .sub x _ i _=>grd (!bV v&&(bi x&&(aN N x&&!gV i))) (FR I N x i v U Z K E)
 | .own x _ f _ key _ _ _=>grd (!bV v&&(bi x&&aN N x)) (FT I N x f key v U Z K E)
 | .bad=>False
noncomputable def FU (t it:Expr) (b:List Stmt) (U:Loc) (Z:List aa) (K:QF) (E:QE):Prop:=I.ev N it U Z (fun sv Z1=>nX sv U Z1 fun sv U Z1=>match bS sv with
 | some items=>bq (fun v U Z K'=>match i0 N t v U with
  | some U'=>bm (I.ex N) b U' Z K' (fun _ _=>False)
  | none=>False) items U Z1 K
 | none=>False) E
noncomputable def FS (a:Expr) (U:Loc) (Z:List aa) (E:QE):Prop:=I.ev N a U Z (fun v Z'=>match ssV v with
 | some why=>E why Z'
 | none=>False) E
noncomputable def CX (t:Han) (b:List Stmt) (o f:List Stmt) (U:Loc) (Z:List aa) (K:QF):Prop:=grd (o.isEmpty&&f.isEmpty&&Z.isEmpty&&decide (t.c="Misused")&&decide (t.x=t.x')&&decide (t.y="why")&&yj N t.c&&x4 N t.x&&bi t.x)
 (bm (I.ex N) b U [] K fun why Z'=>grd Z'.isEmpty (K (.rt (.d (.ss why))) [] []))
noncomputable def iC:Stmt->Loc->List aa->QF->QE->Prop
 | .Expr v _,U,Z,K,E=>tb I N v U Z K E
 | .Assign ts v _,U,Z,K,E=>match eG ts with
  | some t=>CZ S I N (tgE t) v U Z K E
  | none=>False
 | .If t b o _,U,Z,K,E=>I.te N t U Z (fun c Z1=>cnd c (bm (I.ex N) b U Z1 K E) (bm (I.ex N) o U Z1 K E)) E
 | .For t it b o _,U,Z,K,E=>grd (o.isEmpty&&!fw it) (FU I N t it b U Z K E)
 | .While t b o _,U,Z,K,_=>grd o.isEmpty (o6 (fun U Z Q=>I.te N t U Z Q fun _ _=>False) (fun U Z K'=>bm (I.ex N) b U Z K' fun _ _=>False) 6 U Z K)
 | .Return e _,U,Z,K,E=>match e with
  | some e=>I.ev N e U Z (fun v Z'=>K (.rt v) U Z') E
  | none=>K (.rt (.d .nn)) U Z
 | .Raise e c _,U,Z,_,E=>match Ba e c with
  | some t=>grd (decide (t.1.1="Misused")&&(!cu t.2.1&&yj N t.1.1)) (FS I N t.2.1 U Z E)
  | none=>False
 | .Try b hs o f _,U,Z,K,_=>match (eG hs).bind yi with
  | some t=>CX I N t b o f U Z K
  | none=>False
 | .Pass _,U,Z,K,_=>K .nx U Z
 | .Continue _,U,Z,K,_=>K .ct U Z
 | .Break _,U,Z,K,_=>K .br U Z
 | _,_,_,_,_=>False
end
noncomputable def evN (S:Tab):Nat->Ev
 | 0=>⟨fun _ _ _ _ _ _=>False,fun _ _ _ _ _ _=>False,fun _ _ _ _ _ _=>False⟩
 | n+1=>⟨fun N e=>dU S (evN S n) N e,fun N e=>pg (evN S n) N e,fun N s U Z K E=>nY (S.fz s.pos.line) U Z fun U Z=>iC S (evN S n) N s (nZ (S.fg s.pos.line) U) Z K E⟩
end Mine
namespace Mine
open PySem PySem.W PyProof.Rows PySem.SeqAt
structure FxN (fx:Fx) (N:aC):Prop where
 names:fx.env.scope.names=N
 cell:∀ x,N.lookup x=some .cell->∃ a,fx.env.cells.lookup x=some a
 nd:(fx.env.cells.map (·.1)).Nodup
theorem FxN.kind {fx:Fx} {N:aC} (h:FxN fx N) (x:Str):fx.env.kindOf x=N.lookup x:=by show fx.env.scope.names.lookup x=_;rw [h.names]
noncomputable abbrev PT (α:Type):=(α->Shared->Prop)->(Value->Shared->Prop)->Shared->Prop
noncomputable def aH (w:World) (base:Heap) {α β:Type} (fx:Fx) (U:Loc) (G:PH) (O:Fp) (Z:List aa) (P:PT α) (R:PH->Fp->β->α->Prop) (Q:β->List aa->Prop) (E:Str->List aa->Prop):Prop:=
 ∀ (s:Shared),St w base fx G O Z U s.heap->∀ (QQ:α->Shared->Prop) (EE:Value->Shared->Prop),
  KQ w base fx U G O s R Q QQ->
  KE w base fx U G O s E EE->
  P QQ EE s
structure aV (w:World) (base:Heap) (n:Nat) (I:Ev):Prop where
 ev:∀ {fx:Fx} {N:aC} {e:Expr} {U:Loc} {G:PH} {O:Fp} {Z:List aa} {Q:QV} {E:QE},aE base n fx->FxN fx N->I.ev N e U Z Q E->bN w base fx U G O Z (eval e fx.env) Q E
 te:∀ {fx:Fx} {N:aC} {e:Expr} {U:Loc} {G:PH} {O:Fp} {Z:List aa} {Q:Bool->List aa->Prop} {E:QE},aE base n fx->FxN fx N->I.te N e U Z Q E->nq w base fx U G O Z (isTrue e fx.env (eval e fx.env)) Q E
 ex:∀ {fx:Fx} {N:aC} {b:Stmt} {U:Loc} {G:PH} {O:Fp} {Z:List aa} {Q:QF} {E:QE},aE base n fx->FxN fx N->I.ex N b U Z Q E->bT w base fx U G O Z (exec b fx.env) Q E
noncomputable def SOk (w:World) (base:Heap) (n:Nat) (S:Tab):Prop:=∀ a sp,S.sp a=some sp->aU w base a n sp/\keepIn (MineH.hd.heap_1 w.params) (.ref a)=true
theorem bw {P R:Prop} (h:cnd true P R):P:=h
theorem aG {P R:Prop} (h:cnd false P R):R:=h
section
variable {w:World} {base:Heap} {fx:Fx} {U:Loc} {G:PH} {O:Fp} {Z:List aa} {E:Str->List aa->Prop} {α β γ δ:Type} {h:Heap} {n:Nat} {N:aC} {I:Ev} {S:Tab}
theorem aH.seq {t:Sem α} {P:α->PT γ} {T:PT γ} {R:PH->Fp->β->α->Prop} {R':PH->Fp->δ->γ->Prop} {Q:β->List aa->Prop} {Q':δ->List aa->Prop}
  (rule:∀ (QQ:γ->Shared->Prop) (EE:Value->Shared->Prop) (s:Shared),wpAny (model PR w) fx.A t (fun a s'=>P a QQ EE s') EE s->T QQ EE s)
  (d:Den w base fx U G O Z t R Q E)
  (k:∀ G' O' Z' b a,Sub G G'->IxE O O'->R G' O' b a->Q b Z'->aH w base fx U G' O' Z' (P a) R' Q' E):aH w base fx U G O Z T R' Q' E:=fun s S QQ EE hq he=>
 rule QQ EE s (d s S _ _ (fun G' O' Z' b a h' tk x S' r q=>k G' O' Z' b a x.sub x.ix r q _ S' QQ EE
   (fun G'' O'' Z'' b' a' h'' tk' x' S'' r' q'=>hq G'' O'' Z'' b' a' h'' tk' (x.trans x') S'' r' q')
   fun G'' O'' Z'' y e h'' tk' x' S'' r' q'=>he G'' O'' Z'' y e h'' tk' (x.trans x') S'' (r'.weaken x.dom) q')
  fun G' O' Z' y e h' tk x S' r q=>he G' O' Z' y e h' tk x S' r q)
theorem aH.of {t:Sem α} {R:PH->Fp->β->α->Prop} {Q:β->List aa->Prop} (d:Den w base fx U G O Z t R Q E):aH w base fx U G O Z (fun QQ EE s=>wpAny (model PR w) fx.A t QQ EE s) R Q E:=d
theorem aH.to {t:Sem α} {R:PH->Fp->β->α->Prop} {Q:β->List aa->Prop} (d:aH w base fx U G O Z (fun QQ EE s=>wpAny (model PR w) fx.A t QQ EE s) R Q E):Den w base fx U G O Z t R Q E:=d
theorem aH.ret {R:PH->Fp->β->α->Prop} {Q:β->List aa->Prop} {b:β} {a:α} (r:R G O b a) (q:Q b Z):aH w base fx U G O Z (fun QQ EE s=>QQ a s) R Q E:=fun s S QQ EE hq _=>
 hq G O Z b a s.heap s.toks (Ext.refl ..) S r q
theorem bj {e:Expr} {rest:List Expr} {env:Env} (h:cu e=false):starEach (e::rest) env=(false,eval e env)::starEach rest env:=by cases e <;> first | rfl | exact iL h
theorem fX (I:aV w base n J) (ok:aE base n fx) (hN:FxN fx N) {pos:Pos}:∀ {es:List Expr} {G:PH} {O:Fp} {Z:List aa} {Q:List V->List aa->Prop},hB (J.ev N) es U Z Q E->
  Den w base fx U G O Z (spliced (backTo pos (starEach es fx.env))) (VRs w) Q E:=by
 intro es
 induction es with
 | nil=>
  intro G O Z Q q
  exact aH.to fun s S QQ EE hq _=>Calls.spliced_nil (hq G O Z [] [] s.heap s.toks (Ext.refl ..) S rfl q)
 | cons e es ih=>
  intro G O Z Q q
  unfold hB at q
  obtain ⟨c,q⟩:=ab.mp q
  have hs:cu e=false:=by simpa using c
  refine aH.to (aH.seq (P:=fun v QQ EE s=>wpAny (model PR w) fx.A (spliced (backTo pos (starEach es fx.env))) (fun vs s₂=>QQ (v::vs) s₂) EE s) (fun QQ EE s h=>wpAny_items_cons h (bj hs)) (I.ev ok hN q) ?_)
  intro G' O' Z' b a x ix r q1
  refine aH.seq (P:=fun vs QQ EE s=>QQ (a::vs) s) (fun QQ EE s h=>h) (ih q1) ?_
  intro G'' O'' Z'' b' a' x' ix' r' q2
  refine aH.ret (b:=b::b') ?_ q2
  show VRs w G'' O'' (b::b') (a::a')
  exact ⟨a,a',rfl,r.mono x' ix',r'⟩
theorem yD (I:aV w base n J) (ok:aE base n fx) (hN:FxN fx N) {pos:Pos} {whole:Sem Value}:∀ {es:List Expr} {G:PH} {O:Fp} {Z:List aa} {Q:Bool->List aa->Prop},ng (J.te N) es U Z Q E->
  nq w base fx U G O Z (isTrue (.BoolOp .And es pos) fx.env whole) Q E:=by
 intro es
 induction es with
 | nil=>
  intro G O Z Q q
  exact fun s S QQ EE hq _=>isTrue_and_nil (hq G O Z true true s.heap s.toks (Ext.refl ..) S rfl q)
 | cons e es ih=>
  intro G O Z Q q
  unfold ng at q
  refine aH.to (aH.seq (P:=fun c QQ EE s=>if c then wpAny (model PR w) fx.A (isTrue (.BoolOp .And es pos) fx.env whole) QQ EE s else QQ false s) (fun QQ EE s h=>isTrue_and h) (I.te ok hN q) ?_)
  intro G' O' Z' b a x ix r q1
  have r':a=b:=r
  subst r'
  cases a with
  | true=>exact aH.of (ih (bw q1))
  | false=>exact aH.ret (b:=false) rfl (aG q1)
theorem Cp (I:aV w base n J) (ok:aE base n fx) (hN:FxN fx N) {pos:Pos} {whole:Sem Value}:∀ {es:List Expr} {G:PH} {O:Fp} {Z:List aa} {Q:Bool->List aa->Prop},orF (J.te N) es U Z Q E->
  nq w base fx U G O Z (isTrue (.BoolOp .Or es pos) fx.env whole) Q E:=by
 intro es
 induction es with
 | nil=>
  intro G O Z Q q
  exact fun s S QQ EE hq _=>isTrue_or_nil (hq G O Z false false s.heap s.toks (Ext.refl ..) S rfl q)
 | cons e es ih=>
  intro G O Z Q q
  unfold orF at q
  refine aH.to (aH.seq (P:=fun c QQ EE s=>if c then QQ true s else wpAny (model PR w) fx.A (isTrue (.BoolOp .Or es pos) fx.env whole) QQ EE s) (fun QQ EE s h=>isTrue_or h) (I.te ok hN q) ?_)
  intro G' O' Z' b a x ix r q1
  have r':a=b:=r
  subst r'
  cases a with
  | false=>exact aH.of (ih (aG q1))
  | true=>exact aH.ret (b:=true) rfl (bw q1)
theorem lU {op:CmpOp} {r:Expr} (h:fw r=false):behindInMarks op r=false:=by cases r <;> first | rfl | exact iL h
theorem wl (W:Wd w base) (ok:aE base n fx) (hN:FxN fx N) {x:Str} {pos:Pos} {Q:QV} (hx:bi x=true) (q:match N.lookup x with
  | some .local=>match U.lookup x with
   | some v=>Q v Z
   | none=>False
  | some .cell=>match U.lookup x with
   | some v=>Q v Z
   | none=>False
  | some .globalImplicit=>match sy.lookup x with
   | some c=>Q (.d (.gl c)) Z
   | none=>False
  | _=>False):bN w base fx U G O Z (eval (.Name x pos) fx.env) Q E:=by
 have hd:(x==("__debug__":Str))=false:=by simpa [bi] using hx
 have hk:=hN.kind x
 split at q
 · rename_i e
   split at q
   · rename_i v hv
     exact j9 ok (hk.trans e) hd hv q
   · exact q.elim
 · rename_i e
   split at q
   · rename_i v hv
     obtain ⟨a,ha⟩:=hN.cell x e
     exact kW ok (hk.trans e) ha hd hv q
   · exact q.elim
 · rename_i e
   split at q
   · rename_i v hv
     exact e9 W ok (hk.trans e) hd hv q
   · exact q.elim
 · exact q.elim
theorem sR (I:aV w base n J) (ok:aE base n fx) (hN:FxN fx N) {op:Operator} {l r:Expr} {pos:Pos} {Q:QV}
  (q:J.ev N l U Z (fun a Z1=>J.ev N r U Z1 (fun b Z2=>oV op Z2 a b fun v=>Q v Z2) E) E):bN w base fx U G O Z (eval (.BinOp l op r pos) fx.env) Q E:=by
 refine aH.to (aH.seq (P:=fun a QQ EE s=>wpAny (model PR w) fx.A (eval r fx.env) (fun b s₂=>wpAny (model PR w) fx.A (binaryOp op a b) QQ EE s₂) EE s) (fun QQ EE s h=>wpAny_BinOp h) (I.ev ok hN q) ?_)
 intro G' O' Z' b a x ix ra q1
 refine aH.seq (P:=fun c QQ EE s=>wpAny (model PR w) fx.A (binaryOp op a c) QQ EE s) (fun QQ EE s h=>h) (I.ev ok hN q1) ?_
 intro G'' O'' Z'' b' a' x' ix' rb q2
 exact aH.of (yC (ra.mono x' ix') rb q2)
theorem wo (I:aV w base n J) (ok:aE base n fx) (hN:FxN fx N) {op:CmpOp} {l r:Expr} {Q:Bool->List aa->Prop} {K:Value->PT α} {P:PT α} {R:PH->Fp->β->α->Prop} {Q':β->List aa->Prop}
  (q:ql J N l op r U Z Q E)
  (rule:∀ QQ EE s,wpAny (model PR w) fx.A (eval l fx.env) (fun a s₁=>wpAny (model PR w) fx.A (eval r fx.env) (fun b s₂=>wpAny (model PR w) fx.A (compareOp op a b) (fun c s₃=>K c QQ EE s₃) EE s₂) EE s₁) EE s->P QQ EE s)
  (k:∀ G O Z b c,VR w G O (.d (.bb b)) c->Q b Z->aH w base fx U G O Z (K c) R Q' E):aH w base fx U G O Z P R Q' E:=by
 unfold ql at q
 obtain ⟨c,q⟩:=ab.mp q
 refine aH.seq (P:=fun a QQ EE s=>wpAny (model PR w) fx.A (eval r fx.env) (fun b s₂=>wpAny (model PR w) fx.A (compareOp op a b) (fun c s₃=>K c QQ EE s₃) EE s₂) EE s) rule (I.ev ok hN q) ?_
 intro G' O' Z' b a x ix ra q1
 refine aH.seq (P:=fun c QQ EE s=>wpAny (model PR w) fx.A (compareOp op a c) (fun c s₃=>K c QQ EE s₃) EE s) (fun QQ EE s h=>h) (I.ev ok hN q1) ?_
 intro G'' O'' Z'' b' a' x' ix' rb q2
 refine aH.seq (P:=K) (Q:=fun v Z=>∃ b,v=.d (.bb b)/\Q b Z) (fun QQ EE s h=>h) (yB ok (ra.mono x' ix') rb ?_) ?_
 · have key:∀ {Q1 Q2:Bool->Prop},(∀ b,Q1 b->Q2 b)->ky op Z'' b b' Q1->ky op Z'' b b' Q2:=by
    intro Q1 Q2 m z
    unfold ky at z ⊢
    clear q;split at z
    · obtain ⟨c,z⟩:=ab.mp z
      exact ad c (m _ z)
    · exact z.elim
   exact key (fun b hb=>⟨b,rfl,hb⟩) q2
 · clear q;rintro G3 O3 Z3 v c3 x3 ix3 r3 ⟨b,rfl,hb⟩
   exact k _ _ _ b c3 r3 hb
end
end Mine
namespace Mine
open PySem PySem.W PyProof.Rows PySem.SeqAt
variable (P:Params)
noncomputable def vI:Value->Bool
 | .str ..=>true
 | _=>false
noncomputable def co (P:Params) (C:Addr):Obj:=((MineH.hd.heap_1 P).lookup C).getD default
noncomputable def ccd (P:Params) (C:Addr):ClassData:=match (co P C).data with
 | .cls c=>c
 | _=>default
noncomputable def ck (P:Params) (C:Addr) (k:Nat):Option Value:=((co P C).slots.toList[k]?).bind id
noncomputable def ces (P:Params) (C:Addr):Array DictEntry×Nat:=match (co P (ccd P C).ns).data with
 | .dict es n=>(es,n)
 | _=>(#[],0)
noncomputable def Cr (P:Params) (C:Addr):Obj:=excClassObj (ccd P C).name (ccd P C).qualname C (ccd P C).ns (ccd P C).bases [.type "object"] true (ccd P C).slotNames (ccd P C).subclasses false (ccd P C).collection (co P C).dict (ck P C 0) (ck P C 1) (ck P C 2) (ck P C 3) (ck P C 5) "object.__new__"
noncomputable def Cu (P:Params) (C:Addr):Obj:={co P (ccd P C).ns with data:=.dict (ces P C).1 (ces P C).2}
noncomputable def xR (es:Array DictEntry):Bool:=es.toList.all (fun e=>vI e.key)&&(("__getattribute__":Str)::("__setattr__":Str)::dE).all fun f=>(nsFind es f).isNone
theorem wL:(MineH.hd.heap_1 P).lookup 231=some (Cr P 231):=by kernel_rfl
theorem Cw:(MineH.hd.heap_1 P).lookup 274=some (Cr P 274):=by kernel_rfl
theorem Ct:(MineH.hd.heap_1 P).lookup (ccd P 231).ns=some (Cu P 231):=by kernel_rfl
theorem Cs:(MineH.hd.heap_1 P).lookup (ccd P 274).ns=some (Cu P 274):=by kernel_rfl
theorem xQ:xR (ces P 231).1=true:=by kernel_rfl
theorem xP:xR (ces P 274).1=true:=by kernel_rfl
noncomputable def qV (f:Str):Bool:=((fastLookup "object" f).map Option.isNone).getD false
theorem pz:dE.all qV=true:=by kernel_rfl
theorem t7 {α:Type} {x:Option (Option α)} (h:(x.map Option.isNone).getD false=true):x=some none:=by
 cases x with
 | none=>exact aX h
 | some y=>cases y with
  | none=>rfl
  | some _=>exact aX h
theorem pB {f:Str} (h:qV f=true):typeLookup (.type "object") f=pure none:=by
 rw [typeLookup_type,builtinLookup_eq_fast,t7 h]
theorem sq {v:Value} (h:vI v=true):∃ s t,v=.str s t:=by
 cases v with
 | str s t=>exact ⟨s,t,rfl⟩
 | _=>exact aX h
structure yX (h:Heap) (C:Addr) (f:Str):Prop where
 ex:∃ N mN,(∃ nm q bs sn sub col dd k0 k1 k2 k3 k5,h.get? C=some (excClassObj nm q C N bs [.type "object"] true sn sub false col dd k0 k1 k2 k3 k5 "object.__new__"))/\h.Ns N mN/\
  mN "__getattribute__"=none/\mN "__setattr__"=none/\mN f=none
 ob:typeLookup (.type "object") f=pure none
theorem rp {P:Params} {h:Heap} {C:Addr} {f:Str} (X:(MineH.hd.heap_1 P).In h) (e1:(MineH.hd.heap_1 P).lookup C=some (Cr P C)) (e2:(MineH.hd.heap_1 P).lookup (ccd P C).ns=some (Cu P C)) (b:xR (ces P C).1=true)
  (hf:dE.any (fun g=>decide (g=f))=true):yX h C f:=by
 exists P,h,C,f,_ X e1 e2 b hf
 unfold xR at b
 rw [Bool.and_eq_true] at b
 have hall:=List.all_eq_true.mp b.2
 obtain ⟨g,hg,e⟩:=List.any_eq_true.mp hf
 have hmem:f∈dE:=of_decide_eq_true e▸hg
 exact ⟨⟨_,nsFind (ces P C).1,⟨_,_,_,_,_,_,_,_,_,_,_,_,X _ _ e1⟩,⟨_,_,_,X _ _ e2,rfl,fun x hx=>sq (List.all_eq_true.mp b.1 x (Array.mem_toList_iff.mpr hx)),fun _=>rfl⟩,
  Option.isNone_iff_eq_none.mp (hall _ (.head _)),Option.isNone_iff_eq_none.mp (hall _ (.tail _ (.head _))),Option.isNone_iff_eq_none.mp (hall _ (.tail _ (.tail _ hmem)))⟩,pB (List.all_eq_true.mp pz f hmem)⟩
theorem wK {w:World} {base h:Heap} (W:Wd w base) (k:∀ b o,base.get? b=some o->h.get? b=some o) {C:Addr} {f:Str} (a:iJ C f=true):yX h C f:=by
 unfold iJ at a
 simp only [Bool.and_eq_true,Bool.or_eq_true] at a
 rcases a.1 with a1 | a1
 · obtain rfl:=Nat.eq_of_beq_eq_true a1
   exact rp (W.K.keeps k) (wL _) (Ct _) (xQ _) a.2
 · obtain rfl:=Nat.eq_of_beq_eq_true a1
   exact rp (W.K.keeps k) (Cw _) (Cs _) (xP _) a.2
theorem sx {v:Value} (h:∀ id,v≠.builtin id):handedOut v=pure v:=by cases v <;> first | rfl | exact absurd rfl (h _)
section
variable {w:World} {base:Heap} {fx:Fx} {U:Loc} {G:PH} {O:Fp} {Z:List aa} {E:Str->List aa->Prop} {α β γ δ:Type} {h:Heap} {n:Nat} {N:aC} {I:Ev} {S:Tab}
theorem gY {A:Around} {C x:Addr} {mA:Str->Option Value} {f:Str} {v:Value} {expr:Bool} {s:Shared} {Q:Value->Shared->Prop} {EE:Value->Shared->Prop} (F:yX s.heap C f) (I:s.heap.Inst x C mA) (hv:mA f=some v) (hn:∀ id,v≠.builtin id)
  (h:Q v {s with toks:=s.toks+1}):wpAny (model PR w) A (getAttr (.ref x) f expr) Q EE s:=by
 obtain ⟨zz,ob⟩:=F;obtain ⟨N,mN,zy,hns,hg,hs,hf⟩:=zz;obtain ⟨nm,q,bs,sn,sub,col,dd,zz⟩:=zy;obtain ⟨k0,k1,k2,k3,k5,hC⟩:=zz
 obtain ⟨hh,g,d,t,os⟩:=s
 exact load_attr hC hns hg hf ob I hv (sx hn) h
theorem DR.notBuiltin {d:D} {c:Value} (r:DR w G d c) (hd:vg d=true):∀ id,c≠.builtin id:=by
 intro id e
 subst e
 cases d <;> unfold DR at r <;> first
  | (subst hd;done)
  | (contradiction;done)
  | (obtain ⟨t,r⟩:=r;cases r;done)
  | (obtain ⟨x,m,cs,r,_⟩:=r;cases r;done)
  | (obtain ⟨a,n,r,_⟩:=r;cases r;done)
  | (obtain ⟨a,n,o,r,_⟩:=r;cases r;done)
  | (obtain ⟨a,n,o,m,r,_⟩:=r;cases r;done)
theorem DRv.lookZ {f:Str}:∀ {l:List (Str×D)} {cs:List Value} {x:D},DRv w G l cs->l.lookup f=some x->∃ c,(List.zip (l.map (·.1)) cs).lookup f=some c/\DR w G x c
 | [],_,_,_,e=>by simp at e
 | (y,d)::l,cs,x,r,e=>by
  obtain ⟨c,r',rfl,h1,h2⟩:=r
  simp only [List.map_cons,List.zip_cons_cons]
  rw [List.lookup_cons] at e ⊢
  split at e
  · rename_i q
    cases e
    exact ⟨c,rfl,h1⟩
  · rename_i q
    obtain ⟨c',h3,h4⟩:=DRv.lookZ h2 e
    exact ⟨c',h3,h4⟩
theorem bF.look {m:Str->Option Value} {f:Str}:∀ {l:List (Str×D)} {x:D},bF w G m l->l.lookup f=some x->∃ c,m f=some c/\DR w G x c
 | [],_,_,e=>by simp at e
 | (y,d)::l,x,r,e=>by
  unfold bF at r
  rw [List.lookup_cons] at e
  split at e
  · rename_i q
    cases e
    rw [eq_of_beq q];exact r.1
  · exact bF.look r.2 e
theorem bl.look {m:Str->Option Value} {f:Str}:∀ {l:List (Str×OC)} {as:List Addr} {x:OC},bl w G h m l as->l.lookup f=some x->∃ a,a∈as/\m f=some (.ref a)/\OCR w G h x a
 | [],_,_,_,e=>by simp at e
 | (y,d)::l,as,x,r,e=>by
  obtain ⟨a,as',rfl,hm,ho,r⟩:=r
  rw [List.lookup_cons] at e
  split at e
  · rename_i q
    cases e
    rw [eq_of_beq q];exact ⟨a,.head _,hm,ho⟩
  · obtain ⟨a',h1,h2⟩:=bl.look r e
    exact ⟨a',.tail _ h1,h2⟩
theorem dA:∀ {O:Fp} {k:Nat} {fp:List Addr},O.flatten.Nodup->O[k]?=some fp->fp.Nodup
 | [],k,_,_,e=>by simp at e
 | f::O,0,_,nd,e=>by rw [List.flatten_cons,List.nodup_append] at nd;simp at e;subst e;exact nd.1
 | f::O,k+1,_,nd,e=>by rw [List.flatten_cons,List.nodup_append] at nd;simp at e;exact dA nd.2.1 e
theorem dl.inst {x dx C:Addr} {m:Str->Option Value} (I:dl h x dx C m) (hne:dx≠x):h.Inst x C m:=by
 obtain ⟨zz,h5⟩:=I;obtain ⟨o,h1,h2,h3,h4⟩:=zz
 exact ⟨o,h1,h2,h3,.inr ⟨dx,h4,hne,h5⟩⟩
theorem wu (W:Wd w base) {o:V} {co:Value} {f:Str} {expr:Bool} {Q:QV} (ro:VR w G O o co) (q:rB Z o f fun r=>Q r Z):bN w base fx U G O Z (getAttr co f expr) Q E:=by
 exists w,base,fx,U,G,O,Z,E,o,co,f,expr,Q,_ W ro q
 intro s S QQ EE hq he
 have bk:∀ b o,base.get? b=some o->s.heap.get? b=some o:=fun b o e=>S.sub b o (S.bs b o e)
 unfold rB at q
 split at q
 · rename_i C l
   split at q
   · rename_i x hx
     obtain ⟨c,q⟩:=ab.mp q
     rw [Bool.and_eq_true] at c
     obtain ⟨a,m,cs,rfl,I,hm,rs⟩:=ro
     obtain ⟨v,hv,rv⟩:=rs.lookZ hx
     exact gY (wK W bk c.1) (I _ S.sub) ((hm f).trans hv) (rv.notBuiltin c.2) (hq G O Z (.d x) v s.heap _ (Ext.refl ..) S (by unfold VR;exact rv) q)
   · exact q.elim
 · rename_i k
   split at q
   · rename_i C l own hk
     split at q
     · rename_i x hx
       obtain ⟨c,q⟩:=ab.mp q
       rw [Bool.and_eq_true] at c
       obtain ⟨fp,ek,cr⟩:=S.cells.at hk
       have nd:=dA S.nd ek
       obtain ⟨a,dx,as,m,rfl,I,hw,zz⟩:=cr;obtain ⟨hf,ho⟩:=zz
       unfold VR at ro
       rw [ro.2 a _ ek]
       have hne:dx≠a:=fun e=>by clear I ek q;subst e;simp at nd
       obtain ⟨v,hv,rv⟩:=hf.look hx
       exact gY (wK W bk c.1) (I.inst hne) hv (rv.notBuiltin c.2) (hq G O Z (.d x) v s.heap _ (Ext.refl ..) S (by unfold VR;exact rv) q)
     · exact q.elim
   · exact q.elim
 · exact q.elim
end
end Mine
namespace Mine
open PySem PySem.W PyProof.Rows PySem.SeqAt
section
variable {w:World} {base:Heap} {fx:Fx} {U:Loc} {G:PH} {O:Fp} {Z:List aa} {E:Str->List aa->Prop} {α β γ δ:Type} {h:Heap} {n:Nat} {N:aC} {J:Ev} {S:Tab}
theorem sP (I:aV w base n J) (ok:aE base n fx) (hN:FxN fx N) {t b o:Expr} {pos:Pos} {Q:QV}
  (q:J.te N t U Z (fun c Z1=>cnd c (J.ev N b U Z1 Q E) (J.ev N o U Z1 Q E)) E):bN w base fx U G O Z (eval (.IfExp t b o pos) fx.env) Q E:=by
 refine aH.to (aH.seq (P:=fun c QQ EE s=>if c then wpAny (model PR w) fx.A (eval b fx.env) QQ EE s else wpAny (model PR w) fx.A (eval o fx.env) QQ EE s) (fun QQ EE s h=>IfExp_ h) (I.te ok hN q) ?_)
 intro G' O' Z' c a x ix r q1
 have r':a=c:=r
 subst r'
 cases a with
 | true=>exact aH.of (I.ev ok hN (bw q1))
 | false=>exact aH.of (I.ev ok hN (aG q1))
theorem yH (I:aV w base n J) (ok:aE base n fx) (hN:FxN fx N) {x:Expr} {pos:Pos} {Q:QV}
  (q:J.ev N x U Z (fun v Z1=>match bbV v with
   | some b=>Q (.d (.bb (!b))) Z1
   | none=>False) E):bN w base fx U G O Z (eval (.UnaryOp .Not x pos) fx.env) Q E:=by
 refine aH.to (aH.seq (P:=fun v QQ EE s=>wpAny (model PR w) fx.A (unaryOp .Not v) QQ EE s) (fun QQ EE s h=>UnaryOp_ h) (I.ev ok hN q) ?_)
 intro G' O' Z' v a x ix r q1
 clear x;split at q1
 · rename_i b eb
   obtain rfl:=m8 eb
   have:=r.bb;clear r;subst this
   intro s S QQ EE hq he
   refine not_of (wpAny_truthy_bool ?_)
   exact hq G' O' Z' (.d (.bb (!b))) _ s.heap s.toks (Ext.refl ..) S (VR.mk_bb _) q1
 · exact q1.elim
theorem yI (I:aV w base n J) (ok:aE base n fx) (hN:FxN fx N) {x:Expr} {pos:Pos} {Q:QV}
  (q:J.ev N x U Z (fun v Z1=>match iiV v with
   | some i=>Q (.d (.ii (-i))) Z1
   | none=>False) E):bN w base fx U G O Z (eval (.UnaryOp .USub x pos) fx.env) Q E:=by
 refine aH.to (aH.seq (P:=fun v QQ EE s=>wpAny (model PR w) fx.A (unaryOp .USub v) QQ EE s) (fun QQ EE s h=>UnaryOp_ h) (I.ev ok hN q) ?_)
 intro G' O' Z' v a x ix r q1
 clear x;split at q1
 · rename_i i ei
   obtain rfl:=fy ei
   obtain ⟨t,rfl⟩:=r.ii
   intro s S QQ EE hq he
   refine PyProof.Rows.neg_int ?_
   exact hq G' O' Z' (.d (.ii (-i))) _ s.heap _ (Ext.refl ..) S (VR.mk_ii _ _) q1
 · exact q1.elim
theorem wA (I:aV w base n J) (ok:aE base n fx) (hN:FxN fx N) {x y:Expr} {pos:Pos} {Q:QV}
  (q:J.ev N x U Z (fun v Z1=>match bbV v with
   | some b=>cnd b (J.ev N y U Z1 Q E) (Q (.d (.bb b)) Z1)
   | none=>False) E):bN w base fx U G O Z (eval (.BoolOp .And [x,y] pos) fx.env) Q E:=by
 refine aH.to (aH.seq (P:=fun v QQ EE s=>wpAny (model PR w) fx.A (truthy v) (fun t s₂=>if t then wpAny (model PR w) fx.A (eval y fx.env) QQ EE s₂ else QQ v s₂) EE s) (fun QQ EE s h=>wpAny_And2 h) (I.ev ok hN q) ?_)
 intro G' O' Z' v a x ix r q1
 clear x;split at q1
 · rename_i b eb
   obtain rfl:=m8 eb
   have:=r.bb;subst this
   intro s S QQ EE hq he
   refine wpAny_truthy_bool ?_
   cases b with
   | true=>exact I.ev ok hN (bw q1) s S QQ EE hq he
   | false=>exact hq G' O' Z' (.d (.bb false)) _ s.heap s.toks (Ext.refl ..) S (VR.mk_bb _) (aG q1)
 · exact q1.elim
theorem yG (I:aV w base n J) (ok:aE base n fx) (hN:FxN fx N) {x y:Expr} {pos:Pos} {Q:QV}
  (q:J.ev N x U Z (fun v Z1=>match bbV v with
   | some b=>cnd b (Q (.d (.bb b)) Z1) (J.ev N y U Z1 Q E)
   | none=>False) E):bN w base fx U G O Z (eval (.BoolOp .Or [x,y] pos) fx.env) Q E:=by
 refine aH.to (aH.seq (P:=fun v QQ EE s=>wpAny (model PR w) fx.A (truthy v) (fun t s₂=>if t then QQ v s₂ else wpAny (model PR w) fx.A (eval y fx.env) QQ EE s₂) EE s) (fun QQ EE s h=>wpAny_Or2 h) (I.ev ok hN q) ?_)
 intro G' O' Z' v a x ix r q1
 clear x;split at q1
 · rename_i b eb
   obtain rfl:=m8 eb
   have:=r.bb;subst this
   intro s S QQ EE hq he
   refine wpAny_truthy_bool ?_
   cases b with
   | false=>exact I.ev ok hN (aG q1) s S QQ EE hq he
   | true=>exact hq G' O' Z' (.d (.bb true)) _ s.heap s.toks (Ext.refl ..) S (VR.mk_bb _) (bw q1)
 · exact q1.elim
theorem bM {n:Nat} (h:Nat.ble n 1048576=true):n<=sizeLine:=Nat.le_trans (Nat.le_of_ble_eq_true h) (by decide)
theorem sM (I:aV w base n J) (ok:aE base n fx) (hN:FxN fx N) {es:List Expr} {k:Nat} {pos:Pos} {Q:QV}
  (q:hB (J.ev N) es U Z (fun vs Z'=>grd (Nat.ble vs.length 1048576) (Q (xU vs) Z')) E):bN w base fx U G O Z (eval (.Tuple es k pos) fx.env) Q E:=by
 refine aH.to (aH.seq (P:=fun vs QQ EE s=>wpAny (model PR w) fx.A (newTuple vs) QQ EE s) (fun QQ EE s h=>Tuple_ h) (fX I ok hN q) ?_)
 intro G' O' Z' vs cs x ix r q1
 obtain ⟨c,q1⟩:=ab.mp q1
 exact aH.of (sF r (bM c) q1)
theorem ww (I:aV w base n J) (ok:aE base n fx) (hN:FxN fx N) {es:List Expr} {pos:Pos} {Q:QV}
  (q:hB (J.ev N) es U Z (fun vs Z'=>match qt vs with
  | some l=>grd (Nat.ble l.length 1048576) (Q (.ref Z'.length) (Z'++[.oc (.li l)]))
  | none=>False) E):bN w base fx U G O Z (eval (.List es pos) fx.env) Q E:=by
 refine aH.to (aH.seq (P:=fun vs QQ EE s=>wpAny (model PR w) fx.A (newList vs) QQ EE s) (fun QQ EE s h=>List_ h) (fX I ok hN q) ?_)
 intro G' O' Z' vs cs x ix r q1
 split at q1
 · rename_i l e
   obtain ⟨c,q1⟩:=ab.mp q1
   exact aH.of (wm r e (bM c) q1)
 · exact q1.elim
theorem yF (I:aV w base n J) (ok:aE base n fx) (hN:FxN fx N) {v i:Expr} {pos:Pos} {Q:QV} (hs:gV i=false)
  (q:J.ev N v U Z (fun o Z1=>J.ev N i U Z1 (fun k Z2=>yP Z2 o k fun r=>Q r Z2) E) E):bN w base fx U G O Z (eval (.Subscript v i pos) fx.env) Q E:=by
 refine aH.to (aH.seq (P:=fun o QQ EE s=>wpAny (model PR w) fx.A (eval i fx.env) (fun k s₂=>wpAny (model PR w) fx.A (subscriptTail v i o k) QQ EE s₂) EE s) (fun QQ EE s h=>Subscript_ h) (I.ev ok hN q) ?_)
 intro G' O' Z' o co x ix ro q1
 refine aH.seq (P:=fun k QQ EE s=>wpAny (model PR w) fx.A (subscriptTail v i co k) QQ EE s) (fun QQ EE s h=>h) (I.ev ok hN q1) ?_
 intro G'' O'' Z'' k ck x' ix' rk q2
 exact aH.of (yx hs (ro.mono x' ix') rk q2)
theorem kY (W:Wd w base) (I:aV w base n J) (ok:aE base n fx) (hN:FxN fx N) {v:Expr} {f:Str} {pos:Pos} {Q:QV} (hs:jo v=false)
  (q:J.ev N v U Z (fun o Z1=>rB Z1 o f fun r=>Q r Z1) E):bN w base fx U G O Z (eval (.Attribute v f pos) fx.env) Q E:=by
 refine aH.to (aH.seq (P:=fun o QQ EE s=>wpAny (model PR w) fx.A (getAttr o f true) QQ EE s) (fun QQ EE s h=>Attribute_any_ h (by rw [arm_eval_Attribute];clear h q;cases v <;> first | rfl | contradiction)) (I.ev ok hN q) ?_)
 intro G' O' Z' o co x ix ro q1
 exact aH.of (wu W ro q1)
theorem dC (ok:aE base n fx) (hN:FxN fx N) {x:Str} {pos:Pos} {v:V} {s:Shared} (S:St w base fx G O Z U s.heap) (hd:bi x=true) (hk:aN N x=true) (hv:U.lookup x=some v)
  {QQ:Value->Shared->Prop} {EE:Value->Shared->Prop} (h:∀ c tk,VR w G O v c->QQ c {s with toks:=tk}):wpAny (model PR w) fx.A (eval (.Name x pos) fx.env) QQ EE s:=by
 have hd':(x==("__debug__":Str))=false:=by simpa [bi] using hd
 have hkk:=hN.kind x
 unfold aN at hk
 split at hk
 · rename_i e
   obtain ⟨m,hn,hm⟩:=S.fr.ns
   obtain ⟨c,hc,r⟩:=hm x v hv (hkk.trans e)
   exact wpAny_Name (wpAny_loadName_local ok.kind (hkk.trans e) hn hc (h c s.toks r)) hd'
 · rename_i e
   obtain ⟨a,ha⟩:=hN.cell x e
   obtain ⟨co,hco,r⟩:=S.fr.ce (x,a) (bA ha)
   obtain ⟨c,rfl,r'⟩:=r v hv (hkk.trans e)
   exact wpAny_Name (wpAny_loadName_cell ok.kind (hkk.trans e) ha hco (h c s.toks r')) hd'
 · contradiction
theorem xM (W:Wd w base) (ok:aE base n fx) (hN:FxN fx N) {x f:Str} {pos pos':Pos} {k:Nat} {c:OC} {s:Shared} (S:St w base fx G O Z U s.heap) (hd:bi x=true) (hk:aN N x=true) (ho:ft U Z x f=some (k,c))
  {QQ:Value->Shared->Prop} {EE:Value->Shared->Prop} (h:∀ a tk,OCR w G s.heap c a->(∃ C l own fp,Z[k]?=some (.inst C l own)/\own.lookup f=some c/\O[k]?=some fp/\a∈fp)->QQ (.ref a) {s with toks:=tk}):
  wpAny (model PR w) fx.A (eval (.Attribute (.Name x pos) f pos') fx.env) QQ EE s:=by
 have bk:∀ b o,base.get? b=some o->s.heap.get? b=some o:=fun b o e=>S.sub b o (S.bs b o e)
 unfold ft at ho
 split at ho
 · rename_i k' hv
   split at ho
   · rename_i C l own hZ
     split at ho
     · rename_i ha
       split at ho
       · rename_i c' hl
         cases ho
         refine Attribute_Name_ ?_ (by rw [arm_eval_Attribute];rfl)
         refine dC ok hN S hd hk hv fun cv tk r=>?_
         obtain ⟨fp,ek,cr⟩:=S.cells.at hZ
         have nd:=dA S.nd ek
         obtain ⟨a,dx,as,m,rfl,I,hw,zz⟩:=cr;obtain ⟨hf,hown⟩:=zz
         unfold VR at r
         rw [r.2 a _ ek]
         have hne:dx≠a:=fun e=>by clear I ek;subst e;simp at nd
         obtain ⟨b,hb,hm,ro⟩:=hown.look hl
         exact gY (wK W bk ha) (I.inst hne) hm (fun id e=>by contradiction) (h b _ ro ⟨C,l,own,_,hZ,hl,ek,.tail _ (.tail _ hb)⟩)
       · contradiction
     · contradiction
   · contradiction
 · contradiction
theorem OCR.reads (S:Sim w base G O Z h) {l:List D} {a:Addr} (r:OCR w G h (.li l) a) (hl:PyData.canLayAll0 (pyL l)=true):∃ as,Reads h (.ref a) (D.li l).py as:=by
 obtain ⟨cs,p,rs⟩:=r
 obtain ⟨o,ho,h1,nn,h2⟩:=p.isList
 obtain ⟨as,z⟩:=DRs.reads S.sub rs hl
 exact ⟨_,.list ho h1 h2 (by simpa using z)⟩
theorem oj (W:Wd w base) (I:aV w base n J) (ok:aE base n fx) (hN:FxN fx N) {op:CmpOp} {l r:Expr} {Q:Bool->List aa->Prop} {K:Value->PT α} {P:PT α} {R:PH->Fp->β->α->Prop} {Q':β->List aa->Prop}
  (q:sW J N l op r U Z Q E)
  (rule:∀ QQ EE s,fw r=false->wpAny (model PR w) fx.A (eval l fx.env) (fun a s₁=>wpAny (model PR w) fx.A (eval r fx.env) (fun b s₂=>wpAny (model PR w) fx.A (compareOp op a b) (fun c s₃=>K c QQ EE s₃) EE s₂) EE s₁) EE s->P QQ EE s)
  (k:∀ G O Z b c,VR w G O (.d (.bb b)) c->Q b Z->aH w base fx U G O Z (K c) R Q' E):aH w base fx U G O Z P R Q' E:=by
 have plain:ql J N l op r U Z Q E->aH w base fx U G O Z P R Q' E:=fun q=>wo I ok hN q (fun QQ EE s h=>rule QQ EE s (by unfold ql at q;simpa using (ab.mp q).1) h) k
 have mn:∀ m j:Nat,j<=64->fx.A.units+min m j<cLine:=fun m j hj=>by have:min m j<=j:=Nat.min_le_right _ _;have:=ok.units;omega
 unfold sW at q
 cases e0:Cv l r with
 | none=>rw [e0] at q;exact plain q
 | some t=>
  rw [e0] at q
  obtain ⟨rfl,rfl⟩:=yO e0
  clear e0;obtain ⟨x,y,f,pf⟩:=t
  dsimp only at q
  cases ho:lF U Z x.1 f with
  | none=>rw [ho] at q;exact plain q
  | some pl=>
   rw [ho] at q
   dsimp only at q
   cases hy:U.lookup y.1 with
   | none=>rw [hy] at q;exact plain q
   | some v=>
    rw [hy] at q
    dsimp only at q
    split at q
    · rename_i d e
      split at q
      · rename_i b eb
        obtain ⟨c,q⟩:=ab.mp q
        simp only [Bool.and_eq_true] at c
        obtain ⟨zz,c7⟩:=c;obtain ⟨zy,c6⟩:=zz;obtain ⟨zx,c5⟩:=zy;obtain ⟨zw,c4⟩:=zx;obtain ⟨zv,c3⟩:=zw;obtain ⟨c1,c2⟩:=zv
        intro s S QQ EE hq he
        refine rule QQ EE s rfl (xM W ok hN S c1 c3 (nK ho) fun a tk ro _=>?_)
        refine dC (s:={s with toks:=tk}) ok hN S c2 c4 hy fun cv tk' rv=>?_
        obtain ⟨as,z⟩:=ro.reads S.toSim c5
        obtain ⟨bs,z'⟩:=VR.dOf S.toSim rv e c6
        have fin:=k _ _ _ _ _ (VR.mk_bb _) q {s with toks:=tk'} S QQ EE hq he
        cases op with
        | Eq=>clear q;cases eb;exact compareEq_reads (s:={s with toks:=tk'}) z z' c5 c6 (mn _ _ (Nat.le_of_ble_eq_true c7)) fin
        | NotEq=>clear q;cases eb;exact compareNe_reads (s:={s with toks:=tk'}) z z' c5 c6 (mn _ _ (Nat.le_of_ble_eq_true c7)) fin
        | _=>exact af eb
      · exact q.elim
    · exact q.elim
theorem ow (W:Wd w base) (I:aV w base n J) (ok:aE base n fx) (hN:FxN fx N) {op:CmpOp} {l r:Expr} {pos:Pos} {Q:QV}
  (q:sW J N l op r U Z (fun b Z'=>Q (.d (.bb b)) Z') E):bN w base fx U G O Z (eval (.Compare l [op] [r] pos) fx.env) Q E:=by
 refine aH.to (oj W I ok hN (K:=fun c QQ EE s=>QQ c s) q (fun QQ EE s hs h=>wpAny_Compare1 h (lU hs)) ?_)
 intro G O Z b c r q
 exact aH.ret (b:=.d (.bb b)) r q
theorem kU (W:Wd w base) (I:aV w base n J) (ok:aE base n fx) (hN:FxN fx N) {op:CmpOp} {l r:Expr} {pos:Pos} {whole:Sem Value} {Q:Bool->List aa->Prop}
  (q:sW J N l op r U Z Q E):nq w base fx U G O Z (isTrue (.Compare l [op] [r] pos) fx.env whole) Q E:=by
 refine aH.to (oj W I ok hN (K:=fun c QQ EE s=>wpAny (model PR w) fx.A (truthy c) QQ EE s) q (fun QQ EE s hs h=>wpAny_isTrue_Compare1 h (lU hs)) ?_)
 intro G O Z b c r q
 exact aH.of (j7 r rfl q)
theorem sG (I:aV w base n J) (ok:aE base n fx) (hN:FxN fx N) {x:Expr} {pos:Pos} {whole:Sem Value} {Q:Bool->List aa->Prop}
  (q:J.te N x U Z (fun b Z'=>Q (!b) Z') E):nq w base fx U G O Z (isTrue (.UnaryOp .Not x pos) fx.env whole) Q E:=by
 refine aH.to (aH.seq (P:=fun b QQ EE s=>QQ (!b) s) (fun QQ EE s h=>isTrue_not h) (I.te ok hN q) ?_)
 intro G' O' Z' c a x ix r q1
 have r':a=c:=r
 clear r x;subst r'
 exact aH.ret (b:=!a) rfl q1
theorem og (I:aV w base n J) (ok:aE base n fx) (hN:FxN fx N) {e:Expr} {Q:Bool->List aa->Prop}
  (he:isTrue e fx.env (eval e fx.env)=(do let v <- eval e fx.env;standAt e.pos;holding [v] (truthy v)))
  (q:J.ev N e U Z (fun v Z'=>match bbV v with
  | some b=>Q b Z'
  | none=>False) E):nq w base fx U G O Z (isTrue e fx.env (eval e fx.env)) Q E:=by
 refine aH.to (aH.seq (P:=fun v QQ EE s=>wpAny (model PR w) fx.A (truthy v) QQ EE s) (fun QQ EE s h=>isTrue_plain h he) (I.ev ok hN q) ?_)
 intro G' O' Z' c a x ix r q1
 split at q1
 · rename_i b e
   exact aH.of (j7 r (m8 e) q1)
 · exact q1.elim
end
end Mine
namespace Mine
open PySem PySem.W PyProof.Rows PySem.SeqAt
section
variable {w:World} {base:Heap} {fx:Fx} {U:Loc} {G:PH} {O:Fp} {Z:List aa} {E:Str->List aa->Prop} {α β γ δ:Type} {h h':Heap} {n:Nat} {N:aC} {J:Ev} {S:Tab}
theorem St.pk (S:St w base fx G O Z U h) (pk:∀ b o,h.get? b=some o->h'.get? b=some o):St w base fx G O Z U h'/\Ext [] fx.frs G O h G O h':=by
 refine ⟨{bs:=S.bs,sub:=fun b o e=>pk b o (S.sub b o e),cells:=S.cells.mono (Sub.refl _) fun a _ o e=>pk a o e,nd:=S.nd,out:=S.out,fr:=?_,oo:=S.oo,ond:=S.ond,fo:=S.fo,ff:=?_},?_⟩
 · exact S.fr.mono (Sub.refl _) (IxE.refl _) (fun a _ o e=>⟨o.slots,pk a o e⟩)
 · exact S.ff.of_keeps fun b o e _=>⟨o,pk b o e,rfl⟩
 · exact ⟨Sub.refl _,IxE.refl _,fun b o e=>⟨o,pk b o e⟩,fun b o e _ _ _=>pk b o e,fun b o e _ _ _=>⟨o.slots,pk b o e⟩,fun b hb=>.inl hb,fun b o e=>.inl e⟩
theorem St.adopt {G1:PH} {O1:Fp} {Z1:List aa} {h1:Heap} (S1:St w base fx G1 O1 Z1 U h1) (X:Ext [] fx.frs G O h G1 O1 h1) {fp:List Addr} {c:aa} (fresh:∀ a∈fp,h.get? a=none)
  (hD:∀ a∈fp,a∉O1.flatten/\G1 a=none/\a∉fx.own/\a∉fx.frs) (nd:fp.Nodup) (hc:be w G1 h' c fp) (ag:∀ b o,b∉fp->h1.get? b=some o->h'.get? b=some o) (dom:∀ b o,h1.get? b=some o->∃ o',h'.get? b=some o'):
  St w base fx G1 (O1++[fp]) (Z1++[c]) U h'/\Ext [] fx.frs G O h G1 (O1++[fp]) h':=by
 have fl:(O1++[fp]).flatten=O1.flatten++fp:=by simp
 have kp:∀ b o,(∃ o,h.get? b=some o)->h1.get? b=some o->h'.get? b=some o:=fun b o ⟨o',e'⟩ e=>ag b o (fun q=>by exact nS ((fresh b q).symm.trans e')) e
 refine ⟨{bs:=S1.bs,sub:=fun b o e=>ag b o (fun q=>by rw [(hD b q).2.1] at e;cases e) (S1.sub b o e),cells:=?_,nd:=?_,out:=?_,fr:=?_,oo:=?_,ond:=S1.ond,fo:=?_,ff:=?_},?_⟩
 · refine (S1.cells.mono (Sub.refl _) fun a ha o e=>ag a o (fun q=>(hD a q).1 ha) e).append ?_
   unfold aq;exact ⟨fp,[],rfl,hc,rfl⟩
 · rw [fl,List.nodup_append]
   exact ⟨S1.nd,nd,fun a ha b hb q=>by subst q;exact (hD a hb).1 ha⟩
 · intro a ha
   rw [fl] at ha
   rcases List.mem_append.mp ha with ha | ha
   · exact S1.out a ha
   · exact (hD a ha).2.1
 · exact S1.fr.mono (Sub.refl _) (IxE.append _ _) (fun a ha o e=>⟨o.slots,ag a o (fun q=>(hD a q).2.2.1 ha) e⟩)
 · refine fun a ha=>⟨(S1.oo a ha).1,fun q=>?_⟩
   rw [fl] at q
   rcases List.mem_append.mp q with q | q
   · exact (S1.oo a ha).2 q
   · exact (hD a q).2.2.1 ha
 · refine fun a ha=>⟨fun q=>?_,(S1.fo a ha).2⟩
   rw [fl] at q
   rcases List.mem_append.mp q with q | q
   · exact (S1.fo a ha).1 q
   · exact (hD a q).2.2.2 ha
 · have key:∀ {l:List Env},(∀ a∈l.filterMap (·.frame),a∉fp)->h1.FunFrames base l->h'.FunFrames base l:=by
    intro l
    induction l with
    | nil=>intro _ _;trivial
    | cons env r ih=>
     rintro hf ⟨k1,⟨L,o,k2,k3,k4,k5⟩,k6⟩
     have hm:L∈(env::r).filterMap (·.frame):=by rw [List.filterMap_cons,k2];exact .head _
     exact ⟨k1,⟨L,o,k2,k3,ag L o (hf L hm) k4,k5⟩,ih (fun a ha=>hf a (by rw [List.filterMap_cons,k2];exact .tail _ ha)) k6⟩
   exact key (fun a ha q=>(hD a q).2.2.2 ha) S1.ff
 · refine ⟨X.sub,X.ix.trans (IxE.append _ _),fun b o e=>?_,fun b o e h1' h2 h3=>kp b o ⟨o,e⟩ (X.keep b o e h1' h2 h3),fun b o e h1' h2 h3=>?_,fun b hb=>?_,X.newG⟩
   · obtain ⟨o',e'⟩:=X.dom b o e
     exact dom b o' e'
   · obtain ⟨sl,e'⟩:=X.slots b o e h1' h2 h3
     exact ⟨sl,kp b _ ⟨o,e⟩ e'⟩
   · rw [fl] at hb
     rcases List.mem_append.mp hb with hb | hb
     · exact X.newF b hb
     · exact .inr (fresh b hb)
theorem Ext.untold {G1:PH} {O1:Fp} {h0 h1:Heap} (S:St w base fx G O Z U h) (pk:∀ b o,h.get? b=some o->h0.get? b=some o) (X:Ext [] fx.frs G O h0 G1 O1 h1) {D:Addr} {o:Obj} (hD:h0.get? D=some o) (fresh:h.get? D=none):
  h1.get? D=some o/\D∉O1.flatten/\G1 D=none/\D∉fx.own/\D∉fx.frs:=by
 have h1':D∉O.flatten:=fun q=>by obtain ⟨o',e⟩:=S.cells.ex D q;rw [fresh] at e;contradiction
 have h2:D∉fx.frs:=fun q=>by obtain ⟨o',e⟩:=S.frs_ex D q;rw [fresh] at e;contradiction
 have h3:D∉fx.own:=fun q=>by obtain ⟨o',e⟩:=S.own_ex D q;exact nS (fresh.symm.trans e)
 have h4:G D=none:=by
  cases e:G D with
  | none=>rfl
  | some o'=>have:=S.sub _ _ e;exact nS (fresh.symm.trans this)
 refine ⟨X.keep D o hD h1' h2 (by simp),fun q=>?_,?_,h3,h2⟩
 · rcases X.newF D q with q | q
   · exact h1' q
   · exact nS (q.symm.trans hD)
 · cases e:G1 D with
   | none=>rfl
   | some o'=>
    rcases X.newG D o' e with q | q | q
    · exact nS (h4.symm.trans q)
    · exact nS (q.symm.trans hD)
    · exact absurd q h1'
noncomputable def gz:List Str->List (Value×Value)->List Value->Prop
 | [],[],[]=>True
 | s::ns,(k,c)::ps,c'::cs=>(∃ t,k=.str s t)/\c=c'/\gz ns ps cs
 | _,_,_=>False
theorem gz.carries:∀ {ns:List Str} {ps:List (Value×Value)} {cs:List Value},gz ns ps cs->Carries (strKind PR w) ps (List.zip ns cs)
 | [],[],[],_=>trivial
 | s::ns,(k,c)::ps,c'::cs,r=>by
  obtain ⟨zz,rfl,r⟩:=r;obtain ⟨t,rfl⟩:=zz
  exact ⟨strKind_is _ _ _ _,rfl,r.carries⟩
 | [],[],_::_,r=>r.elim
 | [],_::_,_,r=>r.elim
 | _::_,[],_,r=>r.elim
 | _::_,_::_,[],r=>r.elim
theorem sH (I:aV w base n J) (ok:aE base n fx) (hN:FxN fx N) {pos:Pos}:∀ {ks:List (Option Expr)} {names:List Str} {es:List Expr} {G:PH} {O:Fp} {Z:List aa} {Q:List V->List aa->Prop},jT ks=some names->names.length=es.length->hB (J.ev N) es U Z Q E->
  Den w base fx U G O Z (evalPairs (pairTrees ks es fx.env pos)) (fun G O vs ps=>∃ cs,VRs w G O vs cs/\gz names ps cs) Q E:=by
 exists w,base,fx,U,E,n,N,J,pos,_ I ok hN
 intro ks
 induction ks with
 | nil=>
  intro names es G O Z Q e hl q
  cases e
  obtain rfl:es=[]:=List.length_eq_zero_iff.mp hl.symm
  exact aH.to fun s S QQ EE hq _=>evalPairs_nil (hq G O Z [] [] s.heap s.toks (Ext.refl ..) S ⟨[],rfl,trivial⟩ q)
 | cons k ks ih=>
  intro names es G O Z Q e hl q
  obtain ⟨k,rfl,f1⟩:=aD e
  obtain ⟨zz,e1,f2⟩:=aD f1;obtain ⟨s,kd,p⟩:=zz
  obtain ⟨l,e',f3⟩:=aD f2
  clear f2;obtain rfl:=Option.some.inj f3
  clear e f1;obtain rfl:=qB e1
  cases es with
  | nil=>simp at hl
  | cons v es=>
   unfold hB at q
   obtain ⟨c,q⟩:=ab.mp q
   refine aH.to (aH.seq (t:=eval (.Constant (.str s) kd p) fx.env) (R:=VR w) (Q:=fun b Z'=>b=.d (.ss s)/\Z'=Z)
    (P:=fun kv QQ EE s₁=>wpAny (model PR w) fx.A (do let x <- eval v fx.env;standAt pos;pure x) (fun vv s₂=>wpAny (model PR w) fx.A (evalPairs (pairTrees ks es fx.env pos)) (fun vs s₃=>QQ ((kv,vv)::vs) s₃) EE s₂) EE s₁)
    (fun QQ EE s h=>evalPairs_cons h) (lR (E:=E) (x:=.ss s) rfl ⟨rfl,rfl⟩) ?_)
   rintro G' O' Z' b a x ix r ⟨rfl,rfl⟩
   obtain ⟨t,rfl⟩:=r.ss
   refine aH.seq (P:=fun vv QQ EE s₂=>wpAny (model PR w) fx.A (evalPairs (pairTrees ks es fx.env pos)) (fun vs s₃=>QQ ((.str s t,vv)::vs) s₃) EE s₂)
    (fun QQ EE s h=>wpAny_bind (wpAny_mono h (fun v s₁ h₁=>wpAny_bind (wpAny_standAt (wpAny_pure h₁))) fun _ _ x=>x)) (I.ev ok hN q) ?_
   intro G2 O2 Z2 b2 a2 x2 ix2 r2 q2
   refine aH.seq (P:=fun vs QQ EE s₃=>QQ ((.str s t,a2)::vs) s₃) (fun QQ EE s h=>h) (ih e' (by simpa using hl) q2) ?_
   clear q;rintro G3 O3 Z3 b3 a3 x3 ix3 ⟨cs,r3,p3⟩ q3
   refine aH.ret (b:=b2::b3) ⟨a2::cs,?_,⟨t,rfl⟩,rfl,p3⟩ q3
   exact ⟨a2,cs,rfl,r2.mono x3 ix3,r3⟩
theorem gp:∀ {l:List Str},eH l=true->l.Nodup
 | [],_=>List.nodup_nil
 | x::r,h=>by
  unfold eH at h
  rw [Bool.and_eq_true] at h
  exact List.nodup_cons.mpr ⟨fun q=>by simp [q] at h,gp h.2⟩
theorem jS:∀ {ks:List (Option Expr)} {names:List Str},jT ks=some names->ks.all (·.isSome)=true/\ks.length=names.length
 | [],_,e=>by cases e;exact ⟨rfl,rfl⟩
 | k::ks,names,e=>by
  obtain ⟨k,rfl,f1⟩:=aD e
  obtain ⟨s,e1,f2⟩:=aD f1
  obtain ⟨l,e',f3⟩:=aD f2
  clear f2 e f1;obtain rfl:=Option.some.inj f3
  obtain ⟨h1,h2⟩:=jS e'
  exact ⟨by simpa using h1,by simp [h2]⟩
theorem gz.lens:∀ {ns:List Str} {ps:List (Value×Value)} {cs:List Value},gz ns ps cs->cs.length=ns.length
 | [],[],[],_=>rfl
 | s::ns,(k,c)::ps,c'::cs,r=>by simp [gz.lens r.2.2]
 | [],[],_::_,r=>r.elim
 | [],_::_,_,r=>r.elim
 | _::_,[],_,r=>r.elim
 | _::_,_::_,[],r=>r.elim
theorem DRs.zip:∀ {ns:List Str} {l:List D} {cs:List Value},DRs w G l cs->ns.length=l.length->DRv w G (List.zip ns l) cs/\(List.zip ns l).map (·.1)=ns
 | [],[],cs,r,_=>by unfold DRs at r;subst r;exact ⟨rfl,rfl⟩
 | s::ns,d::l,cs,r,e=>by
  obtain ⟨c,r',rfl,x,y⟩:=r
  obtain ⟨h1,h2⟩:=DRs.zip (ns:=ns) y (by simpa using e)
  refine ⟨?_,by simp [h2]⟩
  simp only [List.zip_cons_cons]
  exact ⟨c,r',rfl,x,h1⟩
 | [],_::_,_,_,e=>by simp at e
 | _::_,[],_,_,e=>by simp at e
theorem eB {D:Addr} (hs:Heap.SameBut D h h') {o:Obj} (hD:h'.get? D=some o):∀ b o,h.get? b=some o->∃ o',h'.get? b=some o':=fun b o e=>by
 by_cases q:b=D
 · clear hs;subst q;exact ⟨_,hD⟩
 · exact ⟨o,(hs.2 b q).trans e⟩
theorem Wd.sys (W:Wd w base) (k:∀ b o,base.get? b=some o->h.get? b=some o):h.objs.size≠sysModules:=by
 have e:=W.K _ _ (wL w.params)
 have:=Heap.lt_size (k _ _ e)
 intro e
 rw [e] at this
 exact absurd this (by decide)
theorem wx (W:Wd w base) (I:aV w base n J) (ok:aE base n fx) (hN:FxN fx N) {ks:List (Option Expr)} {vs:List Expr} {pos:Pos} {Q:QV}
  (q:match jT ks with
  | some names=>grd (eH names&&Nat.beq names.length vs.length&&Nat.ble names.length 15) (hB (J.ev N) vs U Z (fun vs Z'=>match qt vs with
   | some l=>Q (.ref Z'.length) (Z'++[.oc (.di (List.zip names l))])
   | none=>False) E)
  | none=>False):bN w base fx U G O Z (eval (.Dict ks vs pos) fx.env) Q E:=by
 exists w,base,fx,U,G,O,Z,E,n,N,J,ks,vs,pos,Q,_ W I ok hN q
 split at q
 · rename_i names e;exists names,_ e q
   obtain ⟨c,q⟩:=ab.mp q
   simp only [Bool.and_eq_true] at c
   obtain ⟨zz,c3⟩:=c;obtain ⟨c1,c2⟩:=zz
   have hnd:=gp c1
   have hlen:=Nat.eq_of_beq_eq_true c2
   have hle:=Nat.le_of_ble_eq_true c3
   obtain ⟨hall,hkl⟩:=jS e
   intro s S QQ EE hq he;exists s,QQ,EE,_ S hq he
   have fresh:=aW s.heap
   have pk:∀ b o,s.heap.get? b=some o->(s.heap.push {cls:=.type "dict",data:=.dict #[]}).get? b=some o:=fun b o e=>Heap.get?_push_of_some _ e
   have hD0:(s.heap.push {cls:=.type "dict",data:=.dict #[]}).get? s.heap.objs.size=some {cls:=.type "dict",data:=.dict #[]}:=Heap.get?_push_size _ rfl
   obtain ⟨S0,X0⟩:=S.pk pk
   have hds:=W.sys (h:=s.heap) fun b o e=>S.sub b o (S.bs b o e)
   have hnew:=Heap.DictOf.new (knd:=strKind PR w) s.heap
   by_cases hk0:ks=[]
   · clear hall;subst hk0
     clear hkl hle hnd c1 c3;cases e
     clear c2;obtain rfl:vs=[]:=List.length_eq_zero_iff.mp hlen.symm
     replace q:Q _ _:=q
     refine wpAny_Dict_empty ?_
     obtain ⟨S',x⟩:=S.newCell (c:=.oc (.di [])) (fp:=[s.heap.objs.size]) pk (by
      exact ⟨_,rfl,hds,[],hnew,rfl⟩) (fun a ha=>by rw [List.mem_singleton] at ha;clear q;subst ha;exact fresh) (by simp)
     refine hq G _ _ (.ref Z.length) _ _ s.toks x S' ?_ q
     unfold VR
     have hl:=S.cells.len
     refine ⟨by simp [hl],fun a r e=>?_⟩
     rw [<- hl,List.getElem?_append_right (Nat.le_refl _)] at e
     simp at e
     rw [e.1]
   · refine wpAny_Dict_walk (knd:=strKind PR w) hall (hkl.trans hlen) hk0 (by omega) ?_
     refine sH I ok hN e hlen q {s with heap:=s.heap.push {cls:=.type "dict",data:=.dict #[]}} S0 _ _ (fun G1 O1 Z1 vs1 ps1 h1 tk X1 S1 r1 q1=>?_) (fun G1 O1 Z1 why x1 h1 tk X1 S1 r1 q1=>?_)
     · clear q;obtain ⟨cs,rv,pr⟩:=r1
       obtain ⟨on,esn,epn,hon,hzn⟩:=hnew
       obtain ⟨u1,u2,u3,u4,u5⟩:=Ext.untold S pk X1 hon fresh
       dsimp only at q1
       split at q1
       · rename_i l el
         have rl:=VRs.allD rv el
         have hcl:=pr.lens
         have hll:names.length=l.length:=by rw [<- rl.len,hcl]
         obtain ⟨dv,dk⟩:=rl.zip hll
         refine ⟨List.zip names cs,pr.carries,⟨on,esn,epn,u1,hzn⟩,fun h' hd hs=>?_⟩
         rw [merged_nil_of_nodup _ (by rw [List.map_fst_zip (by rw [hcl];exact Nat.le_refl _)];exact hnd)] at hd
         have hDo:∃ o,h'.get? s.heap.objs.size=some o:=by obtain ⟨o,_,_,ho,_⟩:=hd;exact ⟨o,ho⟩
         obtain ⟨oD,hDo⟩:=hDo
         obtain ⟨S2,X2⟩:=St.adopt (fp:=[s.heap.objs.size]) (c:=.oc (.di (List.zip names l))) (h':=h') S1 (X0.trans X1) (fun a ha=>by rw [List.mem_singleton] at ha;subst ha;exact fresh)
          (fun a ha=>by rw [List.mem_singleton] at ha;subst ha;exact ⟨u2,u3,u4,u5⟩) (by simp) (by
           refine ⟨_,rfl,hds,cs,?_,dv⟩
           rw [dk];exact hd) (fun b o hb e=>(hs.2 b (by simpa using hb)).trans e) (eB hs hDo)
         refine hq G1 _ _ (.ref Z1.length) _ _ _ X2 S2 ?_ q1
         unfold VR
         have hl:=S1.cells.len
         refine ⟨by simp [hl],fun a r e=>?_⟩
         rw [<- hl,List.getElem?_append_right (Nat.le_refl _)] at e
         simp at e
         rw [e.1]
       · exact q1.elim
     · exact he G1 O1 Z1 why x1 h1 tk (X0.trans X1) S1 (r1.weaken X0.dom) q1
 · exact q.elim
end
end Mine
namespace Mine
open PySem PySem.W PyProof.Rows PySem.SeqAt
section
variable {w:World} {base:Heap} {fx:Fx} {U:Loc} {G:PH} {O:Fp} {Z:List aa} {E:Str->List aa->Prop} {α β γ δ:Type} {h h':Heap} {n:Nat} {N:aC} {J:Ev} {S:Tab}
theorem DRs.ints:∀ {l:List D} {cs:List Value} {ns:List Int},DRs w G l cs->cZ l=some ns->IntsAre cs ns
 | [],cs,ns,r,e=>by obtain rfl:=Option.some.inj e;unfold DRs at r;subst r;exact .nil
 | d::l,cs,ns,r,e=>by
  obtain ⟨c,r',rfl,x,y⟩:=r
  obtain ⟨i,e1,f⟩:=aD e
  obtain ⟨l',e2,f⟩:=aD f
  obtain rfl:=Option.some.inj f
  clear f e;obtain rfl:=jW e1
  obtain ⟨t,rfl⟩:=x
  exact .cons i t (DRs.ints y e2)
theorem xt (l:List Int):jv l=l.sum:=by
 induction l with
 | nil=>rfl
 | cons a l ih=>show a+jv l=_;rw [ih];simp
theorem yz (ok:aE base n fx) {v:V} {c:Value} {m:Nat} {Q:QV} (r:VR w G O v c) (e:vD Z v=some m) (hm:m<=16777216) (q:Q (.d (.ii m)) Z):bN w base fx U G O Z (call (.builtin "len") [c]) Q E:=by
 intro s S QQ EE hq he
 have fin:∀ tk t,QQ (.int m t) {s with toks:=tk}:=fun tk t=>hq G O Z (.d (.ii m)) _ s.heap tk (Ext.refl ..) S (VR.mk_ii _ _) q
 have li:∀ l,cm Z v=some l->m=l.length->wpAny (model PR w) fx.A (call (.builtin "len") [c]) QQ EE s:=fun l e1 e2=>by
  obtain ⟨a,cs,rfl,il,rs⟩:=VR.listOf S.toSim r e1
  clear q e;subst e2
  refine Calls.call_len_list il (by rw [List.size_toArray,rs.len];omega) ?_
  rw [List.size_toArray,rs.len]
  exact fin _ _
 obtain ⟨d,e1,e2⟩:=aD e
 cases v with
 | d x=>
  cases Option.some.inj e1
  cases d with
  | li l=>exact li l rfl (Option.some.inj e2).symm
  | tu l=>
   clear e q;obtain rfl:=Option.some.inj e2
   clear li;obtain ⟨a,cs,rfl,g,rs⟩:=r
   refine P.len_tuple (n:=0) (items:=cs.toArray) (S.sub _ _ g) (by rw [List.size_toArray,rs.len];omega) ?_
   rw [List.size_toArray,rs.len]
   exact fin _ _
  | ba b=>
   clear e q;obtain rfl:=Option.some.inj e2
   clear li;obtain ⟨a,k,rfl,g⟩:=r
   exact BB (S.sub _ _ g) hm fun tk t=>fin tk t
  | _=>exact af e2
 | ref k=>
  obtain ⟨l,rfl,z⟩:=jq e1
  exact li l z (Option.some.inj e2).symm
 | _=>exact af e1
theorem yw (ok:aE base n fx) {v:V} {c:Value} {l:List D} {ns:List Int} {Q:QV} (r:VR w G O v c) (e:cm Z v=some l) (e2:cZ l=some ns) (q:Q (.d (.ii (jv ns))) Z):bN w base fx U G O Z (call (.builtin "sum") [c]) Q E:=by
 intro s S QQ EE hq he
 obtain ⟨a,cs,rfl,il,rs⟩:=VR.listOf S.toSim r e
 have hi:=rs.ints e2
 obtain ⟨xs,hx⟩:=hi.allInts.items
 have hl':s.heap.IsList a (intItems xs):=hx▸il
 refine sum_intListG ok.hand hl' fun h' tk t' hk=>?_
 have e1:ns=xs.toList.map (·.1):=by
  rw [<- nums_intItems,<- hx]
  exact (show numsOf cs.toArray.toList=ns from hi.numsOf).symm
 have e2:preSum (numAt xs) xs.size=jv ns:=by
  rw [preSum_eq,List.take_of_length_le (by simp),e1,xt]
 rw [e2]
 clear e2;obtain ⟨S',x⟩:=S.pk hk
 exact hq G O Z (.d (.ii (jv ns))) _ h' tk x S' (VR.mk_ii _ _) q
theorem mU (ok:aE base n fx) {id:String} {vs:List V} {cs:List Value} {Q:QV} (rs:VRs w G O vs cs) (q:kz id Z vs fun v=>Q v Z):bN w base fx U G O Z (call (.builtin id) cs) Q E:=by
 exists w,base,fx,U,G,O,Z,E,n,id,vs,cs,Q,_ ok rs q
 unfold kz at q
 split at q
 · rename_i v e0
   obtain rfl:=cq e0
   obtain ⟨c,r',rfl,x,y⟩:=rs
   unfold VRs at y;subst y
   rcases yN q with ⟨hd,q⟩ | ⟨-,q⟩
   · obtain rfl:=of_decide_eq_true hd
     split at q
     · rename_i m e
       obtain ⟨c1,q⟩:=ab.mp q
       exact yz ok x e (Nat.le_of_ble_eq_true c1) q
     · exact q.elim
   · obtain ⟨hd,q2⟩:=ab.mp q
     clear q
     clear q;obtain rfl:=of_decide_eq_true hd
     split at q2
     · rename_i ns e
       obtain ⟨l,e,e2⟩:=aD e
       exact yw ok x e e2 q2
     · exact q2.elim
 · exact q.elim
theorem sJ (ok:aE base n fx) {T:String} {vs:List V} {cs:List Value} {Q:QV} (rs:VRs w G O vs cs) (q:wU T Z vs fun v=>Q v Z):bN w base fx U G O Z (call (.type T) cs) Q E:=by
 exists w,base,fx,U,G,O,Z,E,n,T,vs,cs,Q,_ ok rs q
 unfold wU at q
 split at q
 · rename_i v e0
   obtain rfl:=cq e0
   obtain ⟨c,r',rfl,x,y⟩:=rs
   unfold VRs at y;subst y
   intro s S QQ EE hq he
   rcases yN q with ⟨hd,q⟩ | ⟨-,q⟩
   · obtain rfl:=of_decide_eq_true hd
     split at q
     · rename_i m e
       clear e0;obtain rfl:=fy e
       obtain ⟨t,rfl⟩:=x.ii
       refine call_range_1 ?_
       obtain ⟨S',X⟩:=S.push {cls:=.type "range",data:=.fields #[.int 0 s.toks,.int m t,.int 1 (s.toks+1)]} rfl
       refine hq _ O Z (.rng 0 m) _ _ _ X S' ?_ (ab.mp q).2
       exact ⟨_,_,_,_,rfl,cz ..⟩
     · exact q.elim
   · rcases yN q with ⟨hd,q⟩ | ⟨-,q⟩
     · obtain rfl:=of_decide_eq_true hd
       split at q
       · rename_i l e
         obtain ⟨c1,q⟩:=ab.mp q
         obtain ⟨a,cs,rfl,il,rs⟩:=VR.listOf S.toSim x e
         refine call_tuple_list il (fun h' hk=>?_) (by rw [List.size_toArray,rs.len];exact bM c1)
         obtain ⟨S1,X1⟩:=S.pk hk
         obtain ⟨S2,X2⟩:=S1.push (jt cs) rfl
         refine hq _ O Z (.d (.tu l)) _ _ s.toks (X1.trans X2) S2 ?_ q
         exact ⟨_,cs,rfl,cz ..,rs.mono X2.sub⟩
       · exact q.elim
     · obtain ⟨hd,q2⟩:=ab.mp q
       clear q
       clear q;obtain rfl:=of_decide_eq_true hd
       split at q2
       · rename_i ns e
         obtain ⟨l,e,e2⟩:=aD e
         obtain ⟨c1,q⟩:=ab.mp q2
         rw [Bool.and_eq_true] at c1
         obtain ⟨a,cs,rfl,il,rs⟩:=VR.listOf S.toSim x e
         have hi:=rs.ints e2
         refine call_bytes_ints il hi (fun m hm=>?_) (by rw [hi.length];exact bM c1.2) ok.hand fun h' t k hk=>?_
         · have:=List.all_eq_true.mp c1.1 m hm
           unfold ko at this
           rw [Bool.and_eq_true] at this
           exact ⟨ak.mp this.1,cH.mp this.2⟩
         · clear e;obtain ⟨S1,X1⟩:=S.pk hk
           refine hq _ O Z (.d (.bs (byteArr ns))) _ _ k X1 S1 ?_ q
           exact ⟨t,rfl⟩
       · exact q2.elim
 · exact q.elim
theorem sK (SO:SOk w base n S) (ok:aE base n fx) {f:V} {cf:Value} {vs:List V} {cs:List Value} {Q:QV} (rf:VR w G O f cf) (rs:VRs w G O vs cs) (q:lX S Z f vs Q E):
  bN w base fx U G O Z (call cf cs) Q E:=by
 unfold lX at q
 split at q
 · rename_i c e0
   obtain rfl:=vS e0
   unfold VR DR at rf;subst rf
   cases cf with
   | ref a=>
    dsimp only at q
    split at q
    · rename_i sp e
      exact wq ok (SO a sp e).1 rs q
    · exact q.elim
   | builtin id=>exact mU ok rs q
   | type T=>exact sJ ok rs q
   | _=>exact q.elim
 · exact q.elim
theorem ni (W:Wd w base) (SO:SOk w base n S) {M:Model} {f:V} {cf:Value} {vs:List V} {Q:QV} (rf:VR w G O f cf) (q:lX S Z f vs Q E) (X:(MineH.hd.heap_1 w.params).In h):
  ∃ k,(k=Keeper.frame\/k=Keeper.machine\/k=Keeper.boundFrame)/\Looks M h (keeperOf cf) k:=by
 unfold lX at q
 split at q
 · rename_i c e0
   obtain rfl:=vS e0
   unfold VR DR at rf;subst rf
   cases cf with
   | ref a=>
    dsimp only at q
    split at q
    · rename_i sp e
      exact keeps_K (SO a sp e).2 h X
    · exact q.elim
   | builtin id=>exact ⟨.machine,.inr (.inl rfl),.now⟩
   | type T=>exact ⟨.machine,.inr (.inl rfl),.now⟩
   | _=>exact q.elim
 · exact q.elim
theorem eI {env:Env} {pos:Pos}:∀ {es:List Expr},dR es=true->(backTo pos (starEach es env)).any (·.1)=false
 | [],_=>rfl
 | e::es,h=>by
  unfold dR at h
  rw [List.all_cons,Bool.and_eq_true] at h
  rw [bj (by simpa using h.1)]
  show (false||(backTo pos (starEach es env)).any (·.1))=false
  rw [eI h.2];rfl
theorem e8 {f:Expr} {args:List Expr} {pos:Pos} {env:Env} (h:eP f=false):eval (.Call f args [] pos) env=(do callWith pos (<- eval f env) [] (backTo pos (starEach args env)) (backToKw pos (keywordEach [] env))):=by
 cases f <;> first | rfl | exact iL h
theorem wz (W:Wd w base) (SO:SOk w base n S) (I:aV w base n J) (ok:aE base n fx) (hN:FxN fx N) {f:Expr} {args:List Expr} {pos:Pos} {Q:QV} (hf:eP f=false) (hs:dR args=true)
  (q:J.ev N f U Z (fun fv Z1=>hB (J.ev N) args U Z1 (fun vs Z2=>lX S Z2 fv vs Q E) E) E):bN w base fx U G O Z (eval (.Call f args [] pos) fx.env) Q E:=by
 refine aH.to (aH.seq (P:=fun cf QQ EE s=>wpAny (model PR w) fx.A (callWith pos cf [] (backTo pos (starEach args fx.env)) []) QQ EE s) (fun QQ EE s h=>Call_ h (e8 hf)) (I.ev ok hN q) ?_)
 intro G' O' Z' fv cf x ix rf q1
 have key:aH w base fx U G' O' Z' (fun QQ EE s=>wpAny (model PR w) fx.A (evalArgs cf true (backTo pos (starEach args fx.env)) [])
   (fun a s₁=>(∃ k,(k=Keeper.frame\/k=Keeper.machine\/k=Keeper.boundFrame)/\Looks (model PR w) s₁.heap (keeperOf cf) k)/\wpAny (model PR w) fx.A (call cf ([]++a.pos) a.kw) QQ EE s₁) EE s) (VR w) Q E:=by
  refine aH.seq (P:=fun cs QQ EE s₁=>(∃ k,(k=Keeper.frame\/k=Keeper.machine\/k=Keeper.boundFrame)/\Looks (model PR w) s₁.heap (keeperOf cf) k)/\wpAny (model PR w) fx.A (call cf cs) QQ EE s₁)
   (fun QQ EE s h=>?_) (fX (pos:=pos) I ok hN q1) ?_
  · cases args with
    | nil=>
     unfold evalArgs
     show wpAny (model PR w) fx.A (spliced []>>=_) _ _ _
     refine wpAny_bind (wpAny_mono (show wpAny (model PR w) fx.A (spliced []) _ EE s from h) (fun cs s' h'=>?_) fun _ _ x=>x)
     refine wpAny_bind (wpAny_pure (wpAny_holding ?_))
     exact wpAny_bind (wpAny_pure (wpAny_bind (wpAny_pure (wpAny_pure h'))))
    | cons e rest=>
     unfold dR at hs
     rw [List.all_cons,Bool.and_eq_true] at hs
     have he:=bj (rest:=rest) (env:=fx.env) (e:=e) (by simpa using hs.1)
     rw [he] at h ⊢
     exact Calls.evalArgs_plain h
  · intro G'' O'' Z'' vs cs x' ix' rs q2
    intro s S QQ EE hq he
    refine ⟨ni W SO (rf.mono x' ix') q2 (W.K.keeps fun b o e=>S.sub b o (S.bs b o e)),?_⟩
    exact sK SO ok (rf.mono x' ix') rs q2 s S QQ EE hq he
 intro s S QQ EE hq he
 exact callWith_of (P:=fun h=>∃ k,(k=Keeper.frame\/k=Keeper.machine\/k=Keeper.boundFrame)/\Looks (model PR w) h (keeperOf cf) k)
  (by rw [eI hs];rfl) (fun h p=>p) (key s S QQ EE hq he)
end
end Mine
namespace Mine
open PySem PySem.W PyProof.Rows PySem.SeqAt
section
variable {w:World} {base:Heap} {fx:Fx} {U:Loc} {G:PH} {O:Fp} {Z:List aa} {E:Str->List aa->Prop} {α β γ δ:Type} {h h':Heap} {n:Nat} {N:aC} {J:Ev} {S:Tab}
theorem qS {v:V} {c:Value} {p:Option Int} (r:VR w G O v c) (e:jE v=some p):IsPart c p/\∃ l:Option (Int×Tok),c=partValue l/\l.map (·.1)=p:=by
 cases v with
 | d d=>cases d with
  | nn=>
   obtain rfl:=Option.some.inj e
   have:=r.nn;clear r;subst this
   exact ⟨.none,none,rfl,rfl⟩
  | ii i=>
   obtain rfl:=Option.some.inj e
   obtain ⟨t,rfl⟩:=r.ii
   exact ⟨.int i t,some (i,t),rfl,rfl⟩
  | _=>exact af e
 | _=>exact af e
theorem oh (I:aV w base n J) (ok:aE base n fx) (hN:FxN fx N) {lo:Option Expr} {k:V->List aa->Prop}
  (q:vd (J.ev N · U) lo Z k E):bN w base fx U G O Z (evalPart lo fx.env) k E:=by
 cases lo with
 | none=>exact Den.pure (b:=.d .nn) q VR.mk_nn
 | some e=>exact I.ev ok hN q
theorem mY (i:Option Int) (n:Nat) (h:eF i=true):kms_lo i n=dN i n/\kms_hi i n=fE i n:=by
 cases i with
 | none=>exact ⟨rfl,rfl⟩
 | some i=>
  unfold eF at h
  rw [Bool.and_eq_true] at h
  have h0:=ak.mp h.1
  have:¬ i<0:=by omega
  simp [kms_lo,kms_hi,dN,fE,this]
theorem DRs.drop:∀ {ds:List D} {cs:List Value} (k:Nat),DRs w G ds cs->DRs w G (ds.drop k) (cs.drop k)
 | _,_,0,r=>r
 | [],cs,k+1,r=>by unfold DRs at r;subst r;rfl
 | d::ds,cs,k+1,r=>by unfold DRs at r;obtain ⟨c,r',rfl,_,y⟩:=r;exact DRs.drop k y
theorem DRs.take:∀ {ds:List D} {cs:List Value} (k:Nat),DRs w G ds cs->DRs w G (ds.take k) (cs.take k)
 | _,_,0,r=>by rw [List.take_zero,List.take_zero];rfl
 | [],cs,k+1,r=>by unfold DRs at r;subst r;rfl
 | d::ds,cs,k+1,r=>by
  obtain ⟨c,r',rfl,x,y⟩:=r
  show DRs w G (d::ds.take k) (c::r'.take k)
  exact ⟨c,_,rfl,x,DRs.take k y⟩
theorem ub (ok:aE base n fx) {v:Expr} {lo up:Option Expr} {p:Pos} {o a b:V} {co ca cb:Value} {l u:Option Int} {Q:QV} (hv:jU v=true) (ro:VR w G O o co) (ra:VR w G O a ca) (rb:VR w G O b cb) (ea:jE a=some l) (eb:jE b=some u)
  (q:CG Z o l u fun r=>Q r Z):aH w base fx U G O Z (fun QQ EE s=>wpAny (model PR w) fx.A (subscriptTail v (.Slice lo up none p) co (.ref s.heap.objs.size)) QQ EE {s with heap:=s.heap.push {cls:=.type "slice",data:=.fields #[ca,cb,.none]}}) (VR w) Q E:=by
 intro s S QQ EE hq he
 have hs:∀ o i,subscripted (.Slice lo up none p) false o i=operate [i,o] (getItem o i):=fun o i=>by with_unfolding_all rfl
 have ht:∀ o r,letTemporaryGo v o r=pure ():=fun o r=>by cases v <;> first | rfl | exact aX hv
 obtain ⟨pa,la,ea1,ea2⟩:=qS ra ea
 obtain ⟨pb,lb,eb1,eb2⟩:=qS rb eb
 obtain ⟨S0,X0⟩:=S.pk (h':=s.heap.push {cls:=.type "slice",data:=.fields #[ca,cb,.none]}) fun b o e=>Heap.get?_push_of_some _ e
 unfold CG at q
 replace q:=ab.mp q
 obtain ⟨cf,q⟩:=q
 rw [Bool.and_eq_true] at cf
 cases o with
 | d d=>cases d with
  | li m=>
   obtain ⟨c,q⟩:=ab.mp q
   obtain ⟨x,cs,rfl,il,rs⟩:=VR.listOf S0.toSim ro (l:=m) rfl
   have hz:cs.toArray.size<=sizeLine:=by rw [List.size_toArray,rs.len];exact bM c
   refine subscriptTail_ops (Heap.IsList.typeIs (s:={s with heap:=s.heap.push {cls:=.type "slice",data:=.fields #[ca,cb,.none]}}) il) list_getitem_lookup
    (wpAny_getItem_list_slice il (Heap.IsSliceOf.new ..) pa pb .none (by simp) ?_ hz) (hs _ _) (ht _)
   obtain ⟨S1,X1⟩:=S0.push {cls:=.type "list",data:=.seq (slicePick cs.toArray l u none)} rfl
   refine hq _ O Z (.d (.li ((m.drop (dN l m.length)).take (fE u m.length - dN l m.length)))) _ _ s.toks (X0.trans X1) S1 ?_ q
   refine ⟨_,_,_,0,rfl,cz ..,rfl,by rw [kms_pick_eq],?_⟩
   show DRs w _ _ (kms_pick cs l u)
   unfold kms_pick
   rw [rs.len,(mY l _ cf.1).1,(mY u _ cf.2).2]
   exact ((rs.drop _).take _).mono X1.sub
  | ba m=>
   obtain ⟨c,q⟩:=ab.mp q
   obtain ⟨x,k,rfl,g⟩:=ro
   have g':=S0.sub _ _ g
   refine subscriptTail_ops (T:="bytearray") ⟨_,g',rfl⟩ cX.lookup
    (t8 g' (Heap.IsSliceOf.new ..) pa pb (Nat.le_of_ble_eq_true c) ?_) (hs _ _) (ht _)
   obtain ⟨S1,X1⟩:=S0.push (baO (m.extract (kms_lo l m.size) (kms_hi u m.size)) 0) rfl
   refine hq _ O Z (.d (.ba (m.extract (dN l m.size) (fE u m.size)))) _ _ s.toks (X0.trans X1) S1 ?_ q
   refine ⟨_,0,rfl,?_⟩
   rw [<- (mY l m.size cf.1).1,<- (mY u m.size cf.2).2]
   exact cz ..
  | ss m=>
   obtain ⟨c,q⟩:=ab.mp q
   rw [Bool.and_eq_true] at c
   obtain ⟨t,rfl⟩:=ro.ss
   refine subscriptTail_ops (T:="str") (typeIs_str _ m t) F.slot_str_getitem.lookup
    (wpAny_getItem_str_slice (l:=la) (u:=lb) (st:=none) ⟨_,Heap.get?_push_size _ rfl,rfl,by rw [ea1,eb1];rfl⟩ rfl ?_) (hs _ _) (ht _)
   unfold sliceMade slicePicked
   have hne:((((none:Option (Int×Tok)).map (·.1)).getD 1==1&&(Builtin.Str.strSliceIndices (la.map (·.1)) (lb.map (·.1)) (((none:Option (Int×Tok)).map (·.1)).getD 1) m.length).length==m.length))=false:=by
    rw [ea2,eb2]
    have:=c.2
    rw [Bool.not_eq_true'] at this
    have h2:=Nat.ne_of_beq_eq_false this
    simpa using h2
   rw [if_neg (by rw [hne];decide),ea2,eb2]
   have hlen:Str.length ⟨((Builtin.Str.strSliceIndices l u 1 m.length).filterMap (m.cps[·]?)).toArray⟩<=(Builtin.Str.strSliceIndices l u 1 m.length).length:=by
    show (List.toArray _).size<=_
    rw [List.size_toArray]
    exact List.length_filterMap_le ..
   exact ⟨Nat.le_trans hlen (bM c.1),hq G O Z (.d (.ss _)) _ _ _ X0 S0 (VR.mk_ss _ _) q⟩
  | _=>exact q.elim
 | _=>exact q.elim
theorem sN (I:aV w base n J) (ok:aE base n fx) (hN:FxN fx N) {v:Expr} {lo up:Option Expr} {p pos:Pos} {Q:QV}
  (q:grd (jU v) (J.ev N v U Z (fun o Z1=>
   vd (J.ev N · U) lo Z1 (fun a Z2=>vd (J.ev N · U) up Z2 (uc Q o a) E) E) E)):bN w base fx U G O Z (eval (.Subscript v (.Slice lo up none p) pos) fx.env) Q E:=by
 obtain ⟨hv,q⟩:=ab.mp q
 refine aH.to (aH.seq (P:=fun o QQ EE s=>wpAny (model PR w) fx.A (eval (.Slice lo up none p) fx.env) (fun k s₂=>wpAny (model PR w) fx.A (subscriptTail v (.Slice lo up none p) o k) QQ EE s₂) EE s) (fun QQ EE s h=>Subscript_ h) (I.ev ok hN q) ?_)
 intro G' O' Z' o co x ix ro q1
 refine aH.seq (P:=fun ca QQ EE s₁=>wpAny (model PR w) fx.A (evalPart up fx.env) (fun cb s₂=>
   wpAny (model PR w) fx.A (subscriptTail v (.Slice lo up none p) co (.ref s₂.heap.objs.size)) QQ EE {s₂ with heap:=s₂.heap.push {cls:=.type "slice",data:=.fields #[ca,cb,.none]}}) EE s₁)
  (fun QQ EE s h=>wpAny_Slice (wpAny_mono h (fun l s₁ h₁=>wpAny_mono h₁ (fun u s₂ h₂=>?_) fun _ _ x=>x) fun _ _ x=>x)) (oh I ok hN q1) ?_
 · rw [evalPart_none]
   exact wpAny_pure h₂
 intro G2 O2 Z2 a ca x2 ix2 ra q2
 refine aH.seq (P:=fun cb QQ EE s₂=>
   wpAny (model PR w) fx.A (subscriptTail v (.Slice lo up none p) co (.ref s₂.heap.objs.size)) QQ EE {s₂ with heap:=s₂.heap.push {cls:=.type "slice",data:=.fields #[ca,cb,.none]}})
  (fun QQ EE s h=>h) (oh I ok hN q2) ?_
 intro G3 O3 Z3 b cb x3 ix3 rb q3
 unfold uc at q3
 clear q;split at q3
 · rename_i l ea
   split at q3
   · rename_i u eb
     exact ub ok hv ((ro.mono x2 ix2).mono x3 ix3) (ra.mono x3 ix3) rb ea eb q3
   · exact q3.elim
 · exact q3.elim
end
end Mine
namespace Mine
open PySem PySem.W PyProof.Rows PySem.SeqAt
section
variable {w:World} {base:Heap} {fx:Fx} {U:Loc} {G:PH} {O:Fp} {Z:List aa} {E:Str->List aa->Prop} {α β γ δ:Type} {h h':Heap} {n:Nat} {N:aC} {J:Ev} {S:Tab}
theorem jw {k x:Str} {c0 c:Value} {l:List (Str×Value)} (h:¬ k=x):stored ((k,c0)::l) x c=(k,c0)::stored l x c:=by
 unfold stored
 simp only [List.any_cons,h,decide_false,Bool.false_or,List.map_cons,if_false]
 split <;> simp
theorem jx {x:Str} {c0 c:Value} {l:List (Str×Value)} (h:x∉l.map (·.1)):stored ((x,c0)::l) x c=(x,c)::l:=by
 unfold stored
 simp only [List.any_cons,decide_true,Bool.true_or,if_true,List.map_cons,List.cons.injEq,true_and]
 rw [List.map_congr_left (g:=id) (fun p hp=>?_),List.map_id]
 have:¬ p.1=x:=fun e=>h (e▸List.mem_map.mpr ⟨p,hp,rfl⟩)
 simp [this]
theorem fh:∀ (l:List (Str×D)) (x:Str) (v:D) (cs:List Value) (c:Value),(l.map (·.1)).Nodup->DRv w G l cs->DR w G v c->∃ cs',DRv w G (bz l x v) cs'/\stored (List.zip (l.map (·.1)) cs) x c=List.zip ((bz l x v).map (·.1)) cs':=by
 intro l
 induction l with
 | nil=>
  intro x v cs c _ r q
  unfold DRv at r;subst r
  refine ⟨[c],?_,rfl⟩
  unfold bz DRv
  exact ⟨c,[],rfl,q,rfl⟩
 | cons hd_ l ih=>
  intro x v cs c nd r q
  obtain ⟨y,u⟩:=hd_
  obtain ⟨c0,r',rfl,h1,h2⟩:=r
  rw [List.map_cons,List.nodup_cons] at nd
  by_cases hx:x=y
  · clear h1;subst hx
    refine ⟨c::r',?_,?_⟩
    · unfold bz
      simp only [decide_true]
      exact ⟨c,r',rfl,q,h2⟩
    · unfold bz
      simp only [decide_true,List.map_cons,List.zip_cons_cons]
      rw [jx]
      intro hm
      obtain ⟨p,hp,e⟩:=List.mem_map.mp hm
      exact nd.1 (e▸(List.of_mem_zip hp).1)
  · obtain ⟨cs',h3,h4⟩:=ih x v r' c nd.2 h2 q
    refine ⟨c0::cs',?_,?_⟩
    · unfold bz
      simp only [hx,decide_false]
      exact ⟨c0,cs',rfl,h1,h3⟩
    · unfold bz
      simp only [hx,decide_false,List.map_cons,List.zip_cons_cons]
      rw [jw (fun e=>hx e.symm),h4]
theorem ph:∀ (l:List (Str×D)) (x:Str) (v:D) (k:Str),k∈(bz l x v).map (·.1)->k=x\/k∈l.map (·.1):=by
 intro l
 induction l with
 | nil=>
  intro x v k h
  unfold bz at h;simp at h;exact .inl h
 | cons hd_ l ih=>
  intro x v k h
  obtain ⟨y,u⟩:=hd_
  unfold bz at h
  split at h
  · exact .inr (by simpa using h)
  · rw [List.map_cons] at h
    rcases List.mem_cons.mp h with e | e
    · exact .inr (by rw [e];simp)
    · rcases ih x v k e with q | q
      · exact .inl q
      · exact .inr (by rw [List.map_cons];exact .tail _ q)
theorem gH:∀ (l:List (Str×D)) (x:Str) (v:D),(l.map (·.1)).Nodup->((bz l x v).map (·.1)).Nodup
 | [],x,v,_=>by unfold bz;simp
 | (y,u)::l,x,v,nd=>by
  rw [List.map_cons,List.nodup_cons] at nd
  unfold bz
  split
  · rw [List.map_cons,List.nodup_cons];exact nd
  · rename_i hx
    rw [List.map_cons,List.nodup_cons]
    refine ⟨fun h=>?_,gH l x v nd.2⟩
    rcases ph l x v y h with e | e
    · simp at hx;exact hx e.symm
    · exact nd.1 e
theorem DRv.zipKeys {l:List (Str×D)} {cs:List Value} (r:DRv w G l cs):(List.zip (l.map (·.1)) cs).map (·.1)=l.map (·.1):=by
 rw [List.map_fst_zip]
 rw [r.len,List.length_map];exact Nat.le_refl _
theorem iU:∀ (m:List (Str×D)) (l:List (Str×D)) (cs ms:List Value),(l.map (·.1)).Nodup->DRv w G l cs->DRv w G m ms->∃ cs',DRv w G (jO l m) cs'/\merged (List.zip (l.map (·.1)) cs) (List.zip (m.map (·.1)) ms)=List.zip ((jO l m).map (·.1)) cs'
 | [],l,cs,ms,nd,r,q=>by unfold DRv at q;subst q;exact ⟨cs,r,rfl⟩
 | (k,v)::m,l,cs,ms,nd,r,q=>by
  obtain ⟨c,ms',rfl,h1,h2⟩:=q
  obtain ⟨cs1,r1,e1⟩:=fh l k v cs c nd r h1
  obtain ⟨cs2,r2,e2⟩:=iU m (bz l k v) cs1 ms' (gH l k v nd) r1 h2
  refine ⟨cs2,r2,?_⟩
  show merged (stored (List.zip (l.map (·.1)) cs) k c) (List.zip (m.map (·.1)) ms')=_
  rw [e1,e2];rfl
theorem DictOf.nodup {a:Addr} {l:List (Str×D)} {cs:List Value} (d:h.DictOf (strKind PR w) a (List.zip (l.map (·.1)) cs)) (r:DRv w G l cs):(l.map (·.1)).Nodup:=by
 obtain ⟨o,es,ep,ho,_,_,_,zz⟩:=d;obtain ⟨_,nd⟩:=zz
 rw [r.zipKeys] at nd;exact nd
theorem qd (ok:aE base n fx) {k:Nat} {co cv:Value} {l:List D} {x:D} {Q:QV} (ro:VR w G O (.ref k) co) (rv:VR w G O (.d x) cv) (hk:Z[k]?=some (.oc (.li l))) (hz:l.length<=sizeLine)
  (q:Q (.d .nn) (Z.set k (.oc (.li (l++[x]))))):bN w base fx U G O Z (call (.builtin "list.append") [co,cv]) Q E:=by
 intro s S QQ EE hq he
 obtain ⟨fp,ek,cr⟩:=S.cells.at hk
 obtain ⟨a,rfl,cs,p,rs⟩:=cr
 unfold VR at ro
 rw [ro.2 a [] ek]
 refine wpAny_list_append_plain (hsz:=by rw [List.size_toArray,rs.len];exact hz) p fun h' hl hs=>?_
 have hz':∃ o,h'.get? a=some o:=let ⟨m,e⟩:=hl;⟨_,e⟩
 obtain ⟨oa,hoa⟩:=hz'
 obtain ⟨S1,X1⟩:=S.upd (h':=h') (c:=.oc (.li (l++[x]))) ek (by
  refine ⟨a,rfl,cs++[cv],by simpa using hl,rs.append ?_⟩
  unfold DRs
  exact ⟨cv,[],rfl,rv,rfl⟩) (eB hs hoa) (fun b o hb e=>(hs.2 b (by simpa using hb)).trans e)
 exact hq G O _ (.d .nn) _ h' s.toks X1 S1 VR.mk_nn q
end
end Mine
namespace Mine
open PySem PySem.W PyProof.Rows PySem.SeqAt
section
variable {w:World} {base:Heap} {fx:Fx} {U:Loc} {G:PH} {O:Fp} {Z:List aa} {E:Str->List aa->Prop} {α β γ δ:Type} {h h':Heap} {n:Nat} {N:aC} {J:Ev} {S:Tab}
theorem m7 {a:Addr} (h:a≠sysModules):(a==sysModules)=false:=beq_eq_false_iff_ne.mpr h
theorem mQ:∀ {O:Fp} {j k:Nat} {f1 f2:List Addr} {a:Addr},O.flatten.Nodup->O[j]?=some f1->O[k]?=some f2->a∈f1->a∈f2->j=k
 | [],_,_,_,_,_,_,e,_,_,_=>by simp at e
 | f::O,0,0,_,_,_,_,_,_,_,_=>rfl
 | f::O,0,k+1,f1,f2,a,nd,e1,e2,h1,h2=>by
  rw [List.flatten_cons,List.nodup_append] at nd
  simp at e1 e2;subst e1
  exact absurd rfl (nd.2.2 a h1 a (ay e2 h2))
 | f::O,j+1,0,f1,f2,a,nd,e1,e2,h1,h2=>by
  rw [List.flatten_cons,List.nodup_append] at nd
  simp at e1 e2;subst e2
  exact absurd rfl (nd.2.2 a h2 a (ay e1 h1))
 | f::O,j+1,k+1,f1,f2,a,nd,e1,e2,h1,h2=>by
  rw [List.flatten_cons,List.nodup_append] at nd
  simp at e1 e2
  rw [mQ nd.2.1 e1 e2 h1 h2]
theorem uU {a:Addr} {kvs:List (Str×Value)} (S:Sim w base G O Z h) (hp:xc w G a kvs):a∉O.flatten:=by
 intro hm
 obtain ⟨o,ho⟩:=S.cells.ex a hm
 have hg:=S.out a hm
 have hf:({o with cls:=.type "list",data:=.plain}:Obj).isFreed=false:=rfl
 have z:=hp (h.update a fun _=>{o with cls:=.type "list",data:=.plain}) fun b ob e=>by
  have hne:a≠b:=fun q=>by rw [<- q,hg] at e;contradiction
  rw [Heap.get?_update_other _ _ hne]
  exact S.sub b ob e
 obtain ⟨o',es,ep,ho',hc,_⟩:=z
 have e2:=Heap.get?_update_self (fun _=>({o with cls:=.type "list",data:=.plain}:Obj)) ho hf
 rw [ho'] at e2
 clear ho';cases e2
 exact absurd hc.1 (by show ¬ (Value.type "list"=Value.type "dict");decide)
theorem qg (I:aV w base n J) (ok:aE base n fx) (hN:FxN fx N) {o a:Expr} {f:Str} {ap p:Pos} {Q:QV} (c1:jo o=false) (c2:Nat.beq ap.endLine p.line=true) (c3:cu a=false)
  (q:J.ev N o U Z (fun ov Z1=>grd (lI f Z1 ov) (J.ev N a U Z1 (fun v Z2=>lk f Z2 ov v Q) E)) E):bN w base fx U G O Z (eval (.Call (.Attribute o f ap) [a] [] p) fx.env) Q E:=by
 exists w,base,fx,U,G,O,Z,E,n,N,J,o,a,f,ap,p,Q,_ I ok hN c1 c2 c3 q
 have hbase:attributeBase o f fx.env (eval o fx.env)=eval o fx.env:=by clear q;cases o <;> first | rfl | exact iL c1
 have hline:(ap.endLine==p.line)=true:=by simpa using Nat.eq_of_beq_eq_true c2
 have htrees:backTo p (starEach [a] fx.env)=[(false,eval a fx.env)]:=by rw [bj c3];rfl
 refine aH.to (aH.seq (P:=fun co QQ EE s=>MethodOn PR w fx.A f p co [(false,eval a fx.env)] QQ EE s) (fun QQ EE s h=>wpAny_Call_method1_late hbase hline htrees h) (I.ev ok hN q) ?_)
 intro G1 O1 Z1 ov co x1 ix1 ro q1;exists G1,O1,Z1,ov,co,_ x1 ix1 ro q1
 replace q1:=ab.mp q1
 obtain ⟨hm,q1⟩:=q1
 intro s S QQ EE hq he;exists s,QQ,EE,_ S hq he
 unfold lI at hm
 cases hf:decide (f="append") with
 | true=>
  rw [hf] at hm
  clear hbase q;obtain rfl:f="append":=of_decide_eq_true hf
  obtain ⟨zz,hm⟩:=Option.isSome_iff_exists.mp hm;obtain ⟨k,l0⟩:=zz;exists k,l0,_ hm
  obtain ⟨rfl,hk0⟩:=vy hm
  obtain ⟨a0,cs0,rfl,il0,_⟩:=VR.listOf S.toSim ro (l:=l0) (gS hk0)
  refine ⟨"list","list.append",F.plainAttrs_list,slot_list_append,type_list_append,il0.typeIs,fun b e=>?_,?_⟩
  · clear hm;cases e
    obtain ⟨fp,ek,cr⟩:=S.cells.at hk0
    obtain ⟨a',rfl,cs,zz,rs⟩:=cr;obtain ⟨m,pp⟩:=zz
    have:=ro
    unfold VR at this
    have e:=this.2 a' [] ek
    clear ek;cases e
    exact ⟨_,pp,rfl⟩
  · refine callWith_of (P:=fun _=>True) rfl (fun h _=>⟨.machine,.inr (.inl rfl),.now⟩) (Calls.evalArgs_plain (Calls.spliced_cons ?_))
    have d:aH w base fx U G1 O1 Z1 (fun QQ EE s=>wpAny (model PR w) fx.A (eval a fx.env) (fun v s₁=>wpAny (model PR w) fx.A (spliced []) (fun vs s₂=>True/\wpAny (model PR w) fx.A (call (.builtin "list.append") ([.ref a0]++(v::vs)) []) QQ EE s₂) EE s₁) EE s) (VR w) Q E:=by
     refine aH.seq (P:=fun v QQ EE s₁=>wpAny (model PR w) fx.A (spliced []) (fun vs s₂=>True/\wpAny (model PR w) fx.A (call (.builtin "list.append") ([.ref a0]++(v::vs)) []) QQ EE s₂) EE s₁) (fun QQ EE s h=>h) (I.ev ok hN q1) ?_
     intro G2 O2 Z2 v cv x2 ix2 rv q2
     intro s S QQ EE hq he
     refine Calls.spliced_nil ⟨trivial,?_⟩
     unfold lk at q2
     rw [hf] at q2
     replace q2:=bw q2
     split at q2
     · rename_i p e1
       obtain ⟨e2,hk⟩:=vy e1
       clear e1 hm q1 hk0;cases e2
       split at q2
       · rename_i x e2
         obtain rfl:=iX e2
         obtain ⟨c,q2⟩:=ab.mp q2
         exact qd ok (ro.mono x2 ix2) rv hk (bM c) q2 s S QQ EE hq he
       · exact q2.elim
     · exact q2.elim
    exact d s S QQ EE hq he
 | false=>
  rw [hf] at hm
  cases hg:decide (f="get") with
  | true=>
   rw [hg] at hm
   obtain ⟨l0,hk0⟩:=Option.isSome_iff_exists.mp hm
   clear hm hbase q;obtain rfl:f="get":=of_decide_eq_true hg
   obtain ⟨a0,cs0,rfl,hs0,hd0,_⟩:=VR.dictOf S.toSim ro hk0
   refine ⟨"dict","dict.get",F.plainAttrs_dict,F.slot_dict_get,F.type_dict_get,hd0.typeIs,hd0.mapOf.noDict,wpAny_dict_get1 (knd:=strKind PR w) (m7 hs0) ?_⟩
   have d:aH w base fx U G1 O1 Z1 (fun QQ EE s=>wpAny (model PR w) fx.A (eval a fx.env) (fun key s₁=>∃ k f,(strKind PR w).is k key=true/\s₁.heap.MapOf (strKind PR w) a0 f/\QQ ((f k).getD .none) {s₁ with toks:=s₁.toks+1}) EE s) (VR w) Q E:=by
    refine aH.seq (P:=fun key QQ EE s₁=>∃ k f,(strKind PR w).is k key=true/\s₁.heap.MapOf (strKind PR w) a0 f/\QQ ((f k).getD .none) {s₁ with toks:=s₁.toks+1}) (fun QQ EE s h=>h) (I.ev ok hN q1) ?_
    intro G2 O2 Z2 v cv x2 ix2 rv q2
    intro s S QQ EE hq he
    unfold lk at q2
    rw [hf,hg] at q2
    replace q2:=bw (aG q2)
    clear he;split at q2
    rotate_left
    · exact q2.elim
    rename_i l e
    split at q2
    · rename_i k ek
      obtain rfl:=gh ek
      obtain ⟨a1,cs1,e1,_,hd1,rs⟩:=VR.dictOf S.toSim (ro.mono x2 ix2) e
      cases e1
      obtain ⟨t,rfl⟩:=rv.ss
      refine ⟨k,_,strKind_is _ _ _ _,hd1.mapOf,?_⟩
      have z:=rs.look (k:=k)
      refine hq _ _ _ (.d ((l.lookup k).getD .nn)) _ _ _ (Ext.refl ..) S ?_ q2
      cases hx:l.lookup k with
      | some y=>rw [hx] at z;clear hq S;obtain ⟨c',hc',r'⟩:=z;rw [hc'];unfold VR;exact r'
      | none=>rw [hx] at z;simp only at z;rw [z];exact VR.mk_nn
    · exact q2.elim
   exact d s S QQ EE hq he
  | false=>
   rw [hg] at hm
   cases hu:decide (f="update") with
   | false=>rw [hu] at hm;exact aX hm
   | true=>
    rw [hu] at hm
    obtain ⟨zz,hm⟩:=Option.isSome_iff_exists.mp hm;obtain ⟨k,l0⟩:=zz;exists k,l0,_ hm
    clear hbase q;obtain rfl:f="update":=of_decide_eq_true hu
    obtain ⟨rfl,hk0⟩:=wg hm
    clear hm;obtain ⟨a0,cs0,rfl,hs0,hd0,_⟩:=VR.dictOf S.toSim ro (l:=l0) (yv hk0)
    refine ⟨"dict","dict.update",F.plainAttrs_dict,F.slot_dict_update,F.type_dict_update,hd0.typeIs,hd0.mapOf.noDict,method1_meetsIn F.slot_dict_update F.entry_dict_update ?_⟩
    have d:aH w base fx U G1 O1 Z1 (fun QQ EE s=>wpAny (model PR w) fx.A (eval a fx.env) (fun v s₁=>s₁.TypeIs (.ref a0) "dict"/\argsOk "dict.update" ⟨[.ref a0,v],[]⟩/\∃ S,MeetsIn PR w (Builtin.«dict.update» ⟨[.ref a0,v],[]⟩) S/\S fx.A (wants QQ EE) s₁) EE s) (VR w) Q E:=by
     refine aH.seq (P:=fun v QQ EE s₁=>s₁.TypeIs (.ref a0) "dict"/\argsOk "dict.update" ⟨[.ref a0,v],[]⟩/\∃ S,MeetsIn PR w (Builtin.«dict.update» ⟨[.ref a0,v],[]⟩) S/\S fx.A (wants QQ EE) s₁) (fun QQ EE s h=>h) (I.ev ok hN q1) ?_
     intro G2 O2 Z2 v cv x2 ix2 rv q2
     intro s S QQ EE hq he
     unfold lk at q2
     rw [hf,hg] at q2
     clear he;obtain ⟨-,q2⟩:=ab.mp (aG (aG q2))
     split at q2
     rotate_left
     · exact q2.elim
     rename_i p hk
     obtain ⟨k',l⟩:=p
     obtain ⟨e1,hk⟩:=wg hk
     cases e1
     split at q2
     · rename_i m hm
       obtain ⟨c,q2⟩:=ab.mp q2
       rw [Bool.and_eq_true] at c
       obtain ⟨b0,ms,rfl,hsb,hdb,rm⟩:=VR.dictOf S.toSim rv hm
       obtain ⟨fp,ek,cr⟩:=S.cells.at hk
       clear hk;obtain ⟨a',rfl,hsa,cs,hda,rs⟩:=cr
       have ro':=ro.mono x2 ix2
       unfold VR at ro'
       have e:=ro'.2 a' [] ek
       cases e
       have hne:a0≠b0:=fun e=>by
        clear hdb hsb hq;subst e
        cases v with
        | d y=>
         clear c q2;obtain rfl:=qa hm
         have:=rv
         obtain ⟨b1,_,e1,_,hp,_⟩:=this
         cases e1
         exact uU S.toSim hp (ay ek (.head _))
        | ref j=>
         have hj:j≠k:=fun e=>by rw [e] at c;simp [zo] at c
         clear q2;obtain ⟨fp',ek',cr'⟩:=S.cells.at (mT hm)
         unfold be at cr'
         obtain ⟨a'',rfl,_⟩:=cr'
         have:=rv
         unfold VR at this
         have e:=this.2 a'' [] ek'
         cases e
         exact hj (mQ S.nd ek' ek (.head _) (.head _))
        | _=>exact af hm
       obtain ⟨cs',r',e'⟩:=iU m l cs ms (DictOf.nodup hda rs) rs rm
       refine ⟨hda.typeIs,F.args_dict_update_2 _ _,_,meets_dict_update (strKind PR w) a0 b0 hne (m7 hsb),_,_,hda,hdb,?_,fun h' hd' ho' hs'=>?_⟩
       · rw [List.length_zip,List.length_zip,List.length_map,List.length_map,rs.len,rm.len,Nat.min_self,Nat.min_self]
         exact bM c.2
       · rw [e'] at hd'
         obtain ⟨oa,hoa⟩:∃ o,h'.get? a0=some o:=let ⟨o,_,_,e,_⟩:=hd';⟨o,e⟩
         obtain ⟨S1,X1⟩:=S.upd (h':=h') (c:=.oc (.di (jO l m))) ek (by
          exact ⟨a0,rfl,hsa,cs',hd',r'⟩) (eB hs' hoa) (fun b o hb e=>(hs'.2 b (by simpa using hb)).trans e)
         exact hq _ _ _ (.d .nn) _ h' s.toks X1 S1 VR.mk_nn q2
     · exact q2.elim
    exact d s S QQ EE hq he
end
end Mine
namespace Mine
open PySem PySem.W PyProof.Rows PySem.SeqAt
noncomputable def qT:List String:=["enumerate","zip","dict_itemiterator","dict_reverseitemiterator","odict_iterator","itertools.zip_longest","itertools.pairwise"]
noncomputable def fR (o:Obj):Bool:=match o.cls with
 | .type n=>!qT.contains n
 | _=>true
theorem jR {M:Model} {A:Around} {E:Value->Shared->Prop} {s:Shared} {target:Expr} {It:Addr} {v:Value} {o:Obj} {Q:Unit->Shared->Prop} (ho:s.heap.get? It=some o) (hp:fR o=true) (h:Q () s):wpAny M A (letOwnedTupleGo target (.ref It) v) Q E s:=by
 have key:wpAny M A (do
   let (.ref r,.ref a):=((Value.ref It),v) | return
   let o <- load r
   match o.cls,o.data with
   | .type n,.fields vs=>
    if ["enumerate","zip","dict_itemiterator","dict_reverseitemiterator","odict_iterator","itertools.zip_longest","itertools.pairwise"].contains n&&vs[0]?==some (rawInt a) then
     rule "for.unpacks-the-owned-tuple"
     updateField r 0 .none
   | _,_=>pure ():Sem Unit) Q E s:=by
  cases v with
  | ref a=>
   refine wpAny_bind (wpAny_load ho ?_)
   unfold fR at hp
   cases hc:o.cls <;> cases hd:o.data <;> first
    | exact wpAny_pure h
    | (rw [hc] at hp
       have hp':=hp
       simp only [Bool.not_eq_true'] at hp'
       refine wpAny_of_eq (a:=()) ?_ h
       show (if (qT.contains _&&_)=true then _ else _)=_
       rw [hp',Bool.false_and]
       rfl)
  | _=>exact wpAny_pure h
 unfold letOwnedTupleGo
 cases target <;> first | exact key | exact wpAny_pure h
theorem Walks.ba {prog:Program} {w:World} {A:Around} (hh:A.handled=none) (I a:Addr) (hne:a≠I) (b:Array UInt8) (m:Nat):
  Walks prog w A I [I,a] [I] b.size (fun i v=>∃ x t,b[i]?=some x/\v=.int x.toNat t) (fun i h=>h.get? I=some (qq a i)/\h.get? a=some (baO b m)) where
 sub:=fun b hb=>by simp at hb;simp [hb]
 frame:=fun _ _ _ st hk=>⟨hk I (by simp) _ st.1,hk a (by simp) _ st.2⟩
 item:=fun i s Q E hi st hQ=>by
  refine xT st.1 st.2 (x:=b[i]) (by simp [hi]) fun h' tk t hI hs=>?_
  exact hQ _ h' tk ⟨b[i],t,by simp [hi],rfl⟩ ⟨hI,(hs.2 a hne).trans st.2⟩ fun c o hc e=>(hs.2 c (by simpa using hc)).trans e
 done:=fun s Q E st hQ=>Ca hh st.1 st.2 fun h' he=>hQ h' s.toks fun c o hc e=>he c o (fun h=>hc (by simp [h])) e
 self:=fun _ _ _ _ st hQ=>vH st.1 hQ
section
variable {w:World} {base:Heap} {fx:Fx} {U:Loc} {G:PH} {O:Fp} {Z:List aa} {E:Str->List aa->Prop} {α β γ δ:Type} {h h':Heap} {n:Nat} {N:aC} {J:Ev} {S:Tab}
theorem Walks.lt {prog:Program} {w:World} {A:Around} {I:Addr} {fp wr:List Addr} {n:Nat} {P:Nat->Value->Prop} {St:Nat->Heap->Prop} (W:Walks prog w A I fp wr n P St):Walks prog w A I fp wr n (fun i v=>i<n/\P i v) St where
 sub:=W.sub
 frame:=W.frame
 item:=fun i s Q E hi st hQ=>W.item i s Q E hi st fun v h' tk p=>hQ v h' tk ⟨hi,p⟩
 done:=W.done
 self:=W.self
theorem VRs.get':∀ {ds:List V} {cs:List Value} {i:Nat} {c:Value},VRs w G O ds cs->cs[i]?=some c->∃ d,ds[i]?=some d/\VR w G O d c
 | [],cs,i,c,r,e=>by unfold VRs at r;subst r;simp at e
 | d::ds,cs,0,c,r,e=>by unfold VRs at r;obtain ⟨c0,r',rfl,y,_⟩:=r;simp at e;subst e;exact ⟨d,rfl,y⟩
 | d::ds,cs,i+1,c,r,e=>by
  unfold VRs at r;obtain ⟨c0,r',rfl,_,y⟩:=r;simp at e
  obtain ⟨d',e',z⟩:=VRs.get' y e
  exact ⟨d',by simpa using e',z⟩
theorem r9 {a:Addr} {kvs:List (Str×Value)} (S:Sim w base G O Z h) (hp:xc w G a kvs):∃ o,G a=some o:=by
 cases hg:G a with
 | some o=>exact ⟨o,rfl⟩
 | none=>
  obtain ⟨o,es,ep,ho,_⟩:=hp h S.sub
  have hf:({o with cls:=.type "list",data:=.plain}:Obj).isFreed=false:=rfl
  have z:=hp (h.update a fun _=>{o with cls:=.type "list",data:=.plain}) fun b ob e=>by
   have hne:a≠b:=fun q=>by rw [<- q,hg] at e;contradiction
   rw [Heap.get?_update_other _ _ hne]
   exact S.sub b ob e
  obtain ⟨o',es,ep,ho',hc,_⟩:=z
  have e2:=Heap.get?_update_self (fun _=>({o with cls:=.type "list",data:=.plain}:Obj)) ho hf
  rw [ho'] at e2
  clear ho';cases e2
  exact absurd hc.1 (by show ¬ (Value.type "list"=Value.type "dict");decide)
theorem oi (ok:aE base n fx) {v:V} {c:Value} {items:List V} (r:VR w G O v c) (e:bS v=some items) {s:Shared} (S:St w base fx G O Z U s.heap) {QQ EE:Value->Shared->Prop}
  (hq:∀ (o:Obj) (fp:List Addr) (P:Nat->Value->Prop) (StW:Nat->Heap->Prop),o.isFreed=false->Walks PR w fx.A s.heap.objs.size fp [s.heap.objs.size] items.length P StW->
   (∀ b∈fp,b=s.heap.objs.size\/∃ o,G b=some o)->StW 0 (s.heap.push o)->(∀ i x,P i x->∃ y,items[i]?=some y/\VR w G O y x)->(∀ i h,StW i h->∃ o,h.get? s.heap.objs.size=some o/\fR o=true)->QQ (.ref s.heap.objs.size) {s with heap:=s.heap.push o}):
  wpAny (model PR w) fx.A (pyIter c) QQ EE s:=by
 exists w,base,fx,U,G,O,Z,n,v,c,items,s,QQ,EE,_ ok r e S hq
 have ne:∀ a,(∃ o,s.heap.get? a=some o)->a≠s.heap.objs.size:=fun a ⟨o',e⟩ q=>by subst q;rw [aW] at e;contradiction
 have li:∀ (a:Addr) (cs:List Value) (l:List V),s.heap.IsList a cs.toArray->(∃ o,G a=some o)->VRs w G O l cs->items=l->c=.ref a->wpAny (model PR w) fx.A (pyIter c) QQ EE s:=fun a cs l il hg rs el ec=>by
  subst ec
  refine wpAny_pyIter_list il ?_
  have hne:=ne a (let ⟨o,ho,_⟩:=il;⟨o,ho⟩)
  have W:=Walks.list (prog:=PR) (w:=w) ok.hand s.heap.objs.size a hne cs.toArray
  have hsz:cs.toArray.size=items.length:=by rw [List.size_toArray,rs.len,el]
  rw [hsz] at W
  refine hq _ _ _ _ rfl W (fun b hb=>?_) ⟨⟨_,Heap.get?_push_size _ rfl,rfl,rfl⟩,il.push _⟩ (fun i x hx=>?_) fun i h hs=>let ⟨o,e,c,_⟩:=hs.1;⟨o,e,by unfold fR;rw [c];decide⟩
  · simp at hb
    clear W hne r il;rcases hb with rfl | rfl
    · exact .inl rfl
    · exact .inr hg
  · rw [el];exact rs.get' (by simpa using hx)
 have tu:∀ (a:Addr) (cs:List Value) (l:List V),G a=some (jt cs)->VRs w G O l cs->items=l->c=.ref a->wpAny (model PR w) fx.A (pyIter c) QQ EE s:=fun a cs l g rs el ec=>by
  subst ec
  have it:s.heap.IsTuple a cs.toArray:=⟨_,S.sub _ _ g,rfl,0,rfl⟩
  refine wpAny_pyIter_tuple it ?_
  have hne:=ne a ⟨_,S.sub _ _ g⟩
  have W:=Walks.tuple (prog:=PR) (w:=w) ok.hand s.heap.objs.size a hne cs.toArray
  have hsz:cs.toArray.size=items.length:=by rw [List.size_toArray,rs.len,el]
  rw [hsz] at W
  refine hq _ _ _ _ rfl W (fun b hb=>?_) ⟨⟨_,Heap.get?_push_size _ rfl,rfl,rfl⟩,⟨_,Heap.get?_push_of_some _ (S.sub _ _ g),rfl,0,rfl⟩⟩ (fun i x hx=>?_) fun i h hs=>let ⟨o,e,c,_⟩:=hs.1;⟨o,e,by unfold fR;rw [c];decide⟩
  · simp at hb
    clear W hne it li r;rcases hb with rfl | rfl
    · exact .inl rfl
    · exact .inr ⟨_,g⟩
  · rw [el];exact rs.get' (by simpa using hx)
 have up:∀ {l:List D} {cs:List Value},DRs w G l cs->VRs w G O (l.map .d) cs:=by
  intro l
  induction l with
  | nil=>intro cs r;unfold DRs at r;subst r;rfl
  | cons d l ih=>
   intro cs r
   obtain ⟨c,r',rfl,x,y⟩:=r
   show VRs w G O (.d d::l.map .d) (c::r')
   exact ⟨c,r',rfl,by unfold VR;exact x,ih y⟩
 cases v with
 | d d=>cases d with
  | tu l=>
   clear hq;obtain rfl:=Option.some.inj e
   clear li;obtain ⟨a,cs,rfl,g,rs⟩:=r
   exact tu a cs _ g (up rs) rfl rfl
  | li l=>
   clear hq;obtain rfl:=Option.some.inj e
   clear tu;obtain ⟨a,cs,o,m,rfl,g,h1,zz⟩:=r;obtain ⟨h2,rs⟩:=zz
   exact li a cs _ ⟨o,S.sub _ _ g,h1,m,h2⟩ ⟨o,g⟩ (up rs) rfl rfl
  | di l=>
   obtain rfl:=Option.some.inj e
   obtain ⟨a,cs,rfl,hs,hp,rs⟩:=r
   obtain ⟨o,hg⟩:=r9 S.toSim hp
   obtain ⟨o',es,ep,ho',z⟩:=hp s.heap S.sub
   have hd:s.heap.DictAt (strKind PR w) a (List.zip (l.map (·.1)) cs) ep:=⟨o',es,ho',z⟩
   refine wpAny_pyIter_dict (m7 hs) hd ?_
   have hne:=ne a ⟨_,ho'⟩
   have W:=Walks.dictKeys (knd:=strKind PR w) (A:=fx.A) ok.hand s.heap.objs.size a hne (List.zip (l.map (·.1)) cs) ep
   have hsz:(List.zip (l.map (·.1)) cs).length=(l.map fun p=>(V.d (.ss p.1))).length:=by rw [List.length_zip,List.length_map,List.length_map,rs.len,Nat.min_self]
   have hst:(fun i h=>Heap.IsKeyIter h s.heap.objs.size a i (List.zip (l.map (·.1)) cs).length ep/\Heap.DictAt (strKind PR w) h a (List.zip (l.map (·.1)) cs) ep) 0
    (s.heap.push {cls:=.type "dict_keyiterator",data:=.fields #[.ref a,.int 0 0,.int (List.zip (l.map (·.1)) cs).length 0,.int ep 0]}):=⟨⟨_,Heap.get?_push_size _ rfl,rfl,rfl⟩,hd.at' fun o e=>Heap.get?_push_of_some _ e⟩
   refine hq _ [s.heap.objs.size,a] (fun i v=>∃ k x,(List.zip (l.map (·.1)) cs)[i]?=some (k,x)/\(strKind PR w).is k v=true) _ rfl (by rw [<- hsz];exact W) (fun b hb=>?_) hst (fun i x hx=>?_) fun i h (hs:Heap.IsKeyIter h s.heap.objs.size a i (List.zip (l.map (·.1)) cs).length ep/\Heap.DictAt (strKind PR w) h a (List.zip (l.map (·.1)) cs) ep)=>let ⟨o,e,c,_⟩:=hs.1;⟨o,e,by unfold fR;rw [c];decide⟩
   · simp at hb
     clear hst W hne hd ho' hp hs tu li;rcases hb with rfl | rfl
     · exact .inl rfl
     · exact .inr ⟨_,hg⟩
   · obtain ⟨k,y,hi,hk⟩:=hx
     rw [List.getElem?_zip_eq_some] at hi
     have hi1:=hi.1
     rw [List.getElem?_map] at hi1
     refine ⟨.d (.ss k),?_,?_⟩
     · rw [List.getElem?_map]
       cases hl:l[i]? with
       | none=>rw [hl] at hi1;contradiction
       | some p=>rw [hl] at hi1;clear hk hi;cases hi1;rfl
     · have:∃ t,x=.str k t:=by
        have hk':x.isStrOf k=true:=hk
        cases x <;> simp [Value.isStrOf] at hk'
        clear hk hi1 hi;subst hk'
        exact ⟨_,rfl⟩
       clear hk;obtain ⟨t,rfl⟩:=this
       exact VR.mk_ss _ _
  | ba b=>
   obtain rfl:=Option.some.inj e
   obtain ⟨a,m,rfl,g⟩:=r
   have g':=S.sub _ _ g
   refine ya g' ?_
   have hne:=ne a ⟨_,g'⟩
   have W:=Walks.ba (prog:=PR) (w:=w) (A:=fx.A) ok.hand s.heap.objs.size a hne b m
   have hsz:b.size=(b.toList.map fun u=>(V.d (.ii u.toNat))).length:=by rw [List.length_map,Array.length_toList]
   refine hq _ [s.heap.objs.size,a] (fun i v=>∃ x t,b[i]?=some x/\v=.int x.toNat t) (fun i h=>h.get? s.heap.objs.size=some (qq a i)/\h.get? a=some (baO b m)) rfl (by rw [<- hsz];exact W) (fun c hc=>?_)
    ⟨Heap.get?_push_size _ rfl,Heap.get?_push_of_some _ g'⟩ (fun i x hx=>?_) fun i h hs=>⟨_,hs.1,by show (!qT.contains "bytearray_iterator")=true;decide⟩
   · simp at hc
     clear W hne g' tu li;rcases hc with rfl | rfl
     · exact .inl rfl
     · exact .inr ⟨_,g⟩
   · obtain ⟨u,t,hi,rfl⟩:=hx
     refine ⟨.d (.ii u.toNat),?_,VR.mk_ii _ _⟩
     rw [List.getElem?_map,Array.getElem?_toList,hi];rfl
  | _=>exact af e
 | tu l=>
  obtain rfl:=Option.some.inj e
  clear li;obtain ⟨a,cs,rfl,g,rs⟩:=r
  exact tu a cs _ g rs rfl rfl
 | rng a b=>
  obtain ⟨hr,rfl⟩:=cA e
  unfold iQ at hr
  simp only [Bool.and_eq_true] at hr
  have h1:=ak.mp hr.1.1.1
  have h2:=ak.mp hr.1.1.2
  have h3:=ak.mp hr.1.2
  have h4:=ak.mp hr.2
  clear tu li;obtain ⟨x,t,u,v,rfl,g⟩:=r
  have g':=S.sub _ _ g
  refine wpAny_pyIter_range g' (small_one (by omega) (by omega) (by omega) (by omega)) ?_
  have W:=Walks.range (prog:=PR) (w:=w) (A:=fx.A) ok.hand s.heap.objs.size a 1 (b - a).toNat
  have hsz:(b - a).toNat=((List.range (b - a).toNat).map fun (i:Nat)=>(V.d (.ii (a+(i:Int))))).length:=by rw [List.length_map,List.length_range]
  have hrs:Builtin.Range.rangeSize a b 1=((b - a).toNat:Int):=by
   rw [rangeSize_one];split <;> omega
  refine hq _ [s.heap.objs.size] (fun i v=>i<(b - a).toNat/\∃ t,v=.int (a+i*1) t) (fun i h=>IsRangeIter h s.heap.objs.size (a+(i:Nat)*1) (((b - a).toNat:Int) - (i:Nat)) 1) rfl (by rw [<- hsz];exact Mine.Walks.lt W) (fun c hc=>?_) ?_ (fun i x hx=>?_) fun i h hs=>⟨_,hs,by show (!qT.contains "range_iterator")=true;decide⟩
  · simp at hc;exact .inl hc
  · show Heap.get? _ _=_
    rw [Heap.get?_push_size _ rfl,hrs]
    simp
  · obtain ⟨hi,t,rfl⟩:=hx
    refine ⟨.d (.ii (a+(i:Int))),?_,?_⟩
    · rw [List.getElem?_map,List.getElem?_range hi];rfl
    · have:a+(i:Int)*1=a+(i:Int):=by omega
      rw [this];exact VR.mk_ii _ _
 | _=>exact af e
end
end Mine
namespace Mine
open PySem PySem.W PyProof.Rows PySem.SeqAt
theorem Ext.drop {own own' frs:List Addr} {G G':PH} {O O':Fp} {h h0 h':Heap} (pk:∀ b o,h.get? b=some o->h0.get? b=some o) (X:Ext own' frs G O h0 G' O' h') (ho:∀ b∈own',b∈own\/h.get? b=none):Ext own frs G O h G' O' h' where
 sub:=X.sub
 ix:=X.ix
 dom:=fun b o e=>X.dom b o (pk b o e)
 keep:=fun b o e h1 h2 h3=>X.keep b o (pk b o e) h1 h2 fun q=>(ho b q).elim h3 fun z=>by rw [z] at e;contradiction
 slots:=fun b o e h1 h2 h3=>X.slots b o (pk b o e) h1 h2 fun q=>(ho b q).elim h3 fun z=>by rw [z] at e;contradiction
 newF:=fun b hb=>(X.newF b hb).imp id fun z=>cW (fun b o e=>⟨o,pk b o e⟩) z
 newG:=fun b o e=>(X.newG b o e).imp id (.imp (fun z=>cW (fun b o e=>⟨o,pk b o e⟩) z) id)
theorem Ext.touch {own frs:List Addr} {G G':PH} {O O':Fp} {h h1 h2:Heap} (X:Ext own frs G O h G' O' h1) {L:List Addr} (hL:∀ b∈L,b∈own) (kp:∀ b o,b∉L->h1.get? b=some o->h2.get? b=some o) (dom:∀ b o,h1.get? b=some o->∃ o',h2.get? b=some o'):Ext own frs G O h G' O' h2 where
 sub:=X.sub
 ix:=X.ix
 dom:=fun b o e=>let ⟨o',e'⟩:=X.dom b o e;dom b o' e'
 keep:=fun b o e h1 h2 h3=>kp b o (fun q=>h3 (hL b q)) (X.keep b o e h1 h2 h3)
 slots:=fun b o e h1 h2 h3=>let ⟨sl,e'⟩:=X.slots b o e h1 h2 h3;⟨sl,kp b _ (fun q=>h3 (hL b q)) e'⟩
 newF:=X.newF
 newG:=X.newG
theorem Ext.fin {own own' frs:List Addr} {G G':PH} {O O':Fp} {h h0 h1 h2:Heap} (X:Ext own' frs G O h0 G' O' h1) (pk:∀ b o,h.get? b=some o->h0.get? b=some o) {L:List Addr} (kp:∀ b o,b∉L->h1.get? b=some o->h2.get? b=some o)
  (hL:∀ b∈L,h.get? b=none) (ho:∀ b∈own',b∈own\/h.get? b=none):Ext own frs G O h G' O' h2:=by
 have Y:=Ext.drop pk X ho
 have nl:∀ b o,h.get? b=some o->b∉L:=fun b o e q=>by rw [hL b q] at e;contradiction
 exact ⟨Y.sub,Y.ix,fun b o e=>let ⟨o',e'⟩:=Y.dom b o e;⟨o',kp b o' (nl b o e) e'⟩,fun b o e h1 h2 h3=>kp b o (nl b o e) (Y.keep b o e h1 h2 h3),
  fun b o e h1 h2 h3=>let ⟨sl,e'⟩:=Y.slots b o e h1 h2 h3;⟨sl,kp b _ (nl b o e) e'⟩,Y.newF,Y.newG⟩
theorem FunFrames.touch {base h h':Heap} {L:List Addr}:∀ {l:List Env},(∀ a∈l.filterMap (·.frame),a∉L)->(∀ b o,b∉L->h.get? b=some o->h'.get? b=some o)->h.FunFrames base l->h'.FunFrames base l
 | [],_,_,_=>trivial
 | env::r,hf,kp,⟨k1,⟨L',o,k2,k3,k4,k5⟩,k6⟩=>by
  have hm:L'∈(env::r).filterMap (·.frame):=by rw [List.filterMap_cons,k2];exact .head _
  exact ⟨k1,⟨L',o,k2,k3,kp L' o (hf L' hm) k4,k5⟩,FunFrames.touch (fun a ha=>hf a (by rw [List.filterMap_cons,k2];exact .tail _ ha)) kp k6⟩
section
variable {w:World} {base:Heap} {fx:Fx} {U:Loc} {G:PH} {O:Fp} {Z:List aa} {E:Str->List aa->Prop} {α β γ δ:Type} {h h':Heap} {n:Nat} {N:aC} {J:Ev} {S:Tab}
theorem St.touch (S:St w base fx G O Z U h) {L:List Addr} (hL:∀ a∈L,a∉O.flatten/\G a=none/\a∉fx.own/\a∉fx.frs) (kp:∀ b o,b∉L->h.get? b=some o->h'.get? b=some o):St w base fx G O Z U h' where
 bs:=S.bs
 sub:=fun b o e=>kp b o (fun q=>by rw [(hL b q).2.1] at e;contradiction) (S.sub b o e)
 cells:=S.cells.mono (Sub.refl _) fun a ha o e=>kp a o (fun q=>(hL a q).1 ha) e
 nd:=S.nd
 out:=S.out
 fr:=S.fr.mono (Sub.refl _) (IxE.refl _) fun a ha o e=>⟨o.slots,kp a o (fun q=>(hL a q).2.2.1 ha) e⟩
 oo:=S.oo
 ond:=S.ond
 fo:=S.fo
 ff:=FunFrames.touch (fun a ha q=>(hL a q).2.2.2 ha) kp S.ff
theorem dq (x:Str) (v:V):∀ (U:Loc) (y:Str),(cK U x v).lookup y=if y=x then some v else U.lookup y:=by
 intro U y
 have base:∀ r:Loc,List.lookup y ((x,v)::r)=if y=x then some v else r.lookup y:=fun r=>by
  by_cases q:y=x
  · rw [if_pos q,q,lK]
  · rw [if_neg q,jP (beq_eq_false_iff_ne.mpr q)]
 induction U with
 | nil=>exact base []
 | cons p r ih=>
  obtain ⟨z,u⟩:=p
  unfold cK
  by_cases hx:x=z
  · rw [decide_eq_true hx,<- hx]
    refine (base r).trans ?_
    by_cases q:y=x
    · rw [if_pos q,if_pos q]
    · rw [if_neg q,if_neg q,jP (beq_eq_false_iff_ne.mpr q)]
  · rw [decide_eq_false hx]
    show List.lookup y ((z,u)::cK r x v)=_
    by_cases q:y=z
    · rw [q,lK,lK,if_neg (fun e=>hx e.symm)]
    · rw [jP (beq_eq_false_iff_ne.mpr q),jP (beq_eq_false_iff_ne.mpr q),ih]
theorem FrR.setLocal (x:FrR w G O fx.env U h) {y:Str} {v:V} {c:Value} {m:Str->Option Value} (hn:h'.Ns fx.env.locals fun z=>if z=y then some c else m z) (hm:∀ z u,U.lookup z=some u->fx.env.kindOf z=some .local->∃ c,m z=some c/\VR w G O u c)
  (hk:fx.env.kindOf y=some .local) (hc:∀ p∈fx.env.cells,∀ o,h.get? p.2=some o->h'.get? p.2=some o) (r:VR w G O v c):FrR w G O fx.env (cK U y v) h' where
 ns:=⟨_,hn,fun z u e k=>by
  rw [dq] at e
  by_cases q:z=y
  · rw [if_pos q] at e ⊢
    cases e
    exact ⟨c,rfl,r⟩
  · rw [if_neg q] at e ⊢
    exact hm z u e k⟩
 ce:=fun p hp=>by
  obtain ⟨co,zz,hv⟩:=x.ce p hp;obtain ⟨o,ho,hd⟩:=zz
  refine ⟨co,⟨o,hc p hp o ho,hd⟩,fun u e k=>?_⟩
  rw [dq] at e
  by_cases q:p.1=y
  · rw [q,hk] at k;contradiction
  · rw [if_neg q] at e
    exact hv u e k
theorem sI (I:aV w base n J) (ok:aE base n fx) (hN:FxN fx N):∀ {ifs:List Expr} {r0:Bool} {G:PH} {O:Fp} {Z:List aa} {Q:Bool->List aa->Prop},(if r0=true then ng (J.te N) ifs U Z Q E else Q false Z)->
  nq w base fx U G O Z (forIn ifs r0 fun c r=>if r=true then do let ok <- isTrue c fx.env (eval c fx.env);pure (ForInStep.yield ok) else pure (ForInStep.yield r)) Q E:=by
 intro ifs
 induction ifs with
 | nil=>
  intro r0 G O Z Q q
  refine Den.pure (b:=r0) ?_ rfl
  cases r0 with
  | true=>exact q
  | false=>exact q
 | cons e es ih=>
  intro r0 G O Z Q q
  rw [List.forIn_cons]
  cases r0 with
  | false=>
   have q':Q false Z:=q
   exact ih (r0:=false) q'
  | true=>
   have q':ng (J.te N) (e::es) U Z Q E:=q
   unfold ng at q'
   refine aH.to (aH.seq (t:=isTrue e fx.env (eval e fx.env)) (R:=fun _ _ b a=>a=b) (P:=fun b QQ EE s=>wpAny (model PR w) fx.A (forIn es b fun c r=>if r=true then do let ok <- isTrue c fx.env (eval c fx.env);pure (ForInStep.yield ok) else pure (ForInStep.yield r)) QQ EE s)
    (fun QQ EE s h=>wpAny_bind (wpAny_bind (wpAny_mono h (fun b s' h'=>wpAny_pure h') fun _ _ x=>x))) (I.te ok hN q') ?_)
   intro G' O' Z' b a x ix r q1
   have r':a=b:=r
   subst r'
   refine aH.of (ih (r0:=a) ?_)
   cases a with
   | true=>exact bw q1
   | false=>exact aG q1
end
end Mine
namespace Mine
open PySem PySem.W PyProof.Rows PySem.SeqAt
section
variable {w:World} {base:Heap} {fx:Fx} {U:Loc} {G:PH} {O:Fp} {Z:List aa} {E:Str->List aa->Prop} {α β γ δ:Type} {h h':Heap} {n:Nat} {N:aC} {J:Ev} {S:Tab}
theorem FrR.unset {y:Str} {v:V} (x:FrR w G O fx.env (cK U y v) h) (hy:U.lookup y=none):FrR w G O fx.env U h:=by
 have key:∀ z u,U.lookup z=some u->(cK U y v).lookup z=some u:=fun z u e=>by
  rw [dq,if_neg]
  · exact e
  · intro q;rw [q,hy] at e;contradiction
 obtain ⟨m,hn,hm⟩:=x.ns
 exact ⟨⟨m,hn,fun z u e k=>hm z u (key z u e) k⟩,fun p hp=>let ⟨co,hc,hv⟩:=x.ce p hp;⟨co,hc,fun u e k=>hv u (key _ u e) k⟩⟩
theorem sV (I:aV w base n J) (ok:aE base n fx) (hN:FxN fx N) {elt iter:Expr} {x:Str} {px:Pos} {ifs:List Expr} {scope:Scope} {pos:Pos} {It Da:Addr} {fp:List Addr} {P:Nat->Value->Prop} {StW:Nat->Heap->Prop} {items:List V}
  {h1:Heap} {R:Result->Shared->Prop} {K:List D->Prop} {s1:Shared}
  (hx:fx.env.kindOf x=some .local) (hUx:U.lookup x=none) (hp:(fx.env.scope.kind==.class||(fx.env.scope.kind==.module&&fx.env.locals != fx.env.globals))=false) (hID:It≠Da)
  (W:Walks PR w fx.A It fp [It] items.length P StW) (hfp:∀ b∈fp,b=It\/∃ o,G b=some o) (hP:∀ i v,P i v->∃ d,items[i]?=some (.d d)/\DR w G d v) (hsz:items.length<=1048576)
  (hWI:∀ i h,StW i h->∃ o,h.get? It=some o)
  (hI1:∃ o,h1.get? It=some o) (hD1:∃ o,h1.get? Da=some o) (hGI:G It=none) (hGD:G Da=none) (hoI:It∉fx.own) (hoD:Da∉fx.own) (hfI:It∉fx.frs) (hfD:Da∉fx.frs) (hfC:fx.env.locals∉fx.frs)
  (S1:St w base fx G [] [] U h1) (hR:∀ G' hE h' tk acc ys,Ext [fx.env.locals,It,Da] fx.frs G [] h1 G' [] hE->(∀ b o,b∉[It]->hE.get? b=some o->h'.get? b=some o)->St w base fx G' [] [] U h'->h'.PlainList Da ys->DRs w G' acc ys.toList->K acc->R (.ok .next) {s1 with heap:=h',toks:=tk}):
  ∀ (s:Shared) (h0:Heap) (tk0:Nat),s={s1 with heap:=h0,toks:=tk0}->h0=h1->StW 0 h0->h0.PlainList Da #[]->jd (J.te N) (J.ev N) ifs elt U x items [] K->
   codeAny (model PR w) fx.A (.compLoop (.ListComp elt [⟨.Name x px,iter,ifs,0⟩] scope pos) 0 (.ref It) (.ref Da) fx.env) R s:=by
 exists w,base,fx,U,G,n,N,J,elt,iter,x,px,ifs,scope,pos,It,Da,fp,P,StW,items,h1,R,K,s1,_ I ok hN hx hUx hp hID W hfp hP hsz hWI hI1 hD1 hGI hGD hoI hoD hfI hfD hfC S1 hR
 rintro s h0 tk0 rfl rfl hst0 hacc0 q0
 have hCo:fx.env.locals∈fx.own:=.head _
 have hCI:fx.env.locals≠It:=fun e=>hoI (e▸hCo)
 have hCD:fx.env.locals≠Da:=fun e=>hoD (e▸hCo)
 have free:∀ {G':PH} {h':Heap},Ext [fx.env.locals,It,Da] fx.frs G [] h0 G' [] h'->G' It=none/\G' Da=none:=fun {G' h'} X=>by
  constructor
  · cases e:G' It with
    | none=>rfl
    | some o=>
     rcases X.newG It o e with z | z | z
     · rw [hGI] at z;contradiction
     · obtain ⟨o',e'⟩:=hI1;rw [z] at e';contradiction
     · simp at z
  · cases e:G' Da with
    | none=>rfl
    | some o=>
     rcases X.newG Da o e with z | z | z
     · rw [hGD] at z;contradiction
     · obtain ⟨o',e'⟩:=hD1;rw [z] at e';contradiction
     · simp at z
 have noC:∀ p∈fx.env.cells,p.2≠fx.env.locals:=fun p hp e=>by
  have:=S1.ond
  unfold Fx.own at this
  rw [List.nodup_cons] at this
  exact this.1 (List.mem_map.mpr ⟨p,hp,e⟩)
 obtain ⟨I',hI⟩:∃ I':Nat->Shared->Prop,∀ k s',I' k s'↔∃ i h' tk G' acc ys,k=items.length+1 - i/\i<=items.length/\s'={s1 with heap:=h',toks:=tk}/\StW i h'/\Ext [fx.env.locals,It,Da] fx.frs G [] h0 G' [] h'/\
  St w base fx G' [] [] U h'/\h'.PlainList Da ys/\DRs w G' acc ys.toList/\ys.size<=i/\jd (J.te N) (J.ev N) ifs elt U x (items.drop i) acc K:=⟨_,fun _ _=>Iff.rfl⟩
 refine codeAny_compLoop_tests (I:=I') ?_ (items.length+1)
  ((hI _ _).mpr ⟨0,h0,tk0,G,[],#[],rfl,Nat.zero_le _,rfl,hst0,Ext.refl ..,S1,hacc0,rfl,Nat.zero_le _,by simpa using q0⟩)
 intro k s' z
 obtain ⟨i,h',tk,G',acc,ys,ek,zz⟩:=(hI _ _).mp z;obtain ⟨hi,es,hst,X,S',hpl,rs,zy⟩:=zz;obtain ⟨hys,q⟩:=zy
 subst ek;clear z;subst es
 obtain ⟨gI,gD⟩:=free X
 have uI:∀ a∈[It],a∉([]:Fp).flatten/\G' a=none/\a∉fx.own/\a∉fx.frs:=fun a ha=>by rw [List.mem_singleton] at ha;clear X hI free hCI hR hI1 hGI hWI hfp W hID;subst ha;exact ⟨by simp,gI,hoI,hfI⟩
 by_cases hlt:i<items.length
 · refine W.item i _ _ _ hlt hst fun v h2 tk2 hv hst2 kp2=>?_
   obtain ⟨d,hd,rd⟩:=hP i v hv
   have dr:items.drop i=.d d::items.drop (i+1):=by
    have hh:items[i]?=some (V.d d):=hd
    rw [List.getElem?_eq_getElem hlt] at hh
    rw [List.drop_eq_getElem_cons hlt,Option.some.inj hh]
   rw [dr] at q
   unfold jd at q
   have S2:=S'.touch (h':=h2) uI kp2
   obtain ⟨m,hn,hm⟩:=S2.fr.ns
   have dom2:∀ b o,h'.get? b=some o->∃ o',h2.get? b=some o':=fun b o e=>by
    by_cases hb:b∈[It]
    · rw [List.mem_singleton] at hb;clear kp2 uI gI X hI free hCI hR hI1 hfI hoI hGI hfp W hID;subst hb;exact hWI _ _ hst2
    · exact ⟨o,kp2 b o hb e⟩
   have X2:=X.touch (h2:=h2) (L:=[It]) (by simp) kp2 dom2
   have hpl2:h2.PlainList Da ys:=hpl.at fun o e=>kp2 _ o (by simpa using fun e=>hID e.symm) e
   refine wpAny_assign_Name (wpAny_storeName_local hx hn (fun h3 hn3 hs3=>?_) hp)
   have kp3:∀ b o,b∉[fx.env.locals]->h2.get? b=some o->h3.get? b=some o:=fun b o hb e=>(hs3.2 b (by simpa using hb)).trans e
   obtain ⟨oC,hoC⟩:∃ o,h3.get? fx.env.locals=some o:=let ⟨o,_,_,e,_⟩:=hn3;⟨o,e⟩
   have X3:=X2.touch (h2:=h3) (L:=[fx.env.locals]) (by simp) kp3 (eB hs3 hoC)
   have hpl3:h3.PlainList Da ys:=hpl2.at fun o e=>kp3 _ o (by simpa using fun e=>hCD e.symm) e
   have hst3:StW (i+1) h3:=W.frame _ _ _ hst2 fun b hb o e=>kp3 b o (by
    rw [List.mem_singleton]
    clear X3 X2 kp2 uI gI hI free hR hI1 hfI hoI hGI hWI W hID;rcases hfp b hb with rfl | ⟨o',e'⟩
    · exact Ne.symm hCI
    · intro e2
      have:=(S'.oo _ hCo).1
      rw [<- e2,X.sub b o' e'] at this;contradiction) e
   have sub3:∀ b o,G' b=some o->h3.get? b=some o:=fun b o e=>by
    refine kp3 b o ?_ (S2.sub b o e)
    rw [List.mem_singleton]
    intro e2
    have:=(S2.oo _ hCo).1
    rw [<- e2,e] at this;contradiction
   have fr3:FrR w G' [] fx.env (cK U x (.d d)) h3:=FrR.setLocal S2.fr hn3 hm hx (fun p hp o e=>kp3 _ o (by rw [List.mem_singleton];exact noC p hp) e) (by unfold VR;exact rd.mono X.sub)
   have ff3:h3.FunFrames base fx.stk:=FunFrames.touch (L:=[fx.env.locals]) (fun a ha e=>hfC (by rw [List.mem_singleton] at e;rw [<- e];exact ha)) kp3 S2.ff
   have S3:St w base fx G' [] [] (cK U x (.d d)) h3:=⟨⟨S2.bs,sub3,rfl,List.nodup_nil,fun a ha=>by simp at ha⟩,fr3,S2.oo,S2.ond,S2.fo,ff3⟩
   refine sI I ok hN (ifs:=ifs) (r0:=true) q {s1 with heap:=h3,toks:=tk2+1} S3 _ _ (fun G4 O4 Z4 b a h4 tk4 X4 S4 r4 q4=>?_) (fun G4 O4 Z4 why xx h4 tk4 X4 S4 r4 q4=>q4.elim)
   have r4':a=b:=r4
   subst r4'
   split at q4
   · have ci:=S4.cells
     unfold aq at ci
     subst ci
     have hpl4:h4.PlainList Da ys:=hpl3.at fun o e=>X4.keep _ o e (by simp) hfD (by simp)
     have hst4:StW (i+1) h4:=W.frame _ _ _ hst3 fun b hb o e=>by
      clear X3 X2 kp2 uI gI hI free hCI hR hI1 hoI hGI hWI W hID;rcases hfp b hb with rfl | ⟨o',e'⟩
      · exact X4.keep _ o e (by simp) hfI (by simp)
      · have g3:=S3.sub b o' (X.sub b o' e')
        rw [g3] at e;clear g3;cases e
        exact S4.sub b _ (X4.sub b _ (X.sub b _ e'))
     have X3':=X3.trans (X4.weaken (own':=[fx.env.locals,It,Da]) (by simp))
     cases a with
     | false=>
      have q5:=aG q4
      rw [if_neg (by decide)]
      have S4':St w base fx G4 [] [] U h4:={S4 with fr:=S4.fr.unset hUx}
      exact ⟨items.length+1 - (i+1),Nat.sub_lt_sub_left (Nat.lt_succ_of_lt hlt) (Nat.lt_succ_self i),(hI _ _).mpr ⟨i+1,h4,tk4,G4,acc,ys,rfl,hlt,rfl,hst4,X3',S4',hpl4,rs.mono X4.sub,Nat.le_succ_of_le hys,q5⟩⟩
     | true=>
      have q5:=bw q4
      rw [if_pos rfl]
      refine I.ev ok hN q5 {s1 with heap:=h4,toks:=tk4} S4 _ _ (fun G5 O5 Z5 y cy h5 tk5 X5 S5 r5 q6=>?_) (fun G5 O5 Z5 why xx h5 tk5 X5 S5 r5 q6=>q6.elim)
      dsimp only at q6
      split at q6
      · rename_i dy
        have ci:=S5.cells
        unfold aq at ci
        subst ci
        have hpl5:h5.PlainList Da ys:=hpl4.at fun o e=>X5.keep _ o e (by simp) hfD (by simp)
        have X5':=X3'.trans (X5.weaken (own':=[fx.env.locals,It,Da]) (by simp))
        obtain ⟨gI5,gD5⟩:=free X5'
        have hst5:StW (i+1) h5:=W.frame _ _ _ hst4 fun b hb o e=>by
         clear gI5 X5' X3' X3 X2 kp2 uI gI hI free hCI hR hI1 hoI hGI hWI W hID;rcases hfp b hb with rfl | ⟨o',e'⟩
         · exact X5.keep _ o e (by simp) hfI (by simp)
         · have g3:=S4.sub b o' (X4.sub b _ (X.sub b o' e'))
           rw [g3] at e;clear g3;cases e
           exact S5.sub b _ (X5.sub b _ (X4.sub b _ (X.sub b _ e')))
        refine wpAny_list_append_plain (hsz:=Nat.le_trans hys (Nat.le_trans (Nat.le_of_lt hlt) (Nat.le_trans hsz (by decide)))) hpl5 fun h6 hl6 hs6=>?_
        have kp6:∀ b o,b∉[Da]->h5.get? b=some o->h6.get? b=some o:=fun b o hb e=>(hs6.2 b (by simpa using hb)).trans e
        obtain ⟨oD,hoD6⟩:∃ o,h6.get? Da=some o:=let ⟨_,e⟩:=hl6;⟨_,e⟩
        have X6:=X5'.touch (h2:=h6) (L:=[Da]) (by simp) kp6 (eB hs6 hoD6)
        have S6:=S5.touch (h':=h6) (L:=[Da]) (fun a ha=>by rw [List.mem_singleton] at ha;clear X6 hoD6 kp6 hs6 hl6 X5' hpl5 X3' hpl4 hpl3 X3 hpl2 X2 gD hpl X hI free hCD hacc0 hR hD1 hGD hID;subst ha;exact ⟨by simp,gD5,hoD,hfD⟩) kp6
        have hst6:StW (i+1) h6:=W.frame _ _ _ hst5 fun b hb o e=>kp6 b o (by
         rw [List.mem_singleton]
         clear X6 gI5 X5' X3' X3 X2 kp2 uI gI hI free hCI hR hI1 hfI hoI hGI hWI W;rcases hfp b hb with rfl | ⟨o',e'⟩
         · exact hID
         · intro e2
           have:=X5.sub b _ (X4.sub b _ (X.sub b o' e'))
           rw [e2,gD5] at this;contradiction) e
        have S6':St w base fx G5 [] [] U h6:={S6 with fr:=S6.fr.unset hUx}
        refine ⟨items.length+1 - (i+1),Nat.sub_lt_sub_left (Nat.lt_succ_of_lt hlt) (Nat.lt_succ_self i),(hI _ _).mpr ⟨i+1,h6,tk5,G5,acc++[dy],ys.push cy,rfl,hlt,rfl,hst6,X6,S6',hl6,?_,by rw [Array.size_push];exact Nat.succ_le_succ hys,q6⟩⟩
        rw [Array.toList_push]
        refine ((rs.mono X4.sub).mono X5.sub).append ?_
        unfold DRs
        exact ⟨cy,[],rfl,r5,rfl⟩
      · exact q6.elim
   · exact q4.elim
 · have hin:i=items.length:=Nat.le_antisymm hi (Nat.le_of_not_lt hlt)
   clear hlt hys hi;subst hin
   rw [List.drop_length] at q
   refine W.done _ _ _ hst fun h2 tk2 kp2=>?_
   exact hR G' h' h2 tk2 acc ys X kp2 (S'.touch uI kp2) (hpl.at fun o e=>kp2 _ o (by simpa using fun e=>hID e.symm) e) rs q
end
end Mine
namespace Mine
open PySem PySem.W PyProof.Rows PySem.SeqAt
noncomputable def clF (env:Env):aC->List (Str×Addr)->List (Str×Addr)
 | [],acc=>acc
 | (x,k)::r,acc=>match k==NameKind.free with
  | true=>clF env r ((x,(env.cells.lookup x).getD 0)::acc)
  | false=>clF env r acc
theorem wM {env:Env}:∀ (names:aC) (acc:List (Str×Addr)),(∀ p∈names,p.2=.free->∃ a,env.cells.lookup p.1=some a)->
  (forIn names acc fun x r=>(do
   let cs:=r
   if (x.2==NameKind.free)=true then do
    let a <- cellOf env x.1
    pure (ForInStep.yield ((x.1,a)::cs))
   else pure (ForInStep.yield cs):Sem (ForInStep (List (Str×Addr)))))=(pure (clF env names acc):Sem _):=by
 intro names
 induction names with
 | nil=>
  intro acc _
  exact rfl
 | cons hd_ r ih=>
  intro acc h
  obtain ⟨x,k⟩:=hd_
  rw [List.forIn_cons]
  cases hk:k==NameKind.free with
  | true=>
   have hf:k=.free:=by clear h;cases k <;> first | rfl | contradiction
   obtain ⟨a,ha⟩:=h (x,k) (.head _) hf
   have hc:cellOf env x=pure a:=by unfold cellOf;rw [show env.cells.lookup x=some a from ha]
   have e2:clF env ((x,k)::r) acc=clF env r ((x,a)::acc):=by
    show (match k==NameKind.free with | true=>clF env r ((x,(env.cells.lookup x).getD 0)::acc) | false=>clF env r acc)=_
    rw [hk,show env.cells.lookup x=some a from ha];rfl
   simp only [hk,if_true]
   rw [hc,e2]
   exact ih ((x,a)::acc) fun p hp=>h p (.tail _ hp)
  | false=>
   have e2:clF env ((x,k)::r) acc=clF env r acc:=by
    show (match k==NameKind.free with | true=>clF env r ((x,(env.cells.lookup x).getD 0)::acc) | false=>clF env r acc)=_
    rw [hk]
   simp only [hk,Bool.false_eq_true,if_false]
   rw [e2]
   exact ih acc fun p hp=>h p (.tail _ hp)
theorem gf {scope:Scope} {env:Env} (h:∀ p∈scope.names,p.2=.free->∃ a,env.cells.lookup p.1=some a):closureFor scope env=pure (clF env scope.names []):=by
 have e:=wM scope.names [] h
 unfold closureFor
 show (forIn scope.names [] _>>=fun r=>pure r)=_
 have:∀ t:Sem (List (Str×Addr)),t=pure (clF env scope.names [])->(t>>=fun r=>pure r)=pure (clF env scope.names []):=fun t ht=>by rw [ht];rfl
 refine this _ ?_
 rw [<- e]
theorem jr {env:Env}:∀ (names:aC) (acc:List (Str×Addr)) (p:Str×Addr),p∈clF env names acc->p∈acc\/((p.1,NameKind.free)∈names/\p.2=(env.cells.lookup p.1).getD 0)
 | [],acc,p,h=>.inl h
 | (x,k)::r,acc,p,h=>by
  unfold clF at h
  split at h
  · rename_i hk
    have hf:k=.free:=by cases k <;> first | rfl | contradiction
    clear hk;subst hf
    rcases jr r _ p h with q | q
    · clear h;rcases List.mem_cons.mp q with rfl | q
      · exact .inr ⟨.head _,rfl⟩
      · exact .inl q
    · exact .inr ⟨.tail _ q.1,q.2⟩
  · rcases jr r _ p h with q | q
    · exact .inl q
    · exact .inr ⟨.tail _ q.1,q.2⟩
theorem kn {env:Env}:∀ (names:aC) (acc:List (Str×Addr)),(names.map (·.1)).Nodup->(acc.map (·.1)).Nodup->(∀ p∈acc,p.1∉names.map (·.1))->((clF env names acc).map (·.1)).Nodup:=by
 intro names
 induction names with
 | nil=>
  intro acc _ h _
  exact h
 | cons hd_ r ih=>
  intro acc nd h hd
  obtain ⟨x,k⟩:=hd_
  rw [List.map_cons,List.nodup_cons] at nd
  unfold clF
  split
  · refine ih _ nd.2 ?_ ?_
    · rw [List.map_cons,List.nodup_cons]
      refine ⟨fun q=>?_,h⟩
      obtain ⟨p,hp,e⟩:=List.mem_map.mp q
      exact hd p hp (by rw [e];simp)
    · intro p hp q
      rcases List.mem_cons.mp hp with rfl | hp
      · exact nd.1 q
      · exact hd p hp (by rw [List.map_cons];exact .tail _ q)
  · exact ih acc nd.2 h fun p hp q=>hd p hp (by rw [List.map_cons];exact .tail _ q)
theorem fY {env:Env}:∀ (names:aC) (acc:List (Str×Addr)) (x:Str),((x,NameKind.free)∈names\/∃ a,(x,a)∈acc)->∃ a,(x,a)∈clF env names acc
 | [],acc,x,h=>h.elim (fun q=>nomatch q) id
 | (y,k)::r,acc,x,h=>by
  unfold clF
  split
  · rcases h with h | ⟨a,h⟩
    · rcases List.mem_cons.mp h with e | h
      · clear h;cases e
        exact fY r _ y (.inr ⟨_,.head _⟩)
      · exact fY r _ x (.inl h)
    · exact fY r _ x (.inr ⟨a,.tail _ h⟩)
  · rename_i hk
    rcases h with h | ⟨a,h⟩
    · rcases List.mem_cons.mp h with e | h
      · clear h;cases e;contradiction
      · exact fY r _ x (.inl h)
    · exact fY r _ x (.inr ⟨a,h⟩)
theorem iF {U:Loc}:∀ {names:aC} {y:Str} {v:V},(iG U names).lookup y=some v->(y,NameKind.free)∈names/\U.lookup y=some v/\∃ d,v=.d d:=by
 intro names y v
 induction names with
 | nil=>exact fun e=>nS e
 | cons p r ih=>
  obtain ⟨x,k⟩:=p
  intro e
  have rest:(iG U r).lookup y=some v->(y,NameKind.free)∈(x,k)::r/\U.lookup y=some v/\∃ d,v=.d d:=fun e=>let ⟨h1,h2,h3⟩:=ih e;⟨.tail _ h1,h2,h3⟩
  cases k
  case free=>
   unfold iG at e
   split at e
   · rename_i d hd
     exact lL e (fun q e2=>⟨q▸.head _,by rw [q,<- e2];exact hd,d,e2.symm⟩) fun _ e=>rest e
   · exact rest e
  all_goals exact rest e
theorem dg:∀ {l:aC} {x:Str} {k:NameKind},(l.map (·.1)).Nodup->(x,k)∈l->l.lookup x=some k
 | [],_,_,_,h=>nomatch h
 | (y,j)::r,x,k,nd,h=>by
  rw [List.map_cons,List.nodup_cons] at nd
  rw [List.lookup_cons]
  rcases List.mem_cons.mp h with e | h
  · clear h;cases e;simp
  · have:x≠y:=fun q=>nd.1 (List.mem_map.mpr ⟨_,h,q⟩)
    rw [beq_eq_false_iff_ne.mpr this]
    exact dg nd.2 h
section
variable {w:World} {base:Heap} {fx:Fx} {U:Loc} {G:PH} {O:Fp} {Z:List aa} {E:Str->List aa->Prop} {α β γ δ:Type} {h h':Heap} {n:Nat} {N:aC} {J:Ev} {S:Tab}
theorem kJ {scope:Scope} (ok:aE base n fx) (hN:FxN fx N):(relabel scope fx.env).names=em N scope.names:=by
 show scope.names.map _=scope.names.map _
 refine List.map_congr_left fun p hp=>?_
 obtain ⟨x,k⟩:=p
 have hk:fx.env.scope.kind=.function:=ok.kind
 have hx:fx.env.kindOf x=N.lookup x:=hN.kind x
 show (if (k==NameKind.free&&fx.env.scope.kind==.function&&fx.env.kindOf x==some .cell)=true then (x,NameKind.cell) else (x,k))=_
 rw [hk,hx]
 cases k with
 | free=>
  cases hl:N.lookup x with
  | none=>simp [hl]
  | some j=>cases j <;> simp [hl]
 | _=>simp
noncomputable def fxC (fx:Fx) (sc:Scope) (C:Addr):Fx:=⟨compEnvC sc (clF fx.env sc.names []) C fx.env,fx.A,fx.stk⟩
theorem BM {sc:Scope} {C:Addr} (ok:aE base n fx) (hk:sc.kind=.function):aE base n (fxC fx sc C):=⟨hk,ok.glob,ok.blt,ok.hand,ok.frames,ok.depth,ok.units,ok.top⟩
structure sZ (N:aC) (sc:Scope) (x:Str):Prop where
 kind:sc.kind=.function
 nocell:∀ p∈sc.names,p.2≠.cell
 names:∀ p∈sc.names,p.2=.local->sc.names.lookup p.1=some .local
 free:∀ p∈sc.names,p.2=.free->N.lookup p.1=some .cell
 nd:(sc.names.map (·.1)).Nodup
 hx:sc.names.lookup x=some .local
theorem qZ {N:aC} {x:Str} (h:x4 N x=true):N.lookup x=some .local:=by
 unfold x4 at h
 cases e:N.lookup x with
 | none=>rw [e] at h;exact aX h
 | some k=>cases k <;> first | rfl | (rw [e] at h;exact aX h)
theorem re {N:aC} {x:Str} (h:yj N x=true):N.lookup x=some .globalImplicit:=by
 unfold yj at h
 cases e:N.lookup x with
 | none=>rw [e] at h;exact aX h
 | some k=>cases k <;> first | rfl | (rw [e] at h;exact aX h)
theorem qF {sc:Scope} {x:Str} (h:AO N sc x=true):sZ N sc x:=by
 unfold AO at h
 simp only [Bool.and_eq_true] at h
 obtain ⟨h1,h2,h3,h4,h5,h6⟩:=h
 refine ⟨?_,fun p hp e=>?_,fun p hp e=>?_,fun p hp e=>?_,gp h4,?_⟩
 · cases hk:sc.kind <;> rw [hk] at h5 <;> first | rfl | exact aX h5
 · have:=List.all_eq_true.mp h1 p hp
   simp only [e] at this
   contradiction
 · have:=List.all_eq_true.mp h2 p hp
   simp only [e] at this
   split at this
   · rename_i q;exact q
   · contradiction
   · rename_i q _;exact absurd rfl q
 · have:=List.all_eq_true.mp h3 p hp
   simp only [e] at this
   split at this
   · rename_i q;exact q
   · contradiction
   · rename_i q1 q2;first | exact (q2 rfl).elim | exact (q1 rfl).elim
 · exact qZ h6
theorem zB {sc:Scope} {C:Addr} {x:Str} (ok:aE base n fx) (hN:FxN fx N) (hs:sZ N sc x):FxN (fxC fx sc C) (em N sc.names):=by
 refine ⟨kJ ok hN,fun y hy=>?_,kn (env:=fx.env) sc.names [] hs.nd (by simp) (by simp)⟩
 have hy2:∃ k,(y,k)∈sc.names/\(k=.free\/k=.cell):=by
  have hm:=bA hy
  unfold em at hm
  obtain ⟨p,hp,e⟩:=List.mem_map.mp hm
  obtain ⟨z,k⟩:=p
  cases k with
  | free=>
   simp only at e
   split at e <;> (try cases e) <;> exact ⟨.free,hp,.inl rfl⟩
  | cell=>cases e;exact ⟨.cell,hp,.inr rfl⟩
  | _=>cases e
 obtain ⟨k,hm,hk⟩:=hy2
 rcases hk with rfl | rfl
 · obtain ⟨a,ha⟩:=fY (env:=fx.env) sc.names [] y (.inl hm)
   refine ⟨a,?_⟩
   have nd:=kn (env:=fx.env) sc.names [] hs.nd (by simp) (by simp)
   exact b9 nd ha
 · exact absurd rfl (hs.nocell _ hm)
end
end Mine
namespace Mine
open PySem PySem.W PyProof.Rows PySem.SeqAt
section
variable {w:World} {base:Heap} {fx:Fx} {U:Loc} {G:PH} {O:Fp} {Z:List aa} {E:Str->List aa->Prop} {α β γ δ:Type} {h h':Heap} {n:Nat} {N:aC} {J:Ev} {S:Tab}
theorem qi {sc:Scope} {x:Str} {C:Addr} {h1:Heap} (ok:aE base n fx) (hN:FxN fx N) (hs:sZ N sc x) (S:St w base fx G O Z U h) (pk:∀ b o,h.get? b=some o->h1.get? b=some o) (fC:h.get? C=none) {m:Str->Option Value} (hn:h1.Ns C m):
  St w base (fxC fx sc C) G [] [] (iG U sc.names) h1:=by
 have gC:G C=none:=by
  cases e:G C with
  | none=>rfl
  | some o=>have:=S.sub _ _ e;rw [fC] at this;contradiction
 have free:∀ p∈sc.names,p.2=.free->∃ a,fx.env.cells.lookup p.1=some a:=fun p hp e=>hN.cell _ (hs.free p hp e)
 have mem:∀ p∈clF fx.env sc.names [],p∈fx.env.cells/\(p.1,NameKind.free)∈sc.names:=fun p hp=>by
  rcases jr _ _ p hp with q | q
  · contradiction
  · obtain ⟨a,ha⟩:=free _ q.1 rfl
    have e2:=q.2
    rw [ha] at e2
    have e3:p=(p.1,a):=Prod.ext rfl e2
    exact ⟨by rw [e3];exact bA ha,q.1⟩
 have own:∀ a∈(clF fx.env sc.names []).map (·.2),a∈fx.own:=fun a ha=>by
  obtain ⟨p,hp,rfl⟩:=List.mem_map.mp ha
  exact .tail _ (List.mem_map.mpr ⟨p,(mem p hp).1,rfl⟩)
 have kindC:∀ y,(fxC fx sc C).env.kindOf y=(em N sc.names).lookup y:=fun y=>(zB ok hN hs).kind y
 have noloc:∀ y,(y,NameKind.free)∈sc.names->(fxC fx sc C).env.kindOf y≠some .local:=fun y hy e=>by
  rw [kindC] at e
  have hm:=bA e
  unfold em at hm
  obtain ⟨p,hp,e2⟩:=List.mem_map.mp hm
  obtain ⟨z,k⟩:=p
  have h1:=dg hs.nd hy
  cases k with
  | «local»=>
   cases e2
   have h2:=dg hs.nd hp
   rw [h1] at h2;contradiction
  | free=>simp only at e2;clear h1;split at e2 <;> cases e2
  | _=>cases e2
 refine ⟨⟨S.bs,fun b o e=>pk b o (S.sub b o e),rfl,List.nodup_nil,fun a ha=>by simp at ha⟩,⟨⟨m,hn,fun y v e k=>?_⟩,fun p hp=>?_⟩,fun a ha=>?_,?_,fun a ha=>⟨by simp,(S.fo a ha).2⟩,S.ff.of_keeps fun b o e _=>⟨o,pk b o e,rfl⟩⟩
 · exact absurd k (noloc y (iF e).1)
 · obtain ⟨co,zz,hv⟩:=S.fr.ce p (mem p hp).1;obtain ⟨o,ho,hd⟩:=zz
   refine ⟨co,⟨o,pk _ _ ho,hd⟩,fun v e k=>?_⟩
   obtain ⟨e1,e2,d,rfl⟩:=iF e
   obtain ⟨c,hc,r⟩:=hv _ e2 ((hN.kind _).trans (hs.free _ e1 rfl))
   exact ⟨c,hc,by unfold VR at r ⊢;exact r⟩
 · clear noloc kindC hn fC;rcases List.mem_cons.mp ha with rfl | ha
   · exact ⟨gC,by simp⟩
   · exact ⟨(S.oo a (own a ha)).1,by simp⟩
 · have nd:=S.ond
   unfold Fx.own at nd
   rw [List.nodup_cons] at nd
   refine List.nodup_cons.mpr ⟨fun q=>?_,?_⟩
   · obtain ⟨o,e⟩:=S.own_ex _ (own _ q)
     rw [show (fxC fx sc C).env.locals=C from rfl,fC] at e;contradiction
   · have ndk:=kn (env:=fx.env) sc.names [] hs.nd (by simp) (by simp)
     show ((clF fx.env sc.names []).map (·.2)).Nodup
     have key:∀ {l:List (Str×Addr)},(l.map (·.1)).Nodup->(∀ p∈l,p∈fx.env.cells)->(l.map (·.2)).Nodup:=by
      intro l
      induction l with
      | nil=>intro _ _;simp
      | cons p l ih=>
       intro nk hm
       rw [List.map_cons,List.nodup_cons] at nk ⊢
       refine ⟨fun q=>?_,ih nk.2 fun p' hp'=>hm p' (.tail _ hp')⟩
       obtain ⟨p',hp',e⟩:=List.mem_map.mp q
       have inj:∀ {L:List (Str×Addr)} {a b:Str×Addr},(L.map (·.2)).Nodup->a∈L->b∈L->a.2=b.2->a=b:=by
        intro L
        induction L with
        | nil=>intro a b _ ha;contradiction
        | cons c L ihL=>
         intro a b nL ha hb e
         rw [List.map_cons,List.nodup_cons] at nL
         rcases List.mem_cons.mp ha with h1 | h1 <;> rcases List.mem_cons.mp hb with h2 | h2
         · rw [h1,h2]
         · exact absurd (List.mem_map.mpr ⟨b,h2,by rw [<- e,h1]⟩) nL.1
         · exact absurd (List.mem_map.mpr ⟨a,h1,by rw [e,h2]⟩) nL.1
         · exact ihL nL.2 h1 h2 e
       have e3:=inj nd.2 (hm p' (.tail _ hp')) (hm p (.head _)) e
       exact nk.1 (List.mem_map.mpr ⟨p',hp',by rw [e3]⟩)
     exact key ndk fun p hp=>(mem p hp).1
theorem lT (I:aV w base n J) (ok:aE base n fx) (hN:FxN fx N) {elt iter:Expr} {x:Str} {px:Pos} {ifs:List Expr} {sc:Scope} {pos:Pos} (hs:sZ N sc x) {G1:PH} {O1:Fp} {Z1:List aa} {sv:V} {cv:Value} {items:List V} {K:List D->Prop}
  {use:Option (Value->Sem Unit)} (r:VR w G1 O1 sv cv) (ei:bS sv=some items) (cg:de items=true/\Nat.ble items.length 1048576=true) (q1:jd (J.te (em N sc.names)) (J.ev (em N sc.names)) ifs elt (iG U sc.names) x items [] K)
  {s:Shared} (S:St w base fx G1 O1 Z1 U s.heap) {QQ EE:Value->Shared->Prop}
  (fin:∀ G' h' tk acc (Da C:Addr),St w base fx G' (O1++[[Da]]) (Z1++[.oc (.li acc)]) U h'->Ext [] fx.frs G1 O1 s.heap G' (O1++[[Da]]) h'->(∀ a∈[C],a∉(O1++[[Da]]).flatten/\G' a=none/\a∉fx.own/\a∉fx.frs)->(∃ m,h'.Ns C m)->s.heap.get? C=none->K acc->
   compPost (model PR w) fx.A EE use QQ (.ref Da) C (.ok .next) {s with heap:=h',toks:=tk}):
  wpAny (model PR w) fx.A (pyIter cv) (fun it s₂=>wpAny (model PR w) fx.A (newList []) (fun acc s₃=>
   wpAny (model PR w) fx.A (newFunctionEnv sc fx.env.globals (clF fx.env sc.names []) [] fx.env.qual none .none (some fx.env)) (fun cenv s₄=>
    codeAny (model PR w) fx.A (.compStart (.ListComp elt [⟨.Name x px,iter,ifs,0⟩] sc pos) 0 it acc {cenv with scope:=relabel sc fx.env}) (compPost (model PR w) fx.A EE use QQ acc cenv.locals) s₄) EE s₃) EE s₂) EE s:=by
 exists w,base,fx,U,n,N,J,elt,iter,x,px,ifs,sc,pos,G1,O1,Z1,sv,cv,items,K,use,s,QQ,EE,_ I ok hN hs r ei cg q1 S fin
 have free:∀ p∈sc.names,p.2=.free->∃ a,fx.env.cells.lookup p.1=some a:=fun p hp e=>hN.cell _ (hs.free p hp e)
 refine oi ok r ei S fun o fp P StW hof W hfp hst0 hP hWI=>?_;exists o,fp,P,StW,_ hof W hfp hst0 hP hWI
 refine wpAny_newObj_type (wpAny_newFunctionEnv hs.nocell (by intro y hy;simp at hy) (fun h3 hn3 hs3=>?_) hs.kind)
 dsimp only at hn3 hs3 ⊢
 generalize hH1:s.heap.push o=H1 at hn3 hs3 ⊢ hst0
 have sz1:H1.objs.size=s.heap.objs.size+1:=by rw [<- hH1,Heap.size_push]
 generalize hH2:H1.push {cls:=.type "list",dict:=none,data:=.seq ([]:List Value).toArray}=H2 at hn3 hs3 ⊢
 have sz2:H2.objs.size=s.heap.objs.size+2:=by rw [<- hH2,Heap.size_push,sz1]
 have ne12:s.heap.objs.size≠H1.objs.size:=by rw [sz1];exact Nat.ne_of_lt (Nat.lt_succ_self _)
 have ne13:s.heap.objs.size≠H2.objs.size:=by rw [sz2];exact Nat.ne_of_lt (Nat.lt_succ_of_lt (Nat.lt_succ_self _))
 have ne23:H1.objs.size≠H2.objs.size:=by rw [sz1,sz2];exact Nat.ne_of_lt (Nat.lt_succ_self _)
 have le1:s.heap.objs.size<=H1.objs.size:=by rw [sz1];exact Nat.le_succ _
 have le2:s.heap.objs.size<=H2.objs.size:=by rw [sz2];exact Nat.le_add_right _ _
 have old1:∀ b o',s.heap.get? b=some o'->H1.get? b=some o':=fun b o' e=>hH1▸Heap.get?_push_of_some _ e
 have old12:∀ b o',H1.get? b=some o'->H2.get? b=some o':=fun b o' e=>hH2▸Heap.get?_push_of_some _ e
 have old23:∀ b o',H2.get? b=some o'->h3.get? b=some o':=fun b o' e=>by
  refine (hs3.2 b ?_).trans (Heap.get?_push_of_some _ e)
  exact Nat.ne_of_lt (Heap.lt_size e)
 have pk:∀ b o',s.heap.get? b=some o'->h3.get? b=some o':=fun b o' e=>old23 _ _ (old12 _ _ (old1 _ _ e))
 have fresh:∀ a,s.heap.objs.size<=a->s.heap.get? a=none:=fun a ha=>by
  cases e:s.heap.get? a with
  | none=>rfl
  | some o'=>exact absurd (Heap.lt_size e) (Nat.not_lt.mpr ha)
 have hIf:=fresh s.heap.objs.size (Nat.le_refl _)
 have hDf:=fresh H1.objs.size le1
 have hCf:=fresh H2.objs.size le2
 have ne_own:∀ a,s.heap.get? a=none->a∉fx.own/\a∉fx.frs/\G1 a=none:=fun a ha=>by
  refine ⟨fun z=>?_,fun z=>?_,?_⟩
  · obtain ⟨o',e⟩:=S.own_ex a z;rw [ha] at e;contradiction
  · obtain ⟨o',e⟩:=S.frs_ex a z;rw [ha] at e;contradiction
  · cases e:G1 a with
    | none=>rfl
    | some o'=>have:=S.sub _ _ e;rw [ha] at this;contradiction
 have hI1:∃ o',h3.get? s.heap.objs.size=some o':=⟨_,old23 _ _ (old12 _ _ (hH1▸Heap.get?_push_size _ hof))⟩
 have hD1:h3.PlainList H1.objs.size #[]:=⟨0,old23 _ _ (hH2▸Heap.get?_push_size _ rfl)⟩
 have hst3:StW 0 h3:=W.frame _ _ _ hst0 fun b hb o' e=>old23 _ _ (old12 _ _ e)
 have S3:=qi (C:=H2.objs.size) ok hN hs S pk hCf hn3
 have ownC:∀ a,a≠H2.objs.size->s.heap.get? a=none->a∉(fxC fx sc H2.objs.size).own:=fun a hne ha z=>by
  rcases List.mem_cons.mp z with z | z
  · exact hne z
  · clear hne;obtain ⟨p,hp,rfl⟩:=List.mem_map.mp z
    clear z;rcases jr _ _ p hp with q | q
    · contradiction
    · obtain ⟨a',ha'⟩:=free _ q.1 rfl
      have e2:=q.2
      rw [ha'] at e2
      exact (ne_own _ ha).1 (.tail _ (List.mem_map.mpr ⟨_,bA ha',by rw [e2];rfl⟩))
 have hP':∀ i v,P i v->∃ d,items[i]?=some (.d d)/\DR w G1 d v:=fun i v hv=>by
  obtain ⟨y,hy,ry⟩:=hP i v hv
  have:∃ d,y=.d d:=by
   have key:∀ {l:List V} {i:Nat},de l=true->l[i]?=some y->∃ d,y=.d d:=by
    intro l
    induction l with
    | nil=>intro i _ e;simp at e
    | cons z l ih=>
     intro i ha e
     cases z with
     | d dz=>
      cases i with
      | zero=>simp at e;exact ⟨dz,e.symm⟩
      | succ i=>exact ih (i:=i) ha (by simpa using e)
     | _=>contradiction
   exact key cg.1 hy
  obtain ⟨d,rfl⟩:=this
  exact ⟨d,hy,by unfold VR at ry;exact ry⟩
 have hcap:(iG U sc.names).lookup x=none:=by
  cases e:(iG U sc.names).lookup x with
  | none=>rfl
  | some v=>
   have:=dg hs.nd (iF e).1
   rw [hs.hx] at this;contradiction
 have loop:=sV (fx:=fxC fx sc H2.objs.size) (N:=em N sc.names) (U:=iG U sc.names) (G:=G1) (It:=s.heap.objs.size) (Da:=H1.objs.size) (h1:=h3) (elt:=elt) (iter:=iter) (x:=x) (px:=px) (ifs:=ifs) (scope:=sc) (pos:=pos)
  (R:=compPost (model PR w) fx.A EE use QQ (.ref H1.objs.size) H2.objs.size) (K:=K) (s1:=s)
  I (BM ok hs.kind) (zB ok hN hs) (lookup_relabel_local hs.hx) hcap (by show ((sc.kind==ScopeKind.class)||((sc.kind==ScopeKind.module)&&_))=false;rw [hs.kind];rfl) ne12 W hfp hP' (Nat.le_of_ble_eq_true cg.2) (fun i h hs=>let ⟨o,e,_⟩:=hWI i h hs;⟨o,e⟩) hI1
  (let ⟨_,e⟩:=hD1;⟨_,e⟩) (ne_own _ hIf).2.2 (ne_own _ hDf).2.2 (ownC _ ne13 hIf) (ownC _ ne23 hDf) (ne_own _ hIf).2.1 (ne_own _ hDf).2.1 (ne_own _ hCf).2.1 S3 (by
   intro G' hE h' tk acc ys X kpE S' hl rs hK
   obtain ⟨m',hnC,hmC⟩:=S'.fr.ns
   have X5:Ext [] fx.frs G1 [] s.heap G' [] h':=Ext.fin X pk kpE (fun b hb=>by rw [List.mem_singleton] at hb;subst hb;exact hIf) (fun b hb=>by
    rcases List.mem_cons.mp hb with rfl | hb
    · exact .inr hCf
    · rcases List.mem_cons.mp hb with rfl | hb
      · exact .inr hIf
      · rw [List.mem_singleton] at hb;subst hb;exact .inr hDf)
   have gC:G' H2.objs.size=none:=(S'.oo _ (.head _)).1
   obtain ⟨S6,X6⟩:=S.after0 X5 S'.toSim S'.ff (fun b hb=>⟨by simp,(S'.fo b hb).2⟩)
   rw [List.append_nil,List.append_nil] at S6
   rw [List.append_nil] at X6
   have gD:G' H1.objs.size=none:=by
    cases e:G' H1.objs.size with
    | none=>rfl
    | some o'=>
     rcases X.newG _ o' e with z | z | z
     · rw [(ne_own _ hDf).2.2] at z;contradiction
     · obtain ⟨_,e'⟩:=hD1;rw [z] at e';contradiction
     · simp at z
   have nO:∀ a,s.heap.get? a=none->a∉O1.flatten:=fun a ha z=>by obtain ⟨o',e⟩:=S.cells.ex _ z;rw [ha] at e;contradiction
   obtain ⟨S7,X7⟩:=St.adopt (fp:=[H1.objs.size]) (c:=.oc (.li acc)) (h':=h') S6 X6 (fun a ha=>by rw [List.mem_singleton] at ha;subst ha;exact hDf)
    (fun a ha=>by rw [List.mem_singleton] at ha;subst ha;exact ⟨nO _ hDf,gD,(ne_own _ hDf).1,(ne_own _ hDf).2.1⟩) (by simp) (by
     exact ⟨_,rfl,ys.toList,by simpa using hl,rs⟩) (fun b o' _ e=>e) (fun b o' e=>⟨o',e⟩)
   refine fin G' h' tk acc H1.objs.size H2.objs.size S7 X7 (fun a ha=>?_) ⟨m',hnC⟩ hCf hK
   rw [List.mem_singleton] at ha;subst ha
   refine ⟨fun z=>?_,gC,(ne_own _ hCf).1,(ne_own _ hCf).2.1⟩
   rw [aJ] at z
   rcases List.mem_append.mp z with z | z
   · exact nO _ hCf z
   · simp at z;exact ne23 z.symm) {s with heap:=h3,toks:=s.toks} h3 s.toks rfl rfl hst3 hD1 q1
 refine codeAny_compStart_list loop (W.self 0 _ _ _ hst3 loop)
theorem mV (I:aV w base n J) (ok:aE base n fx) (hN:FxN fx N) {elt iter:Expr} {x:Str} {px:Pos} {ifs:List Expr} {sc:Scope} {pos:Pos} {Q:QV} (hi:fw iter=false) (hs:sZ N sc x)
  (q:J.ev N iter U Z (fun sv Z1=>match bS sv with
   | some items=>grd (de items&&Nat.ble items.length 1048576) <| jd (J.te (em N sc.names)) (J.ev (em N sc.names)) ifs elt (iG U sc.names) x items [] fun l=>Q (.ref Z1.length) (Z1++[.oc (.li l)])
   | none=>False) E):bN w base fx U G O Z (eval (.ListComp elt [⟨.Name x px,iter,ifs,0⟩] sc pos) fx.env) Q E:=by
 have free:∀ p∈sc.names,p.2=.free->∃ a,fx.env.cells.lookup p.1=some a:=fun p hp e=>hN.cell _ (hs.free p hp e)
 have hclos:=gf (scope:=sc) (env:=fx.env) free
 have hset:∀ v,foldedSetIterable iter fx.env v=pure v:=fun v=>by clear q;cases iter <;> first | rfl | contradiction
 refine aH.to (aH.seq (t:=eval iter fx.env) (R:=VR w) (P:=fun cv QQ EE s=>wpAny (model PR w) fx.A (pyIter cv) (fun it s₂=>wpAny (model PR w) fx.A (newList []) (fun acc s₃=>
   wpAny (model PR w) fx.A (newFunctionEnv sc fx.env.globals (clF fx.env sc.names []) [] fx.env.qual none .none (some fx.env)) (fun cenv s₄=>
    codeAny (model PR w) fx.A (.compStart (.ListComp elt [⟨.Name x px,iter,ifs,0⟩] sc pos) 0 it acc {cenv with scope:=relabel sc fx.env}) (compPost (model PR w) fx.A EE none QQ acc cenv.locals) s₄) EE s₃) EE s₂) EE s)
  (fun QQ EE s h=>by rw [eval_ListComp];exact wpAny_comprehension_free (use:=none) rfl hset hclos hs.kind hs.names h) (I.ev ok hN q) ?_)
 intro G1 O1 Z1 sv cv x1 ix1 r q1
 split at q1
 · rename_i items ei
   replace q1:=ab.mp q1
   obtain ⟨cg,q1⟩:=q1
   rw [Bool.and_eq_true] at cg
   intro s S QQ EE hq he
   refine lT I ok hN hs r ei cg q1 S fun G' h' tk acc Da C S7 X7 hC hnC hCf hK=>?_
   obtain ⟨m',hnC⟩:=hnC
   refine ⟨m',hnC,fun h5 hs5=>?_⟩
   have kp5:∀ b o',b∉[C]->h'.get? b=some o'->h5.get? b=some o':=fun b o' hb e=>(hs5.2 b (by simpa using hb)).trans e
   have S8:=S7.touch (h':=h5) hC kp5
   have X8:Ext [] fx.frs G1 O1 s.heap G' (O1++[[Da]]) h5:=Ext.fin X7 (fun _ _ e=>e) kp5 (fun b hb=>by rw [List.mem_singleton] at hb;rw [hb];exact hCf) (fun b hb=>by contradiction)
   refine hq G' _ _ (.ref Z1.length) _ h5 tk X8 S8 ?_ hK
   unfold VR
   have hl:=S.cells.len
   refine ⟨by simp [hl],fun a r e=>?_⟩
   rw [<- hl,List.getElem?_append_right (Nat.le_refl _)] at e
   simp at e
   rw [e.1]
 · exact q1.elim
end
end Mine
namespace Mine
open PySem PySem.W PyProof.Rows PySem.SeqAt
section
variable {w:World} {base:Heap} {fx:Fx} {U:Loc} {G:PH} {O:Fp} {Z:List aa} {E:Str->List aa->Prop} {α β γ δ:Type} {h h':Heap} {n:Nat} {N:aC} {J:Ev} {S:Tab}
theorem n9 (W:Wd w base) (SO:SOk w base n S) (I:aV w base n J) (ok:aE base n fx) (hN:FxN fx N) {e:Expr} {Q:QV} (q:dU S J N e U Z Q E):bN w base fx U G O Z (eval e fx.env) Q E:=by
 exists w,base,fx,U,G,O,Z,E,n,N,J,S,e,Q,_ W SO I ok hN q
 cases e with
 | Constant c k p=>
  unfold dU at q
  dsimp only at q
  split at q
  · rename_i x hc;exact lR hc q
  · exact q.elim
 | Name x p=>
  obtain ⟨c,q⟩:=ab.mp q
  exact wl W ok hN c q
 | BinOp l op r p=>exact sR I ok hN q
 | UnaryOp op x p=>cases op with
  | Not=>exact yH I ok hN q
  | USub=>exact yI I ok hN q
  | _=>exact q.elim
 | IfExp t b o p=>exact sP I ok hN q
 | Compare l ops rs p=>
  unfold dU at q
  dsimp only at q
  split at q
  · rename_i op r e1 e2
    obtain rfl:=cq e1;obtain rfl:=cq e2
    exact ow W I ok hN q
  · exact q.elim
 | BoolOp op es p=>
  unfold dU at q
  dsimp only at q
  split at q
  · rename_i p2 e1
    obtain rfl:=tF e1
    cases op with
    | And=>exact wA I ok hN q
    | Or=>exact yG I ok hN q
  · exact q.elim
 | Tuple es k p=>exact sM I ok hN q
 | List es p=>exact ww I ok hN q
 | Dict ks vs p=>exact wx W I ok hN q
 | Subscript v i p=>
  unfold dU at q
  dsimp only at q
  split at q
  · rename_i s e1
    obtain rfl:=rX e1
    exact sN I ok hN q
  · obtain ⟨c,q⟩:=ab.mp q
    exact yF I ok hN (nt c) q
 | Attribute v f p=>
  obtain ⟨c,q⟩:=ab.mp q
  exact kY W I ok hN (nt c) q
 | Call f args kws p=>
  obtain ⟨ck,q1⟩:=ab.mp q
  clear q
  obtain rfl:=List.isEmpty_iff.mp ck
  split at q1
  · rename_i m e1
    obtain ⟨o,nm,ap⟩:=m
    split at q1
    · rename_i a e2
      obtain ⟨c,q2⟩:=ab.mp q1
      obtain rfl:=eq e1;obtain rfl:=cq e2
      rw [Bool.and_eq_true,Bool.and_eq_true] at c
      exact qg I ok hN (nt c.1.1) c.1.2 (nt c.2) q2
    · exact q1.elim
  · obtain ⟨c,q⟩:=ab.mp q1
    rw [Bool.and_eq_true,Bool.and_eq_true] at c
    exact wz W SO I ok hN (nt c.1) c.2.2 q
 | ListComp elt gens sc p=>
  unfold dU at q
  dsimp only at q
  split at q
  · rename_i g e1
    obtain rfl:=rg e1
    obtain ⟨c,q⟩:=ab.mp q
    rw [Bool.and_eq_true] at c
    exact mV I ok hN (nt c.1) (qF c.2) q
  · exact q.elim
 | _=>exact q.elim
theorem tG (W:Wd w base) (SO:SOk w base n S) (I:aV w base n J) (ok:aE base n fx) (hN:FxN fx N) {e:Expr} {Q:Bool->List aa->Prop} (q:pg J N e U Z Q E):nq w base fx U G O Z (isTrue e fx.env (eval e fx.env)) Q E:=by
 exists w,base,fx,U,G,O,Z,E,n,N,J,S,e,Q,_ W SO I ok hN q
 unfold pg at q
 split at q
 · rename_i x p e1
   obtain rfl:=qz e1 rfl
   exact sG I ok hN q
 · rename_i x p e1
   obtain rfl:=qz e1 rfl
   exact yD I ok hN q
 · rename_i x p e1
   obtain rfl:=qz e1 rfl
   exact Cp I ok hN q
 · rename_i l ops rs p e1
   split at q
   · rename_i op r e2 e3
     obtain rfl:=qz e1 rfl
     obtain rfl:=cq e2;clear e1;obtain rfl:=cq e3
     exact kU W I ok hN q
   · exact q.elim
 · exact q.elim
 · rename_i e1
   refine og I ok hN ?_ q
   cases e with
   | UnaryOp op x p=>clear q;cases op <;> first | rfl | contradiction
   | BoolOp op es p=>clear q;cases op <;> contradiction
   | Compare l ops rs p=>contradiction
   | IfExp=>contradiction
   | _=>rfl
end
end Mine
namespace Mine
open PySem PySem.W PyProof.Rows PySem.SeqAt
theorem FunFrames.touchD {base h h':Heap} {L:List Addr}:∀ {l:List Env},(∀ b o,b∉L->h.get? b=some o->h'.get? b=some o)->(∀ b∈L,∃ o',h'.get? b=some o'/\∀ vs,o'.data≠.fields vs)->h.FunFrames base l->h'.FunFrames base l
 | [],_,_,_=>trivial
 | env::r,kp,hL,⟨k1,⟨L',o,k2,k3,k4,k5⟩,k6⟩=>by
  refine ⟨k1,?_,FunFrames.touchD kp hL k6⟩
  by_cases hm:L'∈L
  · obtain ⟨o',h1,h2⟩:=hL L' hm
    exact ⟨L',o',k2,k3,h1,h2⟩
  · exact ⟨L',o,k2,k3,kp L' o hm k4,k5⟩
theorem nG:∀ {L:List (Str×Addr)} {a b:Str×Addr},(L.map (·.2)).Nodup->a∈L->b∈L->a.2=b.2->a=b
 | [],a,b,_,ha,_,_=>nomatch ha
 | c::L,a,b,nL,ha,hb,e=>by
  rw [List.map_cons,List.nodup_cons] at nL
  rcases List.mem_cons.mp ha with h1 | h1 <;> rcases List.mem_cons.mp hb with h2 | h2
  · rw [h1,h2]
  · exact absurd (List.mem_map.mpr ⟨b,h2,by rw [<- e,h1]⟩) nL.1
  · exact absurd (List.mem_map.mpr ⟨a,h1,by rw [e,h2]⟩) nL.1
  · exact nG nL.2 h1 h2 e
theorem q8:∀ {L:List (Str×Addr)} {a b:Str×Addr},(L.map (·.1)).Nodup->a∈L->b∈L->a.1=b.1->a=b
 | [],a,b,_,ha,_,_=>nomatch ha
 | c::L,a,b,nL,ha,hb,e=>by
  rw [List.map_cons,List.nodup_cons] at nL
  rcases List.mem_cons.mp ha with h1 | h1 <;> rcases List.mem_cons.mp hb with h2 | h2
  · rw [h1,h2]
  · exact absurd (List.mem_map.mpr ⟨b,h2,by rw [<- e,h1]⟩) nL.1
  · exact absurd (List.mem_map.mpr ⟨a,h1,by rw [e,h2]⟩) nL.1
  · exact q8 nL.2 h1 h2 e
section
variable {w:World} {base:Heap} {fx:Fx} {U:Loc} {G:PH} {O:Fp} {Z:List aa} {E:Str->List aa->Prop} {α β γ δ:Type} {h h':Heap} {n:Nat} {N:aC} {J:Ev} {S:Tab}
theorem FrR.setCell (x:FrR w G O fx.env U h) {y:Str} {v:V} {c:Value} {a:Addr} (hn:∀ o,h.get? fx.env.locals=some o->h'.get? fx.env.locals=some o) (hk:fx.env.kindOf y=some .cell) (ha:(y,a)∈fx.env.cells) (nd1:(fx.env.cells.map (·.1)).Nodup) (nd2:(fx.env.cells.map (·.2)).Nodup)
  (hc:h'.IsCell a (some c)) (kp:∀ b o,b≠a->h.get? b=some o->h'.get? b=some o) (r:VR w G O v c):FrR w G O fx.env (cK U y v) h' where
 ns:=by
  obtain ⟨m,zz,hm⟩:=x.ns;obtain ⟨o,es,ep,ho,z⟩:=zz
  refine ⟨m,⟨o,es,ep,hn o ho,z⟩,fun z u e k=>?_⟩
  rw [dq] at e
  by_cases q:z=y
  · rw [q,hk] at k;contradiction
  · rw [if_neg q] at e;exact hm z u e k
 ce:=fun p hp=>by
  by_cases q:p.2=a
  · have e1:=nG nd2 hp ha q
    clear q hp;subst e1
    refine ⟨some c,hc,fun u e k=>?_⟩
    rw [dq,if_pos rfl] at e
    cases e
    exact ⟨c,rfl,r⟩
  · obtain ⟨co,zz,hv⟩:=x.ce p hp;obtain ⟨o,ho,hd⟩:=zz
    refine ⟨co,⟨o,kp _ _ q ho,hd⟩,fun u e k=>?_⟩
    rw [dq] at e
    by_cases q2:p.1=y
    · have e1:=q8 nd1 hp ha q2
      rw [e1] at q;exact absurd rfl q
    · rw [if_neg q2] at e;exact hv u e k
theorem fP (ok:aE base n fx) (hN:FxN fx N) {x:Str} {v:V} {c:Value} {s:Shared} (S:St w base fx G O Z U s.heap) (hk:aN N x=true) (r:VR w G O v c) {QQ:Unit->Shared->Prop} {EE:Value->Shared->Prop}
  (hq:∀ h' tk,Ext fx.own fx.frs G O s.heap G O h'->St w base fx G O Z (cK U x v) h'->QQ () {s with heap:=h',toks:=tk}):wpAny (model PR w) fx.A (storeName fx.env x c) QQ EE s:=by
 have hkk:=hN.kind x
 have mk:∀ {a:Addr} {h':Heap},a∈fx.own->Heap.SameBut a s.heap h'->(∃ o',h'.get? a=some o'/\∀ vs,o'.data≠.fields vs)->FrR w G O fx.env (cK U x v) h'->Ext fx.own fx.frs G O s.heap G O h'/\St w base fx G O Z (cK U x v) h':=by
  intro a h' ha hs hd hf
  have kp:∀ b o,b≠a->s.heap.get? b=some o->h'.get? b=some o:=fun b o hb e=>(hs.2 b hb).trans e
  have nown:∀ b,b∉fx.own->b≠a:=fun b hb e=>hb (e▸ha)
  obtain ⟨o',ho',hnf⟩:=hd
  refine ⟨⟨Sub.refl _,IxE.refl _,eB hs ho',fun b o e _ _ h3=>kp b o (nown b h3) e,fun b o e _ _ h3=>⟨o.slots,kp b o (nown b h3) e⟩,fun b hb=>.inl hb,fun b o e=>.inl e⟩,
   ⟨⟨S.bs,fun b o e=>kp b o (fun q=>by rw [q,(S.oo a ha).1] at e;contradiction) (S.sub b o e),S.cells.mono (Sub.refl _) fun b hb o e=>kp b o (fun q=>(S.oo a ha).2 (q▸hb)) e,S.nd,S.out⟩,hf,S.oo,S.ond,S.fo,?_⟩⟩
  exact FunFrames.touchD (L:=[a]) (fun b o hb e=>kp b o (by simpa using hb) e) (fun b hb=>by rw [List.mem_singleton] at hb;clear nown kp hs ha;subst hb;exact ⟨o',ho',hnf⟩) S.ff
 have ond:=S.ond
 unfold Fx.own at ond
 rw [List.nodup_cons] at ond
 unfold aN at hk
 split at hk
 · rename_i e
   obtain ⟨m,hn,hm⟩:=S.fr.ns
   refine wpAny_storeName_local (hkk.trans e) hn (fun h' hn' hs=>?_) (by rw [ok.kind];rfl)
   have hdd:∃ o',h'.get? fx.env.locals=some o'/\∀ vs,o'.data≠.fields vs:=by
    obtain ⟨o',es,ep,ho',hd,_⟩:=hn'
    exact ⟨o',ho',fun vs e=>by rw [hd] at e;contradiction⟩
   obtain ⟨X,S'⟩:=mk (.head _) hs hdd (FrR.setLocal S.fr hn' hm (hkk.trans e) (fun p hp o e=>(hs.2 _ (fun q=>ond.1 (q▸List.mem_map.mpr ⟨p,hp,rfl⟩))).trans e) r)
   exact hq h' _ X S'
 · rename_i e
   obtain ⟨a,ha⟩:=hN.cell x e
   have hm:=bA ha
   have hao:a∈fx.own:=.tail _ (List.mem_map.mpr ⟨_,hm,rfl⟩)
   obtain ⟨co,hco,_⟩:=S.fr.ce (x,a) hm
   refine wpAny_storeName_cell ok.kind (hkk.trans e) ha hco fun h' hc hs=>?_
   have hdd:∃ o',h'.get? a=some o'/\∀ vs,o'.data≠.fields vs:=by
    obtain ⟨o',ho',hd⟩:=hc
    exact ⟨o',ho',fun vs e=>by rw [hd] at e;contradiction⟩
   have hla:fx.env.locals≠a:=fun q=>ond.1 (q▸List.mem_map.mpr ⟨_,hm,rfl⟩)
   obtain ⟨X,S'⟩:=mk hao hs hdd (FrR.setCell S.fr (fun o e=>(hs.2 _ hla).trans e) (hkk.trans e) hm hN.nd ond.2 hc (fun b o hb e=>(hs.2 b hb).trans e) r)
   exact hq h' s.toks X S'
 · contradiction
end
end Mine
namespace Mine
open PySem PySem.W PyProof.Rows PySem.SeqAt
noncomputable def ar (w:World) (base:Heap) (fx:Fx) (U:Loc) (G:PH) (O:Fp) (Z:List aa) (P:PT Flow) (Q:Fl->Loc->List aa->Prop) (E:Str->List aa->Prop):Prop:=
 ∀ (s:Shared),St w base fx G O Z U s.heap->∀ (QQ:Flow->Shared->Prop) (EE:Value->Shared->Prop),
  SQ w base fx G O s Q QQ->
  SE w base fx G O s E EE->
  P QQ EE s
section
variable {w:World} {base:Heap} {fx:Fx} {U:Loc} {G:PH} {O:Fp} {Z:List aa} {E:Str->List aa->Prop} {α β γ δ:Type} {h h':Heap} {n:Nat} {N:aC} {J:Ev} {S:Tab} {Q:QF}
theorem ar.to {t:Sem Flow} (d:ar w base fx U G O Z (fun QQ EE s=>wpAny (model PR w) fx.A t QQ EE s) Q E):bT w base fx U G O Z t Q E:=d
theorem ar.of {t:Sem Flow} (d:bT w base fx U G O Z t Q E):ar w base fx U G O Z (fun QQ EE s=>wpAny (model PR w) fx.A t QQ EE s) Q E:=d
theorem ar.seq {t:Sem α} {P:α->PT Flow} {T:PT Flow} {R:PH->Fp->β->α->Prop} {Qe:β->List aa->Prop}
  (rule:∀ (QQ:Flow->Shared->Prop) (EE:Value->Shared->Prop) (s:Shared),wpAny (model PR w) fx.A t (fun a s'=>P a QQ EE s') EE s->T QQ EE s)
  (d:Den w base fx U G O Z t R Qe E)
  (k:∀ G' O' Z' b a,Sub G G'->IxE O O'->R G' O' b a->Qe b Z'->ar w base fx U G' O' Z' (P a) Q E):ar w base fx U G O Z T Q E:=fun s S QQ EE hq he=>
 rule QQ EE s (d s S _ _ (fun G' O' Z' b a h' tk x S' r q=>k G' O' Z' b a x.sub x.ix r q _ S' QQ EE
   (fun G'' O'' Z'' U'' fl f h'' tk' x' S'' r' q'=>hq G'' O'' Z'' U'' fl f h'' tk' ((x.weaken (by simp)).trans x') S'' r' q')
   fun G'' O'' Z'' U'' y e h'' tk' x' S'' r' q'=>he G'' O'' Z'' U'' y e h'' tk' ((x.weaken (by simp)).trans x') S'' (r'.weaken x.dom) q')
  fun G' O' Z' y e h' tk x S' r q=>he G' O' Z' U y e h' tk (x.weaken (by simp)) S' r q)
theorem ar.ret {fl:Fl} {f:Flow} (r:FlR w G O fl f) (q:Q fl U Z):ar w base fx U G O Z (fun QQ EE s=>QQ f s) Q E:=fun s S QQ EE hq _=>
 hq G O Z U fl f s.heap s.toks (Ext.refl ..) S r q
theorem ar.then {t:Sem Flow} {P:Flow->PT Flow} {T:PT Flow} {Q1:QF}
  (rule:∀ (QQ:Flow->Shared->Prop) (EE:Value->Shared->Prop) (s:Shared),wpAny (model PR w) fx.A t (fun a s'=>P a QQ EE s') EE s->T QQ EE s)
  (d:bT w base fx U G O Z t Q1 E)
  (k:∀ G' O' Z' U' fl f,Sub G G'->IxE O O'->FlR w G' O' fl f->Q1 fl U' Z'->ar w base fx U' G' O' Z' (P f) Q E):ar w base fx U G O Z T Q E:=fun s S QQ EE hq he=>
 rule QQ EE s (d s S _ _ (fun G' O' Z' U' b a h' tk x S' r q=>k G' O' Z' U' b a x.sub x.ix r q _ S' QQ EE
   (fun G'' O'' Z'' U'' fl f h'' tk' x' S'' r' q'=>hq G'' O'' Z'' U'' fl f h'' tk' (x.trans x') S'' r' q')
   fun G'' O'' Z'' U'' y e h'' tk' x' S'' r' q'=>he G'' O'' Z'' U'' y e h'' tk' (x.trans x') S'' (r'.weaken x.dom) q')
  fun G' O' Z' U' y e h' tk x S' r q=>he G' O' Z' U' y e h' tk x S' r q)
theorem bZ (I:aV w base n J) (ok:aE base n fx) (hN:FxN fx N):∀ {b:List Stmt} {U:Loc} {G:PH} {O:Fp} {Z:List aa} {Q:QF},bm (J.ex N) b U Z Q E->bT w base fx U G O Z (execs b fx.env) Q E:=by
 intro b
 induction b with
 | nil=>
  intro U G O Z Q q
  exact ar.to fun s S QQ EE hq he=>wpAny_execs_nil (ar.ret (E:=E) (fl:=.nx) rfl q s S QQ EE hq he)
 | cons st r ih=>
  intro U G O Z Q q
  unfold bm at q
  refine ar.to (ar.then (P:=fun f QQ EE s=>match f with | .next=>wpAny (model PR w) fx.A (execs r fx.env) QQ EE s | f=>QQ f s) (fun QQ EE s h=>wpAny_execs_cons (wpAny_mono h (fun f s' h'=>by cases f <;> exact h') fun _ _ x=>x)) (I.ex ok hN q) ?_)
  intro G' O' Z' U' fl f x ix rf q1
  cases fl with
  | nx=>unfold FlR at rf;subst rf;exact ar.of (ih q1)
  | ct=>unfold FlR at rf;subst rf;exact ar.ret (fl:=.ct) rfl q1
  | br=>unfold FlR at rf;subst rf;exact ar.ret (fl:=.br) rfl q1
  | rt v=>
   have rf':=rf
   obtain ⟨c,rfl,rv⟩:=rf
   exact ar.ret (fl:=.rt v) rf' q1
theorem fW (ok:aE base n fx) (hN:FxN fx N) {x:Str} {v:V} {c:Value} (hk:aN N x=true) (r:VR w G O v c) (q:Q .nx (cK U x v) Z):
  ar w base fx U G O Z (fun QQ EE s=>wpAny (model PR w) fx.A (storeName fx.env x c) (fun _ s'=>QQ .next s') EE s) Q E:=fun s S QQ EE hq he=>
 fP ok hN S hk r fun h' tk X S'=>hq G O Z _ .nx .next h' tk X S' rfl q
theorem bG {v:Expr} {t:Option Expr} {line:Nat} {env:Env} (h:bV v=false):swapsWith v t line env=pure false:=by
 cases v <;> first | rfl | contradiction
theorem ke (I:aV w base n J) (ok:aE base n fx) (hN:FxN fx N) {x:Str} {px pos:Pos} {v:Expr} (hk:aN N x=true) (hc:bV v=false)
  (q:J.ev N v U Z (fun r Z1=>Q .nx (cK U x r) Z1) E):bT w base fx U G O Z (exec (.Assign [.Name x px] v pos) fx.env) Q E:=by
 refine ar.to (ar.seq (P:=fun c QQ EE s=>wpAny (model PR w) fx.A (storeName fx.env x c) (fun _ s'=>QQ .next s') EE s) (fun QQ EE s h=>wpAny_Assign_Name h (bG hc)) (I.ev ok hN q) ?_)
 intro G' O' Z' r c _ _ rv q1
 exact fW ok hN hk rv q1
theorem Cq (I:aV w base n J) (ok:aE base n fx) (hN:FxN fx N) {t:Expr} {b o:List Stmt} {pos:Pos}
  (q:J.te N t U Z (fun c Z1=>cnd c (bm (J.ex N) b U Z1 Q E) (bm (J.ex N) o U Z1 Q E)) E):bT w base fx U G O Z (exec (.If t b o pos) fx.env) Q E:=by
 refine ar.to (ar.seq (P:=fun c QQ EE s=>if c then wpAny (model PR w) fx.A (execs b fx.env) QQ EE s else wpAny (model PR w) fx.A (execs o fx.env) QQ EE s) (fun QQ EE s h=>wpAny_If h) (I.te ok hN q) ?_)
 intro G' O' Z' c a x ix r q1
 have r':a=c:=r
 subst r'
 cases a with
 | true=>exact ar.of (bZ I ok hN (bw q1))
 | false=>exact ar.of (bZ I ok hN (aG q1))
theorem qf (I:aV w base n J) (ok:aE base n fx) (hN:FxN fx N) {e:Expr} {pos:Pos}
  (q:J.ev N e U Z (fun v Z'=>Q (.rt v) U Z') E):bT w base fx U G O Z (exec (.Return (some e) pos) fx.env) Q E:=by
 refine ar.to (ar.seq (P:=fun c QQ EE s=>QQ (.ret c) s) (fun QQ EE s h=>wpAny_Return_some h) (I.ev ok hN q) ?_)
 intro G' O' Z' r c _ _ rv q1
 exact ar.ret (fl:=.rt r) ⟨c,rfl,rv⟩ q1
theorem ot {pos:Pos} (q:Q (.rt (.d .nn)) U Z):bT w base fx U G O Z (exec (.Return none pos) fx.env) Q E:=
 ar.to fun s S QQ EE hq he=>wpAny_Return_none (ar.ret (E:=E) (fl:=.rt (.d .nn)) ⟨.none,rfl,VR.mk_nn⟩ q s S QQ EE hq he)
theorem wv {pos:Pos} (q:Q .nx U Z):bT w base fx U G O Z (exec (.Pass pos) fx.env) Q E:=
 ar.to fun s S QQ EE hq he=>wpAny_Pass (ar.ret (E:=E) (fl:=.nx) rfl q s S QQ EE hq he)
theorem mW {pos:Pos} (q:Q .ct U Z):bT w base fx U G O Z (exec (.Continue pos) fx.env) Q E:=
 ar.to fun s S QQ EE hq he=>wpAny_Continue (ar.ret (E:=E) (fl:=.ct) rfl q s S QQ EE hq he)
theorem sQ {pos:Pos} (q:Q .br U Z):bT w base fx U G O Z (exec (.Break pos) fx.env) Q E:=
 ar.to fun s S QQ EE hq he=>wpAny_Break (ar.ret (E:=E) (fl:=.br) rfl q s S QQ EE hq he)
theorem ou (I:aV w base n J) (ok:aE base n fx) (hN:FxN fx N) {e:Expr} {pos:Pos} (hc:bV e=false)
  (q:J.ev N e U Z (fun r Z1=>grd (dNN r) (Q .nx U Z1)) E):bT w base fx U G O Z (exec (.Expr e pos) fx.env) Q E:=by
 have hi:interactive fx.env=false:=by unfold interactive;rw [ok.kind];rfl
 refine ar.to (ar.seq (P:=fun c QQ EE s=>match c with | .ref _=>False | _=>QQ .next s) (fun QQ EE s h=>wpAny_Expr (wpAny_mono h (fun c s' h'=>by cases c <;> exact h') fun _ _ x=>x) hi (bG hc)) (I.ev ok hN q) ?_)
 intro G' O' Z' r c _ _ rv q1
 obtain ⟨hd,q1⟩:=ab.mp q1
 have:r=.d .nn:=by
  unfold dNN at hd
  clear q1 rv;split at hd
  · rfl
  · contradiction
 clear hd;subst this
 have:=rv.nn;clear rv;subst this
 exact ar.ret (fl:=.nx) rfl q1
end
end Mine
namespace Mine
open PySem PySem.W PyProof.Rows PySem.SeqAt
section
variable {w:World} {base:Heap} {fx:Fx} {U:Loc} {G G':PH} {O O':Fp} {Z Z':List aa} {E:Str->List aa->Prop} {α β γ δ:Type} {h h':Heap} {n:Nat} {N:aC} {J:Ev} {S:Tab} {Q:QF}
theorem St.reshape (S:St w base fx G O Z U h) (ix:IxE O O') (sub:Sub G G') (cells:aq w G' h' Z' O') (nd:O'.flatten.Nodup) (fl:∀ a∈O'.flatten,a∈O.flatten) (out:∀ a∈O'.flatten,G' a=none)
  (hG:∀ b o,G' b=some o->h'.get? b=some o) (newG:∀ b o,G' b=some o->G b=some o\/b∈O.flatten) (kp:∀ b o,b∉O.flatten->h.get? b=some o->h'.get? b=some o) (dom:∀ b o,h.get? b=some o->∃ o',h'.get? b=some o'):
  St w base fx G' O' Z' U h'/\Ext [] fx.frs G O h G' O' h':=by
 have gn:∀ a,a∉O.flatten->G a=none->G' a=none:=fun a ha g=>by
  cases e:G' a with
  | none=>rfl
  | some o=>
   rcases newG a o e with q | q
   · rw [g] at q;contradiction
   · exact absurd q ha
 refine ⟨⟨⟨fun b o e=>sub b o (S.bs b o e),hG,cells,nd,out⟩,S.fr.mono sub ix (fun a ha o e=>⟨o.slots,kp a o (S.oo a ha).2 e⟩),fun a ha=>⟨gn a (S.oo a ha).2 (S.oo a ha).1,fun q=>(S.oo a ha).2 (fl a q)⟩,S.ond,
  fun a ha=>⟨fun q=>(S.fo a ha).1 (fl a q),gn a (S.fo a ha).1 (S.fo a ha).2⟩,?_⟩,⟨sub,ix,dom,fun b o e h1 _ _=>kp b o h1 e,fun b o e _ h2 _=>⟨o.slots,kp b o h2 e⟩,fun b hb=>.inl (fl b hb),fun b o e=>(newG b o e).imp id .inr⟩⟩
 exact FunFrames.touch (L:=O.flatten) (fun a ha=>(S.fo a ha).1) kp S.ff
noncomputable def gr (fp:List Addr) (h:Heap) (G:PH):PH:=fun b=>if b∈fp then h.get? b else G b
theorem rh {fp:List Addr} {b:Addr} (hb:b∈fp):gr fp h G b=h.get? b:=if_pos hb
theorem jZ {fp:List Addr} {b:Addr} (hb:b∉fp):gr fp h G b=G b:=if_neg hb
theorem OCR.freeze {c:OC} {a:Addr} (r:OCR w G h c a) (sub:Sub G G') (ha:∀ o,h.get? a=some o->G' a=some o):DR w G' (ocD c) (.ref a):=by
 cases c with
 | li l=>
  obtain ⟨cs,zz,rs⟩:=r;obtain ⟨m,p⟩:=zz
  show DR w G' (.li l) (.ref a)
  exact ⟨a,cs,_,m,rfl,ha _ p,rfl,rfl,rs.mono sub⟩
 | di l=>
  obtain ⟨hs,cs,zz,rs⟩:=r;obtain ⟨o,es,ep,ho,z⟩:=zz
  show DR w G' (.di l) (.ref a)
  exact ⟨a,cs,rfl,hs,fun h' k=>⟨o,es,ep,k a o (ha o ho),z⟩,rs.mono sub⟩
theorem bF.vals {m:Str->Option Value}:∀ {l:List (Str×D)},bF w G m l->∃ cs,DRv w G l cs/\∀ f c,(List.zip (l.map (·.1)) cs).lookup f=some c->m f=some c:=by
 intro l
 induction l with
 | nil=>exact fun _=>⟨[],rfl,fun f c e=>nS e⟩
 | cons p r ih=>
  obtain ⟨f,d⟩:=p
  intro x
  obtain ⟨zz,y⟩:=x;obtain ⟨c,hc,rd⟩:=zz
  obtain ⟨cs,h1,h2⟩:=ih y
  exact ⟨c::cs,⟨c,cs,rfl,rd,h1⟩,fun f' c' e=>lL e (fun q e2=>by rw [q,<- e2];exact hc) fun _ e=>h2 f' c' e⟩
theorem bl.vals {m:Str->Option Value}:∀ {l:List (Str×OC)} {as:List Addr},bl w G h m l as->Sub G G'->(∀ a∈as,∀ o,h.get? a=some o->G' a=some o)->∃ cs,DRv w G' (l.map fun p=>(p.1,ocD p.2)) cs/\∀ f c,(List.zip (l.map (·.1)) cs).lookup f=some c->m f=some c:=by
 intro l
 induction l with
 | nil=>exact fun _ _ _=>⟨[],rfl,fun f c e=>nS e⟩
 | cons p r ih=>
  obtain ⟨f,d⟩:=p
  intro as x sub ha
  obtain ⟨a,as',rfl,hm,ro,y⟩:=x
  obtain ⟨cs,h1,h2⟩:=ih y sub fun b hb=>ha b (.tail _ hb)
  exact ⟨.ref a::cs,⟨.ref a,cs,rfl,ro.freeze sub (ha a (.head _)),h1⟩,fun f' c' e=>lL e (fun q e2=>by rw [q,<- e2];exact hm) fun _ e=>h2 f' c' e⟩
theorem DRv.app:∀ {l m:List (Str×D)} {cs ds:List Value},DRv w G l cs->DRv w G m ds->DRv w G (l++m) (cs++ds)
 | [],_,cs,_,r,q=>by unfold DRv at r;subst r;exact q
 | d::l,_,cs,_,r,q=>by
  obtain ⟨c,r',rfl,x,y⟩:=r
  show DRv w G (d::(l++_)) (c::(r'++_))
  exact ⟨c,_,rfl,x,DRv.app y q⟩
theorem oG {c:aa} {d:D} {a:Addr} {rest:List Addr} (S:Sim w base G O Z h) (e:oH c=some d) (r:be w G h c (a::rest)) (nd:(a::rest).Nodup) (sub:Sub G G') (ha:∀ b∈a::rest,∀ o,h.get? b=some o->G' b=some o):DR w G' d (.ref a):=by
 cases c with
 | dead=>contradiction
 | oc c=>
  cases e
  obtain ⟨b,e1,ro⟩:=r
  clear nd;cases e1
  exact ro.freeze sub (ha a (.head _))
 | inst C l own=>
  cases e
  obtain ⟨x,dx,as,m,e1,I,hw,zz⟩:=r;obtain ⟨hf,ho⟩:=zz
  cases e1
  obtain ⟨zz,h5⟩:=I;obtain ⟨o,h1,h2,h3,h4⟩:=zz
  have hne:dx≠a:=fun e=>by clear h1 ha;subst e;simp at nd
  obtain ⟨cs1,r1,l1⟩:=(hf.mono sub).vals
  obtain ⟨cs2,r2,l2⟩:=ho.vals sub fun b hb=>ha b (.tail _ (.tail _ hb))
  have hz:(List.zip (l.map (·.1)) cs1++List.zip (own.map (·.1)) cs2)=List.zip ((l++own.map fun p=>(p.1,ocD p.2)).map (·.1)) (cs1++cs2):=by
   rw [List.map_append,List.zip_append (by rw [r1.len,List.length_map])]
   congr 2
   rw [List.map_map];rfl
  refine ⟨a,m,cs1++cs2,rfl,fun h' k=>?_,fun f=>?_,r1.app r2⟩
  · obtain ⟨od,z1,z2,z3,z4⟩:=h5
    exact ⟨o,k a o (ha a (.head _) o h1),h2,h3,.inr ⟨dx,h4,hne,⟨od,z1,z2,k dx od (ha dx (.tail _ (.head _)) od z3),z4⟩⟩⟩
  · rw [<- hz,List.lookup_append]
    cases e1:(List.zip (l.map (·.1)) cs1).lookup f with
    | some c=>rw [l1 f c e1];rfl
    | none=>
     cases e2:(List.zip (own.map (·.1)) cs2).lookup f with
     | some c=>rw [l2 f c e2];rfl
     | none=>
      show m f=none
      cases e3:m f with
      | none=>rfl
      | some c=>
       exfalso
       have hm:=hw f (by rw [e3];simp)
       have look:∀ {ks:List Str} {cs:List Value},ks.length=cs.length->f∈ks->(List.zip ks cs).lookup f≠none:=by
        intro ks
        induction ks with
        | nil=>intro cs _ hm;contradiction
        | cons y ks ih=>
         intro cs hl hm
         cases cs with
         | nil=>simp at hl
         | cons c cs=>
          rw [List.zip_cons_cons,List.lookup_cons]
          by_cases q:f=y
          · clear hl hm;subst q;simp
          · have hb:(f==y)=false:=beq_eq_false_iff_ne.mpr q
            rw [hb]
            exact ih (by simpa using hl) ((List.mem_cons.mp hm).resolve_left q)
       rcases List.mem_append.mp hm with q | q
       · exact look (by rw [List.length_map,r1.len]) q e1
       · exact look (by rw [List.length_map,r2.len,List.length_map]) q e2
end
end Mine
namespace Mine
open PySem PySem.W PyProof.Rows PySem.SeqAt
section
variable {w:World} {base:Heap} {fx:Fx} {U:Loc} {G G':PH} {O O':Fp} {Z Z':List aa} {E:Str->List aa->Prop} {α β γ δ:Type} {h h':Heap} {n:Nat} {N:aC} {J:Ev} {S:Tab} {Q:QF}
theorem d4 {fp fp':List Addr}:∀ {O:Fp} {k:Nat},O.flatten.Nodup->O[k]?=some fp->∀ a,a∈(O.set k fp').flatten->a∈fp'\/(a∈O.flatten/\a∉fp)
 | [],k,_,e,_,_=>by simp at e
 | f::O,0,nd,e,a,ha=>by
  rw [List.flatten_cons,List.nodup_append] at nd
  simp at e;subst e
  have:a∈(fp'::O).flatten:=ha
  rw [List.flatten_cons] at this
  rcases List.mem_append.mp this with q | q
  · exact .inl q
  · exact .inr ⟨by rw [List.flatten_cons];exact List.mem_append_right _ q,fun z=>nd.2.2 a z a q rfl⟩
 | f::O,k+1,nd,e,a,ha=>by
  rw [List.flatten_cons,List.nodup_append] at nd
  simp at e
  have:a∈(f::O.set k fp').flatten:=ha
  rw [List.flatten_cons] at this
  rcases List.mem_append.mp this with q | q
  · exact .inr ⟨by rw [List.flatten_cons];exact List.mem_append_left _ q,fun z=>nd.2.2 a q a (ay e z) rfl⟩
  · rcases d4 nd.2.1 e a q with z | z
    · exact .inl z
    · exact .inr ⟨by rw [List.flatten_cons];exact List.mem_append_right _ z.1,z.2⟩
theorem iA {k:Nat} {d:D}:∀ {U:Loc} {x:Str} {v:V},(eQ U k d).lookup x=some v->(U.lookup x=some (.ref k)/\v=.d d)\/U.lookup x=some v
 | [],x,v,e=>by simp [eQ] at e
 | (y,u)::r,x,v,e=>by
  have rest:¬ (x==y)=true->(eQ r k d).lookup x=some v->(((y,u)::r).lookup x=some (.ref k)/\v=.d d)\/((y,u)::r).lookup x=some v:=fun q e=>by
   have q':(x==y)=false:=by simpa using q
   rw [List.lookup_cons,q']
   exact iA e
  cases u with
  | ref j=>
   unfold eQ at e
   split at e
   · rename_i hj
     have:=Nat.eq_of_beq_eq_true hj
     clear hj;subst this
     rw [List.lookup_cons] at e
     by_cases q:(x==y)=true
     · rw [q] at e;clear rest;cases e
       left;rw [List.lookup_cons,q];exact ⟨rfl,rfl⟩
     · have q':(x==y)=false:=by simpa using q
       rw [q'] at e
       exact rest q e
   · rw [List.lookup_cons] at e
     by_cases q:(x==y)=true
     · rw [q] at e;clear rest;cases e
       right;rw [List.lookup_cons,q]
     · have q':(x==y)=false:=by simpa using q
       rw [q'] at e
       exact rest q e
  | _=>
   simp only [eQ] at e
   rw [List.lookup_cons] at e
   by_cases q:(x==y)=true
   · rw [q] at e;clear rest;cases e
     right;rw [List.lookup_cons,q]
   · have q':(x==y)=false:=by simpa using q
     rw [q'] at e
     exact rest q e
theorem be.head {c:aa} {d:D} {fp:List Addr} (r:be w G h c fp) (e:oH c=some d):∃ a rest,fp=a::rest:=by
 cases c with
 | dead=>contradiction
 | oc c=>unfold be at r;obtain ⟨a,rfl,_⟩:=r;exact ⟨a,[],rfl⟩
 | inst C l own=>unfold be at r;obtain ⟨x,dx,as,m,rfl,_⟩:=r;exact ⟨x,dx::as,rfl⟩
theorem St.freeze (S:St w base fx G O Z U h) {k:Nat} {c:aa} {d:D} (hk:Z[k]?=some c) (e:oH c=some d):
  ∃ fp a rest,fp=a::rest/\O[k]?=some fp/\DR w (gr fp h G) d (.ref a)/\St w base fx (gr fp h G) (O.set k []) (Z.set k .dead) (eQ U k d) h/\Ext [] fx.frs G O h (gr fp h G) (O.set k []) h:=by
 exists w,base,fx,U,G,O,Z,h,k,c,d,_ S hk e
 obtain ⟨fp,ek,cr⟩:=S.cells.at hk
 obtain ⟨a,rest,rfl⟩:=cr.head e;exists a,rest,_ ek cr
 have nd:=dA S.nd ek
 have inn:∀ b∈a::rest,b∈O.flatten:=fun b hb=>ay ek hb
 have sub:Sub G (gr (a::rest) h G):=fun b o g=>by
  by_cases hb:b∈a::rest
  · rw [S.out b (inn b hb)] at g;contradiction
  · rw [jZ hb];exact g
 have hd:DR w (gr (a::rest) h G) d (.ref a):=oG S.toSim e cr nd sub fun b hb o ho=>by rw [rh hb];exact ho
 obtain ⟨S1,X1⟩:=S.reshape (O':=O.set k []) (Z':=Z.set k .dead) (G':=gr (a::rest) h G) (h':=h) (IxE.set ek (.inl rfl)) sub ((S.cells.mono sub fun _ _ _ e=>e).set (by unfold be;rfl))
  (bv S.nd ek List.nodup_nil (fun b hb=>by contradiction)) (fun b hb=>(d4 S.nd ek b hb).elim (fun q=>by contradiction) (·.1)) (fun b hb=>by
   rcases d4 S.nd ek b hb with q | q
   · contradiction
   · rw [jZ q.2];exact S.out b q.1) (fun b o g=>by
   unfold gr at g
   split at g
   · exact g
   · exact S.sub b o g) (fun b o g=>by
   unfold gr at g
   split at g
   · rename_i hb;exact .inr (inn b hb)
   · exact .inl g) (fun b o _ e=>e) (fun b o e=>⟨o,e⟩)
 refine ⟨_,a,rest,rfl,ek,hd,⟨S1.toSim,?_,S1.oo,S1.ond,S1.fo,S1.ff⟩,X1⟩
 have old:=S.fr
 have new:=S1.fr
 have conv:∀ u c,VR w G O (.ref k) c->u=V.d d->VR w (gr (a::rest) h G) (O.set k []) u c:=fun u c r q=>by
  subst q
  unfold VR at r ⊢
  rw [r.2 a rest ek];exact hd
 refine ⟨?_,fun p hp=>?_⟩
 · obtain ⟨m,hn,hm⟩:=old.ns
   refine ⟨m,hn,fun x v e kd=>?_⟩
   rcases iA e with ⟨q1,q2⟩ | q
   · clear e;obtain ⟨c,hc,r⟩:=hm x _ q1 kd
     exact ⟨c,hc,conv v c r q2⟩
   · clear e;obtain ⟨c,hc,r⟩:=hm x v q kd
     exact ⟨c,hc,r.mono sub (IxE.set ek (.inl rfl))⟩
 · obtain ⟨co,hc,hv⟩:=old.ce p hp
   refine ⟨co,hc,fun v e kd=>?_⟩
   rcases iA e with ⟨q1,q2⟩ | q
   · clear e;obtain ⟨c,hc,r⟩:=hv _ q1 kd
     exact ⟨c,hc,conv v c r q2⟩
   · clear e;obtain ⟨c,hc,r⟩:=hv v q kd
     exact ⟨c,hc,r.mono sub (IxE.set ek (.inl rfl))⟩
theorem ar.ghost {P:PT Flow} (k:∀ s:Shared,St w base fx G O Z U s.heap->∃ G' O' U' Z',St w base fx G' O' Z' U' s.heap/\Ext [] fx.frs G O s.heap G' O' s.heap/\ar w base fx U' G' O' Z' P Q E):ar w base fx U G O Z P Q E:=fun s S QQ EE hq he=>by
 obtain ⟨G',O',U',Z',S',X,d⟩:=k s S
 exact d s S' QQ EE (fun G'' O'' Z'' U'' fl f h'' tk' x' S'' r' q'=>hq G'' O'' Z'' U'' fl f h'' tk' ((X.weaken (by simp)).trans x') S'' r' q')
  fun G'' O'' Z'' U'' y e h'' tk' x' S'' r' q'=>he G'' O'' Z'' U'' y e h'' tk' ((X.weaken (by simp)).trans x') S'' r' q'
theorem pU {P:PT Flow} {F:Loc->List aa->Prop} (d:∀ {U:Loc} {G:PH} {O:Fp} {Z:List aa},F U Z->ar w base fx U G O Z P Q E):∀ {xs:List Str} {U:Loc} {G:PH} {O:Fp} {Z:List aa},nY xs U Z F->ar w base fx U G O Z P Q E:=by
 intro xs
 induction xs with
 | nil=>
  intro U G O Z q
  exact d q
 | cons x r ih=>
  intro U G O Z q
  unfold nY at q
  split at q
  · rename_i k hx
    split at q
    · rename_i c hk
      split at q
      · rename_i dd e
        refine ar.ghost fun s S=>?_
        obtain ⟨fp,a,rest,_,_,_,S',X⟩:=S.freeze hk e
        exact ⟨_,_,_,_,S',X,ih q⟩
      · exact q.elim
    · exact q.elim
  · exact ih q
theorem pQ {P:PT Flow} {F:V->Loc->List aa->Prop} {v:V} {c:Value} (r:VR w G O v c) (q:nX v U Z F) (d:∀ {G':PH} {O':Fp} {v':V} {U':Loc} {Z':List aa},VR w G' O' v' c->F v' U' Z'->ar w base fx U' G' O' Z' P Q E):ar w base fx U G O Z P Q E:=by
 unfold nX at q
 split at q
 · rename_i k ek
   obtain rfl:=mf ek
   split at q
   · rename_i oc hk
     refine ar.ghost fun s S=>?_
     obtain ⟨fp,a,rest,e1,ek,hd,S',X⟩:=S.freeze (xO hk) (d:=ocD oc) rfl
     subst e1
     have r':VR w (gr (a::rest) s.heap G) (O.set k []) (.d (ocD oc)) c:=by
      unfold VR at r ⊢
      rw [r.2 a rest ek];exact hd
     exact ⟨_,_,_,_,S',X,d r' q⟩
   · exact q.elim
 · exact d r q
end
end Mine
namespace Mine
open PySem PySem.W PyProof.Rows PySem.SeqAt
section
variable {prog:Program} {w:World} {A:Around} {E:Value->Shared->Prop} {s:Shared}
theorem kI {l:Addr} {items:Array Value} {k:Int} {t:Tok} {v:Value} {Q:Unit->Shared->Prop} (hl:s.heap.PlainList l items)
  (h0:0<=k) (hfit:k<2 ^ 63) (hn:k<items.size) (hQ:∀ h',h'.PlainList l (items.setIfInBounds k.toNat v)->Heap.SameBut l s.heap h'->Q () {s with heap:=h'}):
  wpAny (model prog w) A (setItem (.ref l) (.int k t) v) Q E s:=by
 exists prog,w,A,E,s,l,items,k,t,v,Q,_ hl h0 hfit hn hQ
 obtain ⟨ne,ho⟩:=id hl
 unfold setItem
 try with_reducible refine wpAny_holding ?_
 first | refine wpAny_bind (wpAny_pure ?_) | skip
 refine wpAny_bind (wpAny_sequenceKey hl.isList.typeIs (by decide) ?_)
 refine wpAny_bind (wpAny_callSpecial?_slot (name:="__setitem__") hl.isList.typeIs slot_list_setitem
  (wpAny_call_entry slot_list_setitem hl.isList.typeIs entry_list_setitem ?_ (args_list_setitem _ _ _)))
 show wpAny _ _ (Builtin.List.listSubscript? (.int k t)>>=_) _ _ s
 refine wpAny_bind (wpAny_listSubscript_int (fitsIndex_of h0 hfit) ?_)
 clear hfit
 obtain ⟨j,rfl⟩:=Int.eq_ofNat_of_zero_le h0;exists j,_ h0 hn hQ
 have hj:j<items.size:=by omega
 have hx':items[j]?=some items[j]:=Array.getElem?_eq_getElem hj
 show wpAny _ _ ((seqItemAt l j>>=fun r=>pure (r.map (j,·)))>>=_) _ _ s
 refine wpAny_bind (wpAny_bind (wpAny_seqItemAt ho rfl (wpAny_pure ?_)))
 rw [hx']
 show wpAny _ _ (setSeqItemAt l j v>>=_) _ _ s
 have hfin:(s.heap.update l (Obj.mapSeq (·.setIfInBounds j v))).PlainList l (items.setIfInBounds j v):=by
  have e:=Heap.get?_update_self (Obj.mapSeq (·.setIfInBounds j v)) ho (by simp [Obj.mapSeq];rfl)
  exact ⟨_,e⟩
 refine wpAny_bind (wpAny_setSeqItemAt ho rfl ?_)
 first
  | exact wpAny_bind (wpAny_pure (wpAny_pure ⟨.none,rfl,wpAny_pure (hQ _ hfin (Heap.SameBut.update ..))⟩))
  | exact wpAny_pure ⟨.none,rfl,wpAny_pure (hQ _ hfin (Heap.SameBut.update ..))⟩
end
section
variable {w:World} {base:Heap} {fx:Fx} {U:Loc} {G G':PH} {O O':Fp} {Z Z':List aa} {E:Str->List aa->Prop} {α β γ δ:Type} {h h':Heap} {n:Nat} {N:aC} {J:Ev} {S:Tab} {Q:QF}
theorem DRs.set:∀ {l:List D} {cs:List Value} {i:Nat} {x:D} {c:Value},DRs w G l cs->DR w G x c->DRs w G (l.set i x) (cs.set i c)
 | [],cs,i,x,c,r,q=>by unfold DRs at r;subst r;rfl
 | d::l,cs,0,x,c,r,q=>by
  obtain ⟨c0,r',rfl,h1,h2⟩:=r
  show DRs w G (x::l) (c::r')
  unfold DRs;exact ⟨c,r',rfl,q,h2⟩
 | d::l,cs,i+1,x,c,r,q=>by
  obtain ⟨c0,r',rfl,h1,h2⟩:=r
  show DRs w G (d::l.set i x) (c0::r'.set i c)
  unfold DRs;exact ⟨c0,_,rfl,h1,DRs.set h2 q⟩
theorem ol {o i r:V} {co ci cr:Value} {Qf:List aa->Prop} (ro:VR w G O o co) (ri:VR w G O i ci) (rr:VR w G O r cr) (q:wW Z o i r Qf):
  Den w base fx U G O Z (setItem co ci cr) (fun _ _ (_:Unit) (_:Unit)=>True) (fun _ Z'=>Qf Z') E:=by
 exists w,base,fx,U,G,O,Z,E,o,i,r,co,ci,cr,Qf,_ ro ri rr q
 intro s S QQ EE hq he;exists s,QQ,EE,_ S hq he
 unfold wW at q
 split at q
 · rename_i k x;exists k,x,_ ro rr q
   split at q
   · rename_i l hk;exists l,_ hk q
     split at q
     · rename_i m;exists m,_ ri q
       obtain ⟨c,q⟩:=ab.mp q
       simp only [Bool.and_eq_true] at c
       have c1:=ak.mp c.1.1
       have c2:=cH.mp c.1.2
       have c3:=Nat.le_of_ble_eq_true c.2
       obtain ⟨t,rfl⟩:=ri.ii
       obtain ⟨fp,ek,cr'⟩:=S.cells.at hk
       unfold be at cr'
       obtain ⟨a,rfl,cs,p,rs⟩:=cr'
       unfold VR at ro
       rw [ro.2 a [] ek]
       refine kI p c1 (by omega) (by rw [List.size_toArray,rs.len];exact c2) fun h' hl hs=>?_
       obtain ⟨oa,hoa⟩:∃ o,h'.get? a=some o:=let ⟨_,e⟩:=hl;⟨_,e⟩
       obtain ⟨S1,X1⟩:=S.upd (h':=h') (c:=.oc (.li (l.set m.toNat x))) ek (by
        unfold be
        exact ⟨a,rfl,cs.set m.toNat cr,by simpa using hl,rs.set rr⟩) (eB hs hoa) (fun b o hb e=>(hs.2 b (by simpa using hb)).trans e)
       exact hq G O _ () () h' s.toks X1 S1 trivial q
     · exact q.elim
   · rename_i l hk;exists l,_ hk q
     split at q
     · rename_i key
       obtain ⟨c,q⟩:=ab.mp q
       obtain ⟨t,rfl⟩:=ri.ss
       obtain ⟨fp,ek,cr'⟩:=S.cells.at hk
       unfold be at cr'
       obtain ⟨a,rfl,hsa,cs,hda,rs⟩:=cr'
       unfold VR at ro rr
       rw [ro.2 a [] ek]
       obtain ⟨cs',r',e'⟩:=fh l key x cs cr (DictOf.nodup hda rs) rs rr
       refine wpAny_setItem_pairs (knd:=strKind PR w) (k:=key) (hsz:=by rw [List.length_zip,List.length_map,rs.len,Nat.min_self];exact bM c) (strKind_is _ _ _ _) hda fun h' hd' hs'=>?_
       rw [e'] at hd'
       obtain ⟨oa,hoa⟩:∃ o,h'.get? a=some o:=let ⟨o,_,_,e,_⟩:=hd';⟨o,e⟩
       obtain ⟨S1,X1⟩:=S.upd (h':=h') (c:=.oc (.di (bz l key x))) ek (by
        exact ⟨a,rfl,hsa,cs',hd',r'⟩) (eB hs' hoa) (fun b o hb e=>(hs'.2 b (by simpa using hb)).trans e)
       exact hq G O _ () () h' _ X1 S1 trivial q
     · exact q.elim
   · exact q.elim
 · exact q.elim
end
end Mine
namespace Mine
open PySem PySem.W PyProof.Rows PySem.SeqAt
section
variable {w:World} {base:Heap} {fx:Fx} {U:Loc} {G G':PH} {O O':Fp} {Z Z':List aa} {E:Str->List aa->Prop} {α β γ δ:Type} {h h':Heap} {n:Nat} {N:aC} {J:Ev} {S:Tab} {Q:QF} {m m':Str->Option Value}
theorem ud {A:Around} {C x dx:Addr} {mA:Str->Option Value} {f:Str} {v:Value} {s:Shared} {ns:List Str} {Q:Unit->Shared->Prop} {EE:Value->Shared->Prop} (F:yX s.heap C f) (I:dl s.heap x dx C mA) (hne:dx≠x) (hw:Within mA ns) (hsz:ns.length<=sizeLine)
  (h:∀ h' tk,dl h' x dx C (fun y=>if y=f then some v else mA y)->(∀ b o,b≠x->b≠dx->s.heap.get? b=some o->h'.get? b=some o)->(∀ b o,s.heap.get? b=some o->∃ o',h'.get? b=some o')->Q () {s with heap:=h',toks:=tk}):
  wpAny (model PR w) A (setAttr (.ref x) f v) Q EE s:=by
 exists w,A,C,x,dx,mA,f,v,s,ns,Q,EE,_ F I hne hw hsz h
 obtain ⟨zz,ob⟩:=F;obtain ⟨N,mN,zy,hns,hg,hs,hf⟩:=zz;obtain ⟨nm,q,bs,sn,sub,col,dd,zz⟩:=zy;obtain ⟨k0,k1,k2,k3,k5,hC⟩:=zz
 have II:=I.inst hne
 obtain ⟨zz,h5⟩:=I;obtain ⟨o,h1,h2,h3,h4⟩:=zz
 have hxC:x≠C:=fun e=>by clear II h;subst e;rw [h1] at hC;clear h2 h4 h1;cases hC;exact h3 _ rfl
 obtain ⟨hh,g,d,t,os⟩:=s
 refine store_attr F.store_object hC hns hs hf ob hxC II (fun h' tk I' kp kx=>?_) hw hsz
 obtain ⟨o1,e1,e2,e3,e4,e5⟩:=kx o h1
 obtain ⟨o',i1,i2,i3,i4⟩:=I'
 have hoo:o'=o1:=by rw [e1] at i1;exact (Option.some.inj i1).symm
 clear e4 e3 e2;subst hoo
 have hd:=e5 dx h4
 have hn1:h'.Ns1 dx (fun y=>if y=f then some v else mA y):=by
  rcases i4 with ⟨q1,_⟩ | ⟨d',q1,q2,q3⟩
  · rw [hd] at q1;contradiction
  · rw [hd] at q1;clear q2;cases q1;exact q3
 refine h h' tk ⟨⟨o',e1,i2,i3,hd⟩,hn1⟩ (fun b ob hb1 hb2 e=>kp b ob hb1 (fun o₀ dx' z1 z2=>?_) e) fun b ob e=>?_
 · rw [h1] at z1;cases z1;rw [h4] at z2;cases z2;exact hb2
 · by_cases q1:b=x
   · clear i4 i1 kx kp h1 II h hxC hne;subst q1;exact ⟨_,e1⟩
   · by_cases q2:b=dx
     · clear hd h5 h h4 hne;subst q2
       obtain ⟨od,_,_,z,_⟩:=hn1
       exact ⟨od,z⟩
     · exact ⟨ob,kp b ob q1 (fun o₀ dx' z1 z2=>by rw [h1] at z1;cases z1;rw [h4] at z2;cases z2;exact q2) e⟩
theorem lQ {α:Type} {l:List (Str×α)} {f y:Str} (h:y∈(db l f).map (·.1)):y∈l.map (·.1)/\y≠f:=by
 obtain ⟨p,hp,rfl⟩:=List.mem_map.mp h
 unfold db at hp
 rw [List.mem_filter] at hp
 exact ⟨List.mem_map.mpr ⟨p,hp.1,rfl⟩,by simpa using hp.2⟩
theorem lJ {α:Type} {l:List (Str×α)} {f y:Str} (h:y∈l.map (·.1)) (hn:y≠f):y∈(db l f).map (·.1):=by
 obtain ⟨p,hp,rfl⟩:=List.mem_map.mp h
 refine List.mem_map.mpr ⟨p,?_,rfl⟩
 unfold db
 rw [List.mem_filter]
 exact ⟨hp,by simpa using hn⟩
theorem fu {α:Type}:∀ {l:List (Str×α)} {f:Str},l.lookup f=none->∀ y∈l.map (·.1),y≠f:=by
 intro l f
 induction l with
 | nil=>exact fun _ y hy=>nomatch hy
 | cons p r ih=>
  intro e
  rw [List.lookup_cons] at e
  cases q:f==p.1 with
  | true=>rw [q] at e;exact nS e.symm
  | false=>rw [q] at e;exact List.forall_mem_cons.mpr ⟨fun e2=>ne_of_beq_false q e2.symm,ih e⟩
theorem bF.upd:∀ {l:List (Str×D)},bF w G m l->(∀ y∈l.map (·.1),m' y=m y)->bF w G m' l
 | [],_,_=>trivial
 | (y,d)::r,x,e=>by
  unfold bF at x ⊢
  obtain ⟨zz,z⟩:=x;obtain ⟨c,hc,rd⟩:=zz
  exact ⟨⟨c,(e y (by simp)).trans hc,rd⟩,bF.upd z fun y' hy'=>e y' (by rw [List.map_cons];exact .tail _ hy')⟩
theorem bF.drop:∀ {l:List (Str×D)} {f:Str},bF w G m l->bF w G m (db l f)
 | [],_,_=>trivial
 | (y,d)::r,f,x=>by
  unfold bF at x
  show bF w G m (List.filter _ _)
  rw [List.filter_cons]
  split
  · unfold bF;exact ⟨x.1,bF.drop x.2⟩
  · exact bF.drop x.2
theorem bF.snoc:∀ {l:List (Str×D)} {f:Str} {d:D} {c:Value},bF w G m l->m f=some c->DR w G d c->bF w G m (l++[(f,d)])
 | [],f,d,c,_,e,r=>⟨⟨c,e,r⟩,trivial⟩
 | (y,d0)::r0,f,d,c,x,e,r=>by
  unfold bF at x
  show bF w G m ((y,d0)::(r0++_))
  exact ⟨x.1,bF.snoc x.2 e r⟩
theorem bl.upd:∀ {l:List (Str×OC)} {as:List Addr},bl w G h m l as->(∀ y∈l.map (·.1),m' y=m y)->bl w G h m' l as
 | [],_,x,_=>x
 | (y,d)::r,_,x,e=>by
  unfold bl at x ⊢
  obtain ⟨a,as',rfl,hm,ho,z⟩:=x
  exact ⟨a,as',rfl,(e y (by simp)).trans hm,ho,bl.upd z fun y' hy'=>e y' (by rw [List.map_cons];exact .tail _ hy')⟩
theorem bl.drop:∀ {l:List (Str×OC)} {as:List Addr} {f:Str},bl w G h m l as->as.Nodup->∃ as',bl w G h m (db l f) as'/\(∀ a∈as',a∈as)/\as'.Nodup:=by
 intro l
 induction l with
 | nil=>exact fun _ _=>⟨[],rfl,(fun a ha=>nomatch ha),List.nodup_nil⟩
 | cons p r ih=>
  obtain ⟨y,d⟩:=p
  intro as f x nd
  obtain ⟨a,as0,rfl,hm,ho,z⟩:=x
  rw [List.nodup_cons] at nd
  obtain ⟨as',h1,h2,h3⟩:=ih (f:=f) z nd.2
  unfold db
  rw [List.filter_cons]
  split
  · exact ⟨a::as',⟨a,as',rfl,hm,ho,h1⟩,List.forall_mem_cons.mpr ⟨.head _,fun b hb=>.tail _ (h2 b hb)⟩,List.nodup_cons.mpr ⟨fun q=>nd.1 (h2 a q),h3⟩⟩
  · exact ⟨as',h1,fun b hb=>.tail _ (h2 b hb),h3⟩
theorem bl.snoc:∀ {l:List (Str×OC)} {as:List Addr} {f:Str} {c:OC} {a:Addr},bl w G h m l as->m f=some (.ref a)->OCR w G h c a->bl w G h m (l++[(f,c)]) (as++[a])
 | [],as,f,c,a,x,e,r=>by unfold bl at x;subst x;show bl w G h m [(f,c)] [a];unfold bl;exact ⟨a,[],rfl,e,r,rfl⟩
 | (y,d)::r0,as,f,c,a,x,e,r=>by
  obtain ⟨b,as',rfl,hm,ho,z⟩:=x
  show bl w G h m ((y,d)::(r0++_)) (b::(as'++[a]))
  exact ⟨b,_,rfl,hm,ho,bl.snoc z e r⟩
theorem bl.set:∀ {l:List (Str×OC)} {as:List Addr} {f:Str} {c c':OC} {a:Addr},bl w G h m l as->as.Nodup->l.lookup f=some c->m f=some (.ref a)->OCR w G h' c' a->(∀ b∈as,b≠a->∀ o,h.get? b=some o->h'.get? b=some o)->bl w G h' m (du l f c') as:=by
 intro l
 induction l with
 | nil=>exact fun _ _ e=>nS e
 | cons p r0 ih=>
  obtain ⟨y,d⟩:=p
  intro as f c c' a x nd e hm r kp
  obtain ⟨b,as',rfl,hb,ho,z⟩:=x
  rw [List.nodup_cons] at nd
  unfold du
  refine lL e (fun q _=>?_) fun q e=>?_
  · rw [decide_eq_true q]
    rw [<- q,hm] at hb
    cases hb
    exact ⟨_,as',rfl,q▸hm,r,bl.mono (Sub.refl _) (fun b hb o e=>kp b (.tail _ hb) (fun q=>nd.1 (q▸hb)) o e) z⟩
  · rw [decide_eq_false (ne_of_beq_false q)]
    have hba:b≠a:=fun q=>by
     obtain ⟨a',h1,h2,_⟩:=bl.look z e
     rw [hm] at h2;cases h2;exact nd.1 (q▸h1)
    exact ⟨b,as',rfl,hb,ho.mono (Sub.refl _) (fun o e=>kp b (.head _) hba o e),ih z nd.2 e hm r fun b' hb'=>kp b' (.tail _ hb')⟩
end
end Mine
namespace Mine
open PySem PySem.W PyProof.Rows PySem.SeqAt
section
variable {w:World} {base:Heap} {fx:Fx} {U:Loc} {G G':PH} {O O':Fp} {Z Z':List aa} {E:Str->List aa->Prop} {α β γ δ:Type} {h h':Heap} {n:Nat} {N:aC} {J:Ev} {S:Tab} {Q:QF} {m m':Str->Option Value}
theorem iK {α β:Type} {l:List (Str×α)} {own:List (Str×β)} {f:Str} {v:Value} {x:α} (hw:Within m (l.map (·.1)++own.map (·.1))):Within (fun y=>if y=f then some v else m y) ((db l f++[(f,x)]).map (·.1)++own.map (·.1)):=by
 intro y hy
 by_cases q:y=f
 · clear hy;subst q;simp
 · have hy':m y≠none:=by have:=hy;simp only [q,if_false] at this;exact this
   rcases List.mem_append.mp (hw y hy') with z | z
   · exact List.mem_append_left _ (by rw [List.map_append];exact List.mem_append_left _ (lJ z q))
   · exact List.mem_append_right _ z
theorem l7 {α β:Type} {l:List (Str×α)} {own:List (Str×β)} {f:Str} {v:Value} {x:β} (hw:Within m (l.map (·.1)++own.map (·.1))):Within (fun y=>if y=f then some v else m y) (l.map (·.1)++(db own f++[(f,x)]).map (·.1)):=by
 intro y hy
 by_cases q:y=f
 · clear hy;subst q;simp
 · have hy':m y≠none:=by have:=hy;simp only [q,if_false] at this;exact this
   rcases List.mem_append.mp (hw y hy') with z | z
   · exact List.mem_append_left _ z
   · exact List.mem_append_right _ (by rw [List.map_append];exact List.mem_append_left _ (lJ z q))
theorem lP {l:List (Str×D)} {f:Str} {d:D} {v:Value} (r:bF w G m l) (rd:DR w G d v):bF w G (fun y=>if y=f then some v else m y) (db l f++[(f,d)]):=by
 refine bF.snoc (bF.upd r.drop fun y hy=>?_) (by simp) rd
 rw [if_neg (lQ hy).2]
theorem nJ {own:List (Str×OC)} {as:List Addr} {f:Str} {v:Value} (r:bl w G h m own as) (hn:own.lookup f=none):bl w G h (fun y=>if y=f then some v else m y) own as:=
 bl.upd r fun y hy=>by rw [if_neg (fu hn y hy)]
theorem vX {l:List (Str×D)} {f:Str} {v:Value} (r:bF w G m l) (hn:l.lookup f=none):bF w G (fun y=>if y=f then some v else m y) l:=
 bF.upd r fun y hy=>by rw [if_neg (fu hn y hy)]
theorem im {α:Type} {o:Option α} (h:nN o=true):o=none:=by cases o <;> first | rfl | contradiction
theorem om (W:Wd w base) {o r:V} {co cr:Value} {f:Str} {Qf:List aa->Prop} (ro:VR w G O o co) (rr:VR w G O r cr) (q:qr Z o f r Qf):
  Den w base fx U G O Z (setAttr co f cr) (fun _ _ (_:Unit) (_:Unit)=>True) (fun _ Z'=>Qf Z') E:=by
 exists w,base,fx,U,G,O,Z,E,o,r,co,cr,f,Qf,_ W ro rr q
 intro s S QQ EE hq he;exists s,QQ,EE,_ S hq he
 have bk:∀ b o,base.get? b=some o->s.heap.get? b=some o:=fun b o e=>S.sub b o (S.bs b o e)
 unfold qr at q
 split at q
 · rename_i k;exists k,_ ro q
   split at q
   · rename_i C l own hk;exists C,l,own,_ hk q
     replace q:=ab.mp q
     obtain ⟨c,q⟩:=q
     rw [Bool.and_eq_true] at c
     obtain ⟨fp,ek,cr'⟩:=S.cells.at hk
     have ndf:=dA S.nd ek
     have crr:=cr'
     unfold be at cr'
     obtain ⟨x,dx,as,mA,rfl,I,hw,zz⟩:=cr';obtain ⟨hf,ho⟩:=zz
     have hne:dx≠x:=fun e=>by clear I crr ek;subst e;simp at ndf
     have ndas:as.Nodup:=(List.nodup_cons.mp (List.nodup_cons.mp ndf).2).2
     have asx:∀ b∈as,b≠x/\b≠dx:=fun b hb=>⟨fun e=>(List.nodup_cons.mp ndf).1 (e▸.tail _ hb),fun e=>(List.nodup_cons.mp (List.nodup_cons.mp ndf).2).1 (e▸hb)⟩
     unfold VR at ro
     rw [ro.2 x _ ek]
     have inn:∀ b∈x::dx::as,b∈O.flatten:=fun b hb=>ay ek hb
     refine ud (wK W bk c.1) I hne hw (by rw [List.length_append,List.length_map,List.length_map];exact bM c.2) fun h' tk I' kp dom=>?_
     have kpo:∀ b∈as,∀ ob,s.heap.get? b=some ob->h'.get? b=some ob:=fun b hb ob e=>kp b ob (asx b hb).1 (asx b hb).2 e
     split at q
     · rename_i d
       obtain ⟨cn,q⟩:=ab.mp q
       have hn:=im cn
       unfold VR at rr
       obtain ⟨S1,X1⟩:=S.upd (h':=h') (c:=.inst C (db l f++[(f,d)]) own) ek (by
        exact ⟨x,dx,as,_,rfl,I',iK hw,lP hf rr,bl.mono (Sub.refl _) kpo (nJ ho hn)⟩) dom
        (fun b ob hb e=>kp b ob (fun e2=>hb (e2▸.head _)) (fun e2=>hb (e2▸.tail _ (.head _))) e)
       exact hq G O _ () () h' tk X1 S1 trivial q
     · rename_i j
       replace q:=ab.mp q
       obtain ⟨cj,q⟩:=q
       have hjk:j≠k:=fun e=>by clear q ro ek hk;subst e;simp at cj
       split at q
       · rename_i oc hj
         obtain ⟨fpj,ej,crj⟩:=S.cells.at hj
         obtain ⟨aj,rfl,roj⟩:=crj
         unfold VR at rr
         have ecr:=rr.2 aj [] ej
         subst ecr
         have ajf:aj∉x::dx::as:=fun hm=>hjk (mQ S.nd ej ek (.head _) hm)
         have ajx:aj≠x/\aj≠dx:=⟨fun e=>ajf (e▸.head _),fun e=>ajf (e▸.tail _ (.head _))⟩
         have ajO:aj∈O.flatten:=ay ej (.head _)
         have roj':OCR w G h' oc aj:=roj.mono (Sub.refl _) fun ob e=>kp aj ob ajx.1 ajx.2 e
         have ekj:(O.set j [])[k]?=some (x::dx::as):=by rw [List.getElem?_set_ne hjk];exact ek
         have ndj:(O.set j []).flatten.Nodup:=bv S.nd ej List.nodup_nil (fun b hb=>by contradiction)
         have fin:∀ (G':PH) (fp':List Addr) (c':aa),Sub G G'->(∀ b o,G' b=some o->G b=some o\/(b=aj/\aj∉fp'/\h'.get? b=some o))->be w G' h' c' fp'->fp'.head?=some x->fp'.Nodup->(∀ b∈fp',b∈x::dx::as\/b=aj)->Qf ((Z.set k c').set j .dead)->QQ () {s with heap:=h',toks:=tk}:=by
          intro G' fp' c' hsub hG' hc' hhead hnd' hmem hqf
          have nj:∀ a,a∈(O.set j []).flatten->a≠aj:=fun a ha e=>by
           rcases d4 S.nd ej a ha with q1 | q1
           · contradiction
           · exact q1.2 (by rw [e];exact .head _)
          have cells':aq w G' h' ((Z.set j .dead).set k c') ((O.set j []).set k fp'):=by
           have c1:aq w G s.heap (Z.set j .dead) (O.set j []):=S.cells.set (by unfold be;rfl)
           exact aq.updE hsub c1 ndj ekj hc' fun b hb hbn ob e=>kp b ob (fun e2=>hbn (e2▸.head _)) (fun e2=>hbn (e2▸.tail _ (.head _))) e
          have fl':∀ a∈((O.set j []).set k fp').flatten,a∈O.flatten/\(a=aj->aj∈fp'):=fun a ha=>by
           rcases d4 ndj ekj a ha with q1 | q1
           · refine ⟨?_,fun e=>e▸q1⟩
             rcases hmem a q1 with q2 | q2
             · exact inn a q2
             · rw [q2];exact ajO
           · refine ⟨?_,fun e=>absurd e (nj a q1.1)⟩
             rcases d4 S.nd ej a q1.1 with q2 | q2
             · contradiction
             · exact q2.1
          obtain ⟨S1,X1⟩:=S.reshape (O':=(O.set j []).set k fp') (Z':=(Z.set j .dead).set k c') (G':=G') (h':=h') ((IxE.set ej (.inl rfl)).trans (IxE.set ekj (.inr hhead))) hsub cells'
           (bv ndj ekj hnd' fun b hb=>(hmem b hb).imp id fun e hb'=>nj b hb' e) (fun a ha=>(fl' a ha).1) (fun a ha=>by
            cases e:G' a with
            | none=>rfl
            | some ob=>
             rcases hG' a ob e with q1 | q1
             · rw [S.out a (fl' a ha).1] at q1;contradiction
             · exact absurd ((fl' a ha).2 q1.1) q1.2.1) (fun b ob e=>by
            rcases hG' b ob e with q1 | q1
            · exact kp b ob (fun e2=>by rw [e2,S.out x (inn x (.head _))] at q1;contradiction) (fun e2=>by rw [e2,S.out dx (inn dx (.tail _ (.head _)))] at q1;contradiction) (S.sub b ob q1)
            · exact q1.2.2) (fun b ob e=>by
            rcases hG' b ob e with q1 | q1
            · exact .inl q1
            · exact .inr (by rw [q1.1];exact ajO)) (fun b ob hb e=>kp b ob (fun e2=>hb (e2▸inn x (.head _))) (fun e2=>hb (e2▸inn dx (.tail _ (.head _)))) e) dom
          have es:(Z.set j aa.dead).set k c'=(Z.set k c').set j aa.dead:=List.set_comm _ _ hjk
          rw [es] at S1
          exact hq G' _ _ () () h' tk X1 S1 trivial hqf
         split at q
         · obtain ⟨cn,q⟩:=ab.mp q
           have hn:=im cn
           obtain ⟨as',o1,o2,o3⟩:=bl.drop (f:=f) ho ndas
           refine fin G (x::dx::(as'++[aj])) (.inst C l (db own f++[(f,oc)])) (Sub.refl _) (fun b ob e=>.inl e) ?_ rfl ?_ ?_ q
           · unfold be
             refine ⟨x,dx,as'++[aj],_,rfl,I',l7 hw,vX hf hn,bl.snoc ?_ (by simp) roj'⟩
             refine bl.mono (Sub.refl _) (fun b hb=>kpo b (o2 b hb)) (bl.upd o1 fun y hy=>?_)
             rw [if_neg (lQ hy).2]
           · rw [List.nodup_cons,List.nodup_cons,List.nodup_append]
             refine ⟨fun hm=>?_,fun hm=>?_,o3,by simp,fun a ha b hb e=>?_⟩
             · clear q;rcases List.mem_cons.mp hm with e | hm
               · exact hne e.symm
               · rcases List.mem_append.mp hm with hm | hm
                 · exact (asx x (o2 x hm)).1 rfl
                 · rw [List.mem_singleton] at hm;exact ajx.1 hm.symm
             · clear q;rcases List.mem_append.mp hm with hm | hm
               · exact (asx dx (o2 dx hm)).2 rfl
               · rw [List.mem_singleton] at hm;exact ajx.2 hm.symm
             · rw [List.mem_singleton] at hb
               clear q;subst hb;clear fin roj' ajO ajx rr I' ej roj;subst e
               exact ajf (.tail _ (.tail _ (o2 a ha)))
           · intro b hb
             clear q;rcases List.mem_cons.mp hb with rfl | hb
             · exact .inl (.head _)
             clear fin ekj ajx ajf I' kp inn asx hne I crr ndf ek;rcases List.mem_cons.mp hb with rfl | hb
             · exact .inl (.tail _ (.head _))
             rcases List.mem_append.mp hb with hb | hb
             · exact .inl (.tail _ (.tail _ (o2 b hb)))
             · rw [List.mem_singleton] at hb;exact .inr hb
         · obtain ⟨cn,q⟩:=ab.mp q
           have hn:=im cn
           have hsub:Sub G (gr [aj] h' G):=fun b ob g=>by
            by_cases hb:b∈[aj]
            · rw [List.mem_singleton] at hb;clear q fin roj' ajx ajf rr I' ej roj;subst hb;rw [S.out b ajO] at g;contradiction
            · rw [jZ hb];exact g
           refine fin (gr [aj] h' G) (x::dx::as) (.inst C (db l f++[(f,ocD oc)]) own) hsub (fun b ob e=>?_) ?_ rfl ndf (fun b hb=>.inl hb) q
           · unfold gr at e
             clear q;split at e
             · rename_i hb;rw [List.mem_singleton] at hb;exact .inr ⟨hb,ajf,e⟩
             · exact .inl e
           · unfold be
             refine ⟨x,dx,as,_,rfl,I',iK hw,lP (hf.mono hsub) ?_,bl.mono hsub kpo (nJ ho hn)⟩
             exact roj'.freeze hsub fun ob e=>by rw [rh (.head _)];exact e
       · exact q.elim
     · exact q.elim
   · exact q.elim
 · exact q.elim
end
end Mine
namespace Mine
open PySem PySem.W PyProof.Rows PySem.SeqAt
section
variable {w:World} {base:Heap} {fx:Fx} {U:Loc} {G G':PH} {O O':Fp} {Z Z':List aa} {E:Str->List aa->Prop} {α β γ δ:Type} {h h':Heap} {n:Nat} {N:aC} {J:Ev} {S:Tab} {Q:QF} {m m':Str->Option Value}
structure rD (w:World) (G:PH) (O:Fp) (Z:List aa) (h:Heap) (k:Nat) (f:Str) (c:OC) (a x dx C:Addr) (l:List (Str×D)) (own:List (Str×OC)) (as:List Addr) (m:Str->Option Value):Prop where
 hZ:Z[k]?=some (.inst C l own)
 hl:own.lookup f=some c
 hO:O[k]?=some (x::dx::as)
 inst:dl h x dx C m
 within:Within m (l.map (·.1)++own.map (·.1))
 fld:bF w G m l
 ownR:bl w G h m own as
 hm:m f=some (.ref a)
 ha:a∈as
 oc:OCR w G h c a
theorem nH (W:Wd w base) (ok:aE base n fx) (hN:FxN fx N) {x f:Str} {pos pos':Pos} {k:Nat} {c:OC} {s:Shared} (S:St w base fx G O Z U s.heap) (hd:bi x=true) (hk:aN N x=true) (ho:ft U Z x f=some (k,c))
  {QQ:Value->Shared->Prop} {EE:Value->Shared->Prop} (h:∀ a tk xx dx C l own as m,rD w G O Z s.heap k f c a xx dx C l own as m->QQ (.ref a) {s with toks:=tk}):
  wpAny (model PR w) fx.A (eval (.Attribute (.Name x pos) f pos') fx.env) QQ EE s:=by
 have bk:∀ b o,base.get? b=some o->s.heap.get? b=some o:=fun b o e=>S.sub b o (S.bs b o e)
 unfold ft at ho
 split at ho
 · rename_i k' hv
   split at ho
   · rename_i C l own hZ
     split at ho
     · rename_i ha
       split at ho
       · rename_i c' hl
         cases ho
         refine Attribute_Name_ ?_ (by rw [arm_eval_Attribute];rfl)
         refine dC ok hN S hd hk hv fun cv tk r=>?_
         obtain ⟨fp,ek,cr⟩:=S.cells.at hZ
         have nd:=dA S.nd ek
         obtain ⟨a,dx,as,m,rfl,I,hw,zz⟩:=cr;obtain ⟨hf,hown⟩:=zz
         unfold VR at r
         rw [r.2 a _ ek]
         have hne:dx≠a:=fun e=>by clear I ek;subst e;simp at nd
         obtain ⟨b,hb,hm,ro⟩:=hown.look hl
         exact gY (wK W bk ha) (I.inst hne) hm (fun id e=>by contradiction) (h b _ a dx C l own as m ⟨hZ,hl,ek,I,hw,hf,hown,hm,hb,ro⟩)
       · contradiction
     · contradiction
   · contradiction
 · contradiction
theorem iP:∀ (l:List (Str×OC)) (f:Str) (c:OC),(du l f c).map (·.1)=l.map (·.1)
 | [],_,_=>rfl
 | (y,u)::r,f,c=>by
  unfold du
  split
  · rfl
  · rw [List.map_cons,List.map_cons,iP r f c]
theorem rD.upd (S:St w base fx G O Z U h) {k:Nat} {f:Str} {c c':OC} {a x dx C:Addr} {l:List (Str×D)} {own:List (Str×OC)} {as:List Addr} (Oo:rD w G O Z h k f c a x dx C l own as m) (hs:Heap.SameBut a h h') (hc:OCR w G h' c' a):
  St w base fx G O (Z.set k (.inst C l (du own f c'))) U h'/\Ext [] fx.frs G O h G O h':=by
 have nd:=dA S.nd Oo.hO
 have hax:a≠x:=fun e=>(List.nodup_cons.mp nd).1 (e▸.tail _ Oo.ha)
 have hadx:a≠dx:=fun e=>(List.nodup_cons.mp (List.nodup_cons.mp nd).2).1 (e▸Oo.ha)
 have kp:∀ b o,b≠a->h.get? b=some o->h'.get? b=some o:=fun b o hb e=>(hs.2 b hb).trans e
 obtain ⟨oa,hoa⟩:=hc.ex
 refine S.upd (h':=h') (c:=.inst C l (du own f c')) Oo.hO ?_ (eB hs hoa) fun b o hb e=>kp b o (fun q=>hb (q▸.tail _ (.tail _ Oo.ha))) e
 refine ⟨x,dx,as,m,rfl,Oo.inst.at (fun o e=>kp x o hax.symm e) (fun o e=>kp dx o hadx.symm e),?_,Oo.fld,bl.set Oo.ownR (List.nodup_cons.mp (List.nodup_cons.mp nd).2).2 Oo.hl Oo.hm hc fun b hb hne o e=>kp b o hne e⟩
 rw [iP];exact Oo.within
theorem kg (W:Wd w base) (I:aV w base n J) (ok:aE base n fx) (hN:FxN fx N) {x f:Str} {px pa pos:Pos} {v:Expr} (h1:bV v=false) (h2:bi x=true) (h3:aN N x=true)
  (q:match U.lookup x with
   | some o=>J.ev N v U Z (fun r Z1=>qr Z1 o f r fun Z'=>Q .nx U Z') E
   | none=>False):bT w base fx U G O Z (exec (.Assign [.Attribute (.Name x px) f pa] v pos) fx.env) Q E:=by
 split at q
 · rename_i o hx
   refine ar.to (ar.seq (P:=fun c QQ EE s=>wpAny (model PR w) fx.A (eval (.Name x px) fx.env) (fun ov s₂=>wpAny (model PR w) fx.A (setAttr ov f c) (fun _ s'=>QQ .next s') EE s₂) EE s)
    (fun QQ EE s h=>plainObj_wpAny_Assign_Attribute h (bG h1)) (I.ev ok hN q) ?_)
   intro G' O' Z' r c _ _ rr q1
   intro s S QQ EE hq he
   refine dC (s:=s) ok hN S h2 h3 hx fun cv tk rv=>?_
   exact om (E:=fun _ _=>False) W rv rr q1 {s with toks:=tk} S _ _ (fun G2 O2 Z2 _ _ h2 tk2 X2 S2 _ q2=>hq G2 O2 Z2 U .nx .next h2 tk2 (X2.weaken (by simp)) S2 rfl q2) (fun _ _ _ _ _ _ _ _ _ _ q2=>q2.elim)
 · exact q.elim
theorem kZ (I:aV w base n J) (ok:aE base n fx) (hN:FxN fx N) {x:Str} {i:Expr} {px pa pos:Pos} {v:Expr} (h1:bV v=false) (h2:bi x=true) (h3:aN N x=true)
  (q:match U.lookup x with
   | some o=>J.ev N v U Z (fun r Z1=>J.ev N i U Z1 (fun iv Z2=>wW Z2 o iv r fun Z'=>Q .nx U Z') E) E
   | none=>False):bT w base fx U G O Z (exec (.Assign [.Subscript (.Name x px) i pa] v pos) fx.env) Q E:=by
 split at q
 · rename_i o hx
   refine ar.to (ar.seq (P:=fun c QQ EE s=>wpAny (model PR w) fx.A (eval (.Name x px) fx.env) (fun ov s₂=>wpAny (model PR w) fx.A (eval i fx.env) (fun iv s₃=>wpAny (model PR w) fx.A (setItem ov iv c) (fun _ s'=>QQ .next s') EE s₃) EE s₂) EE s)
    (fun QQ EE s h=>wpAny_Assign_Subscript h (bG h1)) (I.ev ok hN q) ?_)
   intro G' O' Z' r c _ _ rr q1
   intro s S QQ EE hq he
   refine dC (s:=s) ok hN S h2 h3 hx fun cv tk rv=>?_
   have d:ar w base fx U G' O' Z' (fun QQ EE s=>wpAny (model PR w) fx.A (eval i fx.env) (fun iv s₃=>wpAny (model PR w) fx.A (setItem cv iv c) (fun _ s'=>QQ .next s') EE s₃) EE s) Q E:=by
    refine ar.seq (P:=fun iv QQ EE s₃=>wpAny (model PR w) fx.A (setItem cv iv c) (fun _ s'=>QQ .next s') EE s₃) (fun QQ EE s h=>h) (I.ev ok hN q1) ?_
    intro G2 O2 Z2 iv ci x2 ix2 ri q2
    intro s S QQ EE hq he
    exact ol (E:=fun _ _=>False) (rv.mono x2 ix2) ri (rr.mono x2 ix2) q2 s S _ _ (fun G2 O2 Z2 _ _ h2 tk2 X2 S2 _ q2=>hq G2 O2 Z2 U .nx .next h2 tk2 (X2.weaken (by simp)) S2 rfl q2) (fun _ _ _ _ _ _ _ _ _ _ q2=>q2.elim)
   exact d {s with toks:=tk} S QQ EE hq he
 · exact q.elim
theorem le (W:Wd w base) (I:aV w base n J) (ok:aE base n fx) (hN:FxN fx N) {x f key:Str} {kd:Nat} {px pf pk pa pos:Pos} {v:Expr} (h1:bV v=false) (h2:bi x=true) (h3:aN N x=true)
  (q:J.ev N v U Z (fun r Z1=>match dV r,qU U Z1 x f with
   | some d,some p=>match iy Z1 p.1 with
    | some i=>grd (Nat.ble p.2.length 1048576) (Q .nx U (Z1.set p.1 (.inst i.1 i.2.1 (du i.2.2 f (.di (bz p.2 key d))))))
    | none=>False
   | _,_=>False) E):bT w base fx U G O Z (exec (.Assign [.Subscript (.Attribute (.Name x px) f pf) (.Constant (.str key) kd pk) pa] v pos) fx.env) Q E:=by
 refine ar.to (ar.seq (P:=fun c QQ EE s=>wpAny (model PR w) fx.A (eval (.Attribute (.Name x px) f pf) fx.env) (fun ov s₂=>wpAny (model PR w) fx.A (eval (.Constant (.str key) kd pk) fx.env) (fun iv s₃=>wpAny (model PR w) fx.A (setItem ov iv c) (fun _ s'=>QQ .next s') EE s₃) EE s₂) EE s)
  (fun QQ EE s h=>wpAny_Assign_Subscript h (bG h1)) (I.ev ok hN q) ?_)
 intro G' O' Z' r c _ _ rr q1
 split at q1
 · rename_i d p ed ho
   obtain rfl:=iX ed
   obtain ⟨k,l⟩:=p
   split at q1
   · rename_i i hk
     obtain ⟨C,fs,own⟩:=i
     have hk:=lN hk
     obtain ⟨c1,q1⟩:=ab.mp q1
     intro s S QQ EE hq he
     refine nH W ok hN S h2 h3 (u8 ho) fun a tk xx dx C' l' own' as m Oo=>?_
     have hZ:=Oo.hZ
     rw [hk] at hZ;clear hk;cases hZ
     refine wpAny_Constant_str ?_
     obtain ⟨hsa,cs,hda,rs⟩:=Oo.oc
     unfold VR at rr
     obtain ⟨cs',r',e'⟩:=fh l key d cs c (DictOf.nodup hda rs) rs rr
     refine wpAny_setItem_pairs (knd:=strKind PR w) (k:=key) (hsz:=by rw [List.length_zip,List.length_map,rs.len,Nat.min_self];exact bM c1) (strKind_is _ _ _ _) hda fun h' hd' hs'=>?_
     rw [e'] at hd'
     obtain ⟨S1,X1⟩:=Oo.upd S (c':=.di (bz l key d)) hs' ⟨hsa,cs',hd',r'⟩
     exact hq G' O' _ U .nx .next h' _ (X1.weaken (by simp)) S1 rfl q1
   · exact q1.elim
 · exact q1.elim
theorem kh {U0:Loc}:∀ {U:Loc} {x:Str} {v:V},(ki U0 U).lookup x=some v->(∃ d,v=.d d)/\U0.lookup x=some v:=by
 intro U x v
 induction U with
 | nil=>exact fun e=>nS e
 | cons p r ih=>
  obtain ⟨y,u⟩:=p
  intro e
  unfold ki at e
  cases hd:(U0.lookup y).bind dV with
  | none=>rw [hd] at e;exact ih e
  | some d=>
   rw [hd] at e
   obtain ⟨u,hd,eu⟩:=aD hd
   obtain rfl:=iX eu
   exact lL e (fun q e2=>⟨⟨d,e2.symm⟩,by rw [q,<- e2];exact hd⟩) fun _ e=>ih e
theorem St.forget (S:St w base fx G O Z U h):St w base fx G [] [] (ki U U) h:=by
 refine ⟨⟨S.bs,S.sub,rfl,List.nodup_nil,fun a ha=>by simp at ha⟩,?_,fun a ha=>⟨(S.oo a ha).1,by simp⟩,S.ond,fun a ha=>⟨by simp,(S.fo a ha).2⟩,S.ff⟩
 obtain ⟨m,hn,hm⟩:=S.fr.ns
 refine ⟨⟨m,hn,fun x v e k=>?_⟩,fun p hp=>?_⟩
 · obtain ⟨zz,e2⟩:=kh e;obtain ⟨d,rfl⟩:=zz
   obtain ⟨c,hc,r⟩:=hm x _ e2 k
   exact ⟨c,hc,by unfold VR at r ⊢;exact r⟩
 · obtain ⟨co,hc,hv⟩:=S.fr.ce p hp
   refine ⟨co,hc,fun v e k=>?_⟩
   obtain ⟨zz,e2⟩:=kh e;obtain ⟨d,rfl⟩:=zz
   obtain ⟨c,hc,r⟩:=hv _ e2 k
   exact ⟨c,hc,by unfold VR at r ⊢;exact r⟩
theorem kX (W:Wd w base) (I:aV w base n J) (ok:aE base n fx) (hN:FxN fx N) {x f mt:Str} {a:Expr} {px pf ap cp pos:Pos} {k:Nat} {l:List D} (ho:ft U Z x f=some (k,.li l))
  (q:grd (bi x&&aN N x&&decide (mt="append")&&Nat.beq ap.endLine cp.line&&!cu a&&Nat.ble l.length 1048576)
   (J.ev N a (ki U U) [] (fun r Z1=>grd Z1.isEmpty (match dV r,iy Z k with
    | some d,some i=>Q .nx U (Z.set k (.inst i.1 i.2.1 (du i.2.2 f (.li (l++[d])))))
    | _,_=>False)) fun _ _=>False)):bT w base fx U G O Z (exec (.Expr (.Call (.Attribute (.Attribute (.Name x px) f pf) mt ap) [a] [] cp) pos) fx.env) Q E:=by
 replace q:=ab.mp q
 obtain ⟨c,q⟩:=q
 simp only [Bool.and_eq_true] at c
 obtain ⟨zz,c6⟩:=c;obtain ⟨zy,c5⟩:=zz;obtain ⟨zx,c4⟩:=zy;obtain ⟨zw,c3⟩:=zx;obtain ⟨c1,c2⟩:=zw
 obtain rfl:mt="append":=of_decide_eq_true c3
 have hi:interactive fx.env=false:=by unfold interactive;rw [ok.kind];rfl
 have hs:cu a=false:=by simpa using c5
 have hline:(ap.endLine==cp.line)=true:=by simpa using Nat.eq_of_beq_eq_true c4
 have htrees:backTo cp (starEach [a] fx.env)=[(false,eval a fx.env)]:=by rw [bj hs];rfl
 intro s S QQ EE hq he
 refine wpAny_Expr (wpAny_Call_method1_late rfl hline htrees ?_) hi rfl
 refine nH W ok hN S c1 c2 ho fun b tk xx dx C l' own as m Oo=>?_
 obtain ⟨cs,zz,rs⟩:=Oo.oc;obtain ⟨mm,p⟩:=zz
 refine ⟨"list","list.append",F.plainAttrs_list,slot_list_append,type_list_append,⟨_,p,rfl⟩,fun b' e=>(by cases e;exact ⟨_,p,rfl⟩),?_⟩
 refine callWith_of (P:=fun _=>True) rfl (fun h _=>⟨.machine,.inr (.inl rfl),.now⟩) (Calls.evalArgs_plain (Calls.spliced_cons ?_))
 refine I.ev ok hN q {s with toks:=tk} S.forget _ _ (fun G2 O2 Z2 v cv h2 tk2 X2 S2 rv q2=>?_) (fun _ _ _ _ _ _ _ _ _ _ q2=>q2.elim)
 obtain ⟨es,q2⟩:=ab.mp q2
 obtain rfl:=List.isEmpty_iff.mp es
 split at q2
 · rename_i d i ed hk
   obtain rfl:=iX ed
   obtain ⟨C',fs,own'⟩:=i
   have hk:=lN hk
   have ci:=S2.cells
   unfold aq at ci
   subst ci
   obtain ⟨S3,X3⟩:=S.after0 X2 S2.toSim S2.ff S2.fo
   rw [List.append_nil,List.append_nil] at S3
   rw [List.append_nil] at X3
   refine Calls.spliced_nil ⟨trivial,?_⟩
   have kp2:∀ b' ob,b'∈O.flatten->s.heap.get? b'=some ob->h2.get? b'=some ob:=fun b' ob hb e=>X2.keep b' ob e (by simp) (fun z=>(S.fo b' z).1 hb) (by simp)
   have inn:∀ b'∈xx::dx::as,b'∈O.flatten:=fun b' hb=>ay Oo.hO hb
   have hZ:=Oo.hZ
   rw [hk] at hZ;cases hZ
   have Oo2:rD w G2 O Z h2 k f (.li l) b xx dx _ _ _ as m:=⟨hk,Oo.hl,Oo.hO,Oo.inst.at (fun o e=>kp2 xx o (inn xx (.head _)) e) (fun o e=>kp2 dx o (inn dx (.tail _ (.head _))) e),Oo.within,Oo.fld.mono X2.sub,
    Oo.ownR.mono X2.sub (fun b' hb o e=>kp2 b' o (inn b' (.tail _ (.tail _ hb))) e),Oo.hm,Oo.ha,Oo.oc.mono X2.sub fun o e=>kp2 b o (inn b (.tail _ (.tail _ Oo.ha))) e⟩
   clear hk;obtain ⟨cs2,p2,rs2⟩:=Oo2.oc
   refine wpAny_list_append_plain (hsz:=by rw [List.size_toArray,rs2.len];exact bM c6) p2 fun h3 hl3 hs3=>?_
   unfold VR at rv
   obtain ⟨S4,X4⟩:=Oo2.upd S3 (c':=.li (l++[d])) hs3 ⟨cs2++[cv],by simpa using hl3,rs2.append (by unfold DRs;exact ⟨cv,[],rfl,rv,rfl⟩)⟩
   exact hq G2 O _ U .nx .next h3 tk2 ((X3.trans X4).weaken (by simp)) S4 rfl q2
 · exact q2.elim
end
end Mine
namespace Mine
open PySem PySem.W PyProof.Rows PySem.SeqAt
theorem eW {N:aC} {t:Expr} {v:V} {U U':Loc} (e:wS N t v U=some U'):∃ x p,t=.Name x p/\aN N x=true/\U'=cK U x v:=by
 obtain ⟨zz,e1,e2⟩:=aD e;obtain ⟨y,p⟩:=zz
 clear e;obtain ⟨h,rfl⟩:=cA e2
 exact ⟨y,p,bJ e1,h,rfl⟩
theorem gu {N:aC}:∀ {ts:List Expr} {vs:List V} {U U':Loc},dW N ts vs U=some U'->ts.length=vs.length/\∀ t∈ts,jU t=true
 | [],[],_,_,_=>⟨rfl,fun t ht=>nomatch ht⟩
 | [],_::_,_,_,e=>af e
 | _::_,[],_,_,e=>af e
 | t::ts,v::vs,U,U',e=>by
  obtain ⟨U1,e1,e2⟩:=aD e
  clear e;obtain ⟨x,p,rfl,_,_⟩:=eW e1
  obtain ⟨h1,h2⟩:=gu e2
  exact ⟨congrArg Nat.succ h1,fun t ht=>(List.mem_cons.mp ht).elim (fun q=>by rw [q];rfl) (h2 t)⟩
theorem p7 {env:Env}:∀ {ts:List Expr},(∀ t∈ts,jU t=true)->(assignEach ts env).length=ts.length/\(assignEach ts env).findIdx? (·.1)=none:=by
 intro ts
 induction ts with
 | nil=>
  intro _
  exact ⟨rfl,rfl⟩
 | cons t ts ih=>
  intro h
  obtain ⟨h1,h2⟩:=ih fun t ht=>h t (.tail _ ht)
  have ht:=h t (.head _)
  cases t with
  | Name x p=>
   refine ⟨by show ((false,assign (.Name x p) env)::assignEach ts env).length=_;simp [h1],?_⟩
   show ((false,assign (.Name x p) env)::assignEach ts env).findIdx? (·.1)=none
   rw [List.findIdx?_cons,h2];rfl
  | _=>exact aX ht
section
variable {w:World} {base:Heap} {fx:Fx} {U:Loc} {G G':PH} {O O':Fp} {Z Z':List aa} {E:Str->List aa->Prop} {α β γ δ:Type} {h h':Heap} {n:Nat} {N:aC} {J:Ev} {S:Tab} {Q:QF} {m m':Str->Option Value}
theorem iR (ok:aE base n fx) (hN:FxN fx N):∀ {ts:List Expr} {vs:List V} {cs:List Value} {U U':Loc},dW N ts vs U=some U'->VRs w G O vs cs->Q .nx U' Z->
  ar w base fx U G O Z (fun QQ EE s=>wpAny (model PR w) fx.A (assignInOrder ((assignEach ts fx.env).map (·.2)) cs) (fun _ s'=>QQ .next s') EE s) Q E
 | [],[],cs,U,U',e,r,q=>by
  obtain rfl:=Option.some.inj e
  exact fun s S QQ EE hq he=>wpAny_pure (ar.ret (E:=E) (fl:=.nx) rfl q s S QQ EE hq he)
 | [],_::_,_,_,_,e,_,_=>af e
 | _::_,[],_,_,_,e,_,_=>af e
 | t::ts,v::vs,cs,U,U',e,r,q=>by
  obtain ⟨U1,e1,e2⟩:=aD e
  clear e;obtain ⟨x,p,rfl,hk,rfl⟩:=eW e1
  obtain ⟨c,r',rfl,x1,y⟩:=r
  intro s S QQ EE hq he
  show wpAny _ _ (do holding r' (assign (.Name x p) fx.env c);assignInOrder ((assignEach ts fx.env).map (·.2)) r') _ _ _
  refine wpAny_bind (wpAny_holding (wpAny_assign_Name (fP ok hN S hk x1 fun h' tk X S'=>?_)))
  exact iR ok hN e2 y q {s with heap:=h',toks:=tk} S' QQ EE (fun G2 O2 Z2 U2 fl f h2 tk2 X2 S2 rf q2=>hq G2 O2 Z2 U2 fl f h2 tk2 (X.trans X2) S2 rf q2)
   fun G2 O2 Z2 U2 why xx h2 tk2 X2 S2 rx q2=>he G2 O2 Z2 U2 why xx h2 tk2 (X.trans X2) S2 (rx.weaken X.dom) q2
theorem VRs.ofD:∀ {l:List D} {cs:List Value},DRs w G l cs->VRs w G O (l.map .d) cs
 | [],cs,r=>by unfold DRs at r;subst r;rfl
 | d::l,cs,r=>by
  obtain ⟨c,r',rfl,x,y⟩:=r
  show VRs w G O (.d d::l.map .d) (c::r')
  exact ⟨c,r',rfl,by unfold VR;exact x,VRs.ofD y⟩
theorem jD {v:V} {c:Value} {vs:List V} (r:VR w G O v c) (e:eE v=some vs):∃ a cs,c=.ref a/\G a=some (jt cs)/\VRs w G O vs cs:=by
 cases v with
 | d d=>
  obtain ⟨l,e1,rfl⟩:=jI e
  clear e;obtain rfl:=ig e1
  obtain ⟨a,cs,rfl,g,rs⟩:=r
  exact ⟨a,cs,rfl,g,VRs.ofD rs⟩
 | tu l=>
  obtain rfl:=Option.some.inj e
  exact r
 | _=>exact af e
theorem ar.pk {P:Heap->PT Flow} (d:∀ h',ar w base fx U G O Z (fun QQ EE s=>P h' QQ EE s) Q E):ar w base fx U G O Z (fun QQ EE s=>∀ h',(∀ b o,s.heap.get? b=some o->h'.get? b=some o)->P h' QQ EE {s with heap:=h'}) Q E:=fun s S QQ EE hq he h' pk=>by
 obtain ⟨S',X⟩:=S.pk pk
 exact d h' {s with heap:=h'} S' QQ EE (fun G2 O2 Z2 U2 fl f h2 tk2 X2 S2 rf q2=>hq G2 O2 Z2 U2 fl f h2 tk2 ((X.weaken (by simp)).trans X2) S2 rf q2)
  fun G2 O2 Z2 U2 why xx h2 tk2 X2 S2 rx q2=>he G2 O2 Z2 U2 why xx h2 tk2 ((X.weaken (by simp)).trans X2) S2 (rx.weaken X.dom) q2
theorem j8 (ok:aE base n fx) (hN:FxN fx N) {ts:List Expr} {k:Nat} {p:Pos} {v:V} {c:Value} {vs:List V} {U':Loc} (r:VR w G O v c) (ep:eE v=some vs) (e:dW N ts vs U=some U') (q:Q .nx U' Z):
  ar w base fx U G O Z (fun QQ EE s=>wpAny (model PR w) fx.A (assign (.Tuple ts k p) fx.env c) (fun _ s'=>QQ .next s') EE s) Q E:=by
 obtain ⟨a,cs,rfl,g,rs⟩:=jD r ep
 obtain ⟨hl,hn⟩:=gu e
 obtain ⟨e1,e2⟩:=p7 (env:=fx.env) hn
 intro s S QQ EE hq he
 refine assign_Tuple_tuple ok.hand (IsTup.ofG S.toSim g) (by rw [e1,List.size_toArray,rs.len,hl]) e2 fun h' hx=>?_
 exact ar.pk (P:=fun h' QQ EE s=>wpAny (model PR w) fx.A (assignInOrder ((assignEach ts fx.env).map (·.2)) cs) (fun _ s'=>QQ .next s') EE s) (fun h'=>iR ok hN e rs q) s S QQ EE hq he h'
  fun b o hb=>hx b o (fun z=>by rw [z,aW] at hb;contradiction) hb
theorem gi {t v:Expr} {line:Nat} {env:Env} (h:bV v=false):swapsWithSole [t] v line env=pure false:=bG h
theorem fc (ok:aE base n fx) (hN:FxN fx N) {ts:List Expr} {k:Nat} {p:Pos} {v:Expr} {r:Option (List Str)} (e:lu N ts v=some r):swappedStores [.Tuple ts k p] v fx.env=pure r:=by
 have hb:fx.env.blockKind=.function:=by unfold Env.blockKind;rw [ok.kind];rfl
 cases v with
 | Tuple vs k2 p2=>
  have hkind:fx.env.kindOf=(fun x=>N.lookup x):=funext hN.kind
  have hst:(fun (x:Expr)=>match x with | .Starred ..=>true | _=>false)=cu:=by funext x;cases x <;> rfl
  have key:swappedStores [.Tuple ts k p] (.Tuple vs k2 p2) fx.env=(if (!(ts.length==2||ts.length==3)||vs.length != ts.length||fx.env.blockKind != .function)=true then pure none
   else if (vs.any fun (x:Expr)=>match x with | .Starred ..=>true | _=>false)=true then pure none
   else if ((cR fx.env.kindOf ts).length != ts.length||(cR fx.env.kindOf ts).eraseDups.length != (cR fx.env.kindOf ts).length)=true then pure none
   else if vs.all (foldedForSure 8)=true then pure none
   else if vs.all (constantsAlone 8)=true then unsupported "assign.tuple-of-constant-expressions:order-of-the-stores"
   else pure (some (cR fx.env.kindOf ts))):=by rfl
  rw [key,hb,hkind,hst]
  have hbb:(ScopeKind.function != ScopeKind.function)=false:=by decide
  rw [hbb,Bool.or_false]
  have e':tJ N ts vs=some r:=e
  unfold tJ at e'
  have step:∀ {c:Bool} {x:Option (Option (List Str))} {y:Sem (Option (List Str))},cond c (some none) x=some r->(x=some r->y=pure r)->(if c=true then pure none else y)=pure r:=fun {c x y} h k=>by
   cases c with
   | true=>rw [<- Option.some.inj h];rfl
   | false=>exact k h
  refine step e' fun e'=>step e' fun e'=>step e' fun e'=>step e' fun e'=>?_
  cases hc:vs.all (constantsAlone 8) with
  | true=>rw [hc] at e';exact af e'
  | false=>rw [hc] at e';rw [<- Option.some.inj e'];rfl
 | _=>rw [<- Option.some.inj e];rfl
end
end Mine
namespace Mine
open PySem PySem.W PyProof.Rows PySem.SeqAt
theorem jM:∀ {a b:List Expr} {xs ys:List Str},cP a=some xs->cP b=some ys->cP (a++b)=some (xs++ys)
 | [],b,xs,ys,e1,e2=>by obtain rfl:=Option.some.inj e1;exact e2
 | t::a,b,xs,ys,e1,e2=>by
  obtain ⟨n,f1,f2⟩:=aD e1
  obtain ⟨l,f3,f4⟩:=aD f2
  clear f2 e1;obtain rfl:=Option.some.inj f4
  show ((cG t).bind fun n=>(cP (a++b)).bind fun l=>some (n.1::l))=_
  rw [f1,jM f3 e2];rfl
theorem jK:∀ {ts:List Expr} {xs:List Str},cP ts=some xs->cP ts.reverse=some xs.reverse
 | [],xs,e=>by obtain rfl:=Option.some.inj e;rfl
 | t::ts,xs,e=>by
  obtain ⟨n,f1,f2⟩:=aD e
  obtain ⟨l,f3,f4⟩:=aD f2
  clear f2 e;obtain rfl:=Option.some.inj f4
  rw [List.reverse_cons,List.reverse_cons]
  refine jM (jK f3) ?_
  show ((cG t).bind fun n=>some [n.1])=_
  rw [f1];rfl
theorem jL:∀ {ts:List Expr} {xs:List Str},cP ts=some xs->ts.length=xs.length
 | [],xs,e=>by obtain rfl:=Option.some.inj e;rfl
 | t::ts,xs,e=>by
  obtain ⟨n,f1,f2⟩:=aD e
  obtain ⟨l,f3,f4⟩:=aD f2
  clear f2 e;obtain rfl:=Option.some.inj f4
  exact congrArg Nat.succ (jL f3)
theorem p6 {env:Env}:∀ {ts:List Expr},(∀ t∈ts,cu t=false)->(assignEach ts env).length=ts.length/\(assignEach ts env).findIdx? (·.1)=none:=by
 intro ts
 induction ts with
 | nil=>
  intro _
  exact ⟨rfl,rfl⟩
 | cons t ts ih=>
  intro h
  obtain ⟨h1,h2⟩:=ih fun t ht=>h t (.tail _ ht)
  have ht:=h t (.head _)
  have e:assignEach (t::ts) env=(false,assign t env)::assignEach ts env:=by clear h;cases t <;> first | rfl | exact iL ht
  rw [e]
  exact ⟨by simp [h1],by rw [List.findIdx?_cons,h2];rfl⟩
theorem iN:∀ {ts:List Expr} {ps:List (Str×Int)},lw ts=some ps->(∀ t∈ts,cu t=false)/\ts.length=ps.length
 | [],ps,e=>by obtain rfl:=Option.some.inj e;exact ⟨fun t ht=>(nomatch ht),rfl⟩
 | t::ts,ps,e=>by
  obtain ⟨p,f1,f2⟩:=aD e
  obtain ⟨l,f3,f4⟩:=aD f2
  clear f2;obtain rfl:=Option.some.inj f4
  clear e;obtain ⟨p1,k,p2,p3,rfl⟩:=uf f1
  obtain ⟨h1,h2⟩:=iN f3
  exact ⟨fun t ht=>(List.mem_cons.mp ht).elim (fun q=>by rw [q];rfl) (h1 t),congrArg Nat.succ h2⟩
section
variable {w:World} {base:Heap} {fx:Fx} {U:Loc} {G G':PH} {O O':Fp} {Z Z':List aa} {E:Str->List aa->Prop} {α β γ δ:Type} {h h':Heap} {n:Nat} {N:aC} {J:Ev} {S:Tab} {Q:QF} {m m':Str->Option Value}
theorem VRs.app:∀ {a b:List V} {cs ds:List Value},VRs w G O a cs->VRs w G O b ds->VRs w G O (a++b) (cs++ds)
 | [],_,cs,_,r,q=>by unfold VRs at r;subst r;exact q
 | v::a,_,cs,_,r,q=>by
  obtain ⟨c,r',rfl,x,y⟩:=r
  show VRs w G O (v::(a++_)) (c::(r'++_))
  exact ⟨c,_,rfl,x,VRs.app y q⟩
theorem VRs.rev:∀ {a:List V} {cs:List Value},VRs w G O a cs->VRs w G O a.reverse cs.reverse
 | [],cs,r=>by unfold VRs at r;subst r;rfl
 | v::a,cs,r=>by
  obtain ⟨c,r',rfl,x,y⟩:=r
  rw [List.reverse_cons,List.reverse_cons]
  refine (VRs.rev y).app ?_
  unfold VRs;exact ⟨c,[],rfl,x,rfl⟩
theorem jF (ok:aE base n fx) (hN:FxN fx N):∀ {ts:List Expr} {xs:List Str} {vs:List V} {cs:List Value} {U U':Loc},cP ts=some xs->dW N ts vs U=some U'->VRs w G O vs cs->Q .nx U' Z->
  ar w base fx U G O Z (fun QQ EE s=>wpAny (model PR w) fx.A (assignInOrder (xs.map fun n=>bindName fx.env n) cs) (fun _ s'=>QQ .next s') EE s) Q E
 | [],xs,[],cs,U,U',en,e,r,q=>by
  obtain rfl:=Option.some.inj en
  obtain rfl:=Option.some.inj e
  exact fun s S QQ EE hq he=>wpAny_pure (ar.ret (E:=E) (fl:=.nx) rfl q s S QQ EE hq he)
 | [],_,_::_,_,_,_,_,e,_,_=>af e
 | _::_,_,[],_,_,_,_,e,_,_=>af e
 | t::ts,xs,v::vs,cs,U,U',en,e,r,q=>by
  obtain ⟨U1,e1,e2⟩:=aD e
  clear e;obtain ⟨x,p,rfl,hk,rfl⟩:=eW e1
  obtain ⟨n,f1,f2⟩:=aD en
  obtain ⟨l,f3,f4⟩:=aD f2
  obtain rfl:=Option.some.inj f4
  clear f4 f2 en;obtain rfl:=Option.some.inj f1
  obtain ⟨c,r',rfl,x1,y⟩:=r
  intro s S QQ EE hq he
  show wpAny _ _ (do holding r' (bindName fx.env x c);assignInOrder (l.map fun n=>bindName fx.env n) r') _ _ _
  refine wpAny_bind (wpAny_holding (wpAny_bindName (fP ok hN S hk x1 fun h' tk X S'=>?_)))
  exact jF ok hN f3 e2 y q {s with heap:=h',toks:=tk} S' QQ EE (fun G2 O2 Z2 U2 fl f h2 tk2 X2 S2 rf q2=>hq G2 O2 Z2 U2 fl f h2 tk2 (X.trans X2) S2 rf q2)
   fun G2 O2 Z2 U2 why xx h2 tk2 X2 S2 rx q2=>he G2 O2 Z2 U2 why xx h2 tk2 (X.trans X2) S2 (rx.weaken X.dom) q2
theorem jb (I:aV w base n J) (ok:aE base n fx) (hN:FxN fx N) {ts:List Expr} {k:Nat} {pt pos:Pos} {v:Expr} (h1:bV v=false) (hsw:lu N ts v=some none)
  (q:J.ev N v U Z (fun r Z1=>match (eE r).bind fun vs=>dW N ts vs U with
   | some U'=>Q .nx U' Z1
   | none=>False) E):bT w base fx U G O Z (exec (.Assign [.Tuple ts k pt] v pos) fx.env) Q E:=by
 refine ar.to (ar.seq (P:=fun c QQ EE s=>wpAny (model PR w) fx.A (assign (.Tuple ts k pt) fx.env c) (fun _ s'=>QQ .next s') EE s)
  (fun QQ EE s h=>Assign_Tuple h (gi h1) (fc ok hN hsw)) (I.ev ok hN q) ?_)
 intro G' O' Z' r c _ _ rr q1
 split at q1
 · rename_i U' e
   obtain ⟨vs,ep,e⟩:=aD e
   exact j8 ok hN rr ep e q1
 · exact q1.elim
theorem ka (I:aV w base n J) (ok:aE base n fx) (hN:FxN fx N) {ts:List Expr} {k:Nat} {pt pos:Pos} {v:Expr} {names:List Str} (h1:bV v=false) (hsw:lu N ts v=some (some names)) (hn:cP ts=some names)
  (q:J.ev N v U Z (fun r Z1=>match (eE r).bind fun vs=>dW N ts.reverse vs.reverse U with
   | some U'=>Q .nx U' Z1
   | none=>False) E):bT w base fx U G O Z (exec (.Assign [.Tuple ts k pt] v pos) fx.env) Q E:=by
 refine ar.to (ar.seq (P:=fun c QQ EE s=>wpAny (model PR w) fx.A (unpackItems c names.length none) (fun items s₂=>wpAny (model PR w) fx.A (assignInOrder (names.reverse.map fun n=>bindName fx.env n) items.reverse) (fun _ s'=>QQ .next s') EE s₂) EE s)
  (fun QQ EE s h=>Assign_Tuple_swapped h (gi h1) (fc ok hN hsw)) (I.ev ok hN q) ?_)
 intro G' O' Z' r c _ _ rr q1
 split at q1
 · rename_i U' e
   · obtain ⟨vs,ep,e⟩:=aD e
     obtain ⟨a,cs,rfl,g,rs⟩:=jD rr ep
     obtain ⟨hl,_⟩:=gu e
     rw [List.length_reverse,List.length_reverse,jL hn] at hl
     intro s S QQ EE hq he
     have hsz:names.length=cs.toArray.size:=by rw [List.size_toArray,rs.len,hl]
     rw [hsz]
     refine unpackItems_tuple ok.hand (IsTup.ofG S.toSim g) fun h' hx=>?_
     exact ar.pk (P:=fun h' QQ EE s=>wpAny (model PR w) fx.A (assignInOrder (names.reverse.map fun n=>bindName fx.env n) cs.reverse) (fun _ s'=>QQ .next s') EE s) (fun h'=>jF ok hN (jK hn) e rs.rev q1) s S QQ EE hq he h'
      fun b o hb=>hx b o (fun z=>by rw [z,aW] at hb;contradiction) hb
 · exact q1.elim
theorem pv (ok:aE base n fx) (hN:FxN fx N):∀ {ts:List Expr} {ps:List (Str×Int)} {vs:List V} {cs:List Value} {G:PH} {O:Fp} {Z:List aa},lw ts=some ps->(ps.all fun p=>bi p.1&&aN N p.1)=true->VRs w G O vs cs->tK U ps vs Z (fun Z'=>Q .nx U Z')->
  ar w base fx U G O Z (fun QQ EE s=>wpAny (model PR w) fx.A (assignInOrder ((assignEach ts fx.env).map (·.2)) cs) (fun _ s'=>QQ .next s') EE s) Q E:=by
 exists w,base,fx,U,E,n,N,Q,_ ok hN
 intro ts
 induction ts with
 | nil=>
  intro ps vs cs G O Z es hp r q
  clear hp;obtain rfl:=Option.some.inj es
  obtain ⟨-,q⟩:=ab.mp q
  exact fun s S QQ EE hq he=>wpAny_pure (ar.ret (E:=E) (fl:=.nx) rfl q s S QQ EE hq he)
 | cons t ts ih=>
  intro ps vs cs G O Z es hp r q
  obtain ⟨zz,f1,f2⟩:=aD es;obtain ⟨x,i⟩:=zz
  obtain ⟨l,e',f4⟩:=aD f2
  clear f2;obtain rfl:=Option.some.inj f4
  clear es;obtain ⟨p1,kd,p2,p3,rfl⟩:=uf f1
  cases vs with
  | nil=>exact (show False from q).elim
  | cons v vs=>
   obtain ⟨c,r',rfl,x1,y⟩:=r
   unfold tK at q
   rw [List.all_cons,Bool.and_eq_true,Bool.and_eq_true] at hp
   dsimp only at q
   split at q
   · rename_i o hx
     intro s S QQ EE hq he
     show wpAny _ _ (do holding r' (assign (.Subscript (.Name x p1) (.Constant (.int i) kd p2) p3) fx.env c);assignInOrder ((assignEach ts fx.env).map (·.2)) r') _ _ _
     refine wpAny_bind (wpAny_holding ?_)
     rw [assign_Subscript]
     refine wpAny_bind (wpAny_holding (dC (s:=s) ok hN S hp.1.1 hp.1.2 hx fun cv tk rv=>?_))
     refine wpAny_bind (wpAny_holding (wpAny_Constant_int ?_))
     refine wpAny_bind (wpAny_standAt (wpAny_bind (wpAny_holding ?_)))
     refine ol (E:=fun _ _=>False) rv (VR.mk_ii i tk) x1 q {s with toks:=tk+1} S _ _ (fun G2 O2 Z2 _ _ h2 tk2 X2 S2 _ q2=>?_) (fun _ _ _ _ _ _ _ _ _ _ q2=>q2.elim)
     refine wpAny_release ?_
     exact ih e' hp.2 (y.mono X2.sub X2.ix) q2 {s with heap:=h2,toks:=tk2} S2 QQ EE (fun G3 O3 Z3 U3 fl f h3 tk3 X3 S3 rf q3=>hq G3 O3 Z3 U3 fl f h3 tk3 ((X2.weaken (by simp)).trans X3) S3 rf q3)
      fun G3 O3 Z3 U3 why xx h3 tk3 X3 S3 rx q3=>he G3 O3 Z3 U3 why xx h3 tk3 ((X2.weaken (by simp)).trans X3) S3 (rx.weaken X2.dom) q3
   · exact q.elim
theorem kc (I:aV w base n J) (ok:aE base n fx) (hN:FxN fx N) {ts:List Expr} {k:Nat} {pt pos:Pos} {v:Expr} {ps:List (Str×Int)} (h1:bV v=false) (hsw:lu N ts v=some none) (hs:lw ts=some ps) (hp:(ps.all fun p=>bi p.1&&aN N p.1)=true)
  (q:J.ev N v U Z (fun r Z1=>match eE r with
   | some vs=>grd (Nat.beq vs.length ps.length) (tK U ps vs Z1 fun Z'=>Q .nx U Z')
   | none=>False) E):bT w base fx U G O Z (exec (.Assign [.Tuple ts k pt] v pos) fx.env) Q E:=by
 refine ar.to (ar.seq (P:=fun c QQ EE s=>wpAny (model PR w) fx.A (assign (.Tuple ts k pt) fx.env c) (fun _ s'=>QQ .next s') EE s)
  (fun QQ EE s h=>Assign_Tuple h (gi h1) (fc ok hN hsw)) (I.ev ok hN q) ?_)
 intro G' O' Z' r c _ _ rr q1
 split at q1
 · rename_i vs ep
   obtain ⟨c1,q1⟩:=ab.mp q1
   obtain ⟨a,cs,rfl,g,rs⟩:=jD rr ep
   obtain ⟨hpl,hlen⟩:=iN hs
   obtain ⟨e1,e2⟩:=p6 (env:=fx.env) hpl
   intro s S QQ EE hq he
   refine assign_Tuple_tuple ok.hand (IsTup.ofG S.toSim g) (by rw [e1,List.size_toArray,rs.len,hlen,Nat.eq_of_beq_eq_true c1]) e2 fun h' hx=>?_
   exact ar.pk (P:=fun h' QQ EE s=>wpAny (model PR w) fx.A (assignInOrder ((assignEach ts fx.env).map (·.2)) cs) (fun _ s'=>QQ .next s') EE s) (fun h'=>pv ok hN hs hp rs q1) s S QQ EE hq he h'
    fun b o hb=>hx b o (fun z=>by rw [z,aW] at hb;contradiction) hb
 · exact q1.elim
end
end Mine
namespace Mine
open PySem PySem.W PyProof.Rows PySem.SeqAt
section
variable {w:World} {base:Heap} {fx:Fx} {U:Loc} {G G':PH} {O O':Fp} {Z Z':List aa} {E:Str->List aa->Prop} {α β γ δ:Type} {h h':Heap} {n:Nat} {N:aC} {J:Ev} {S:Tab} {Q:QF} {m m':Str->Option Value}
theorem kf (W:Wd w base) (SO:SOk w base n S) (I:aV w base n J) (ok:aE base n fx) (hN:FxN fx N) {y:Str} {py spos:Pos} {elt:Expr} {gens:List Comprehension} {sc:Scope} {pos:Pos} (hk:aN N y=true)
  (q:dU S J N (.ListComp elt gens sc pos) U Z (fun r Z1=>Q .nx (cK U y r) Z1) E):bT w base fx U G O Z (exec (.Assign [.Name y py] (.ListComp elt gens sc pos) spos) fx.env) Q E:=by
 have hsw:∃ b,swapsWith (.ListComp elt gens sc pos) (some (.Name y py)) spos.line fx.env=pure b:=⟨_,rfl⟩
 obtain ⟨b,hsw⟩:=hsw
 cases b with
 | false=>
  refine ar.to (ar.seq (P:=fun c QQ EE s=>wpAny (model PR w) fx.A (storeName fx.env y c) (fun _ s'=>QQ .next s') EE s) (fun QQ EE s h=>wpAny_Assign_Name h hsw) (n9 W SO I ok hN q) ?_)
  intro G' O' Z' r c _ _ rv q1
  exact fW ok hN hk rv q1
 | true=>
  unfold dU at q
  dsimp only at q
  split at q
  · rename_i g eg
    obtain ⟨x,px,iter,ifs⟩:=g
    obtain rfl:=rg eg
    replace q:=ab.mp q
    obtain ⟨c,q⟩:=q
    rw [Bool.and_eq_true] at c
    have hi:fw iter=false:=nt c.1
    have hs:sZ N sc x:=qF c.2
    have free:∀ p∈sc.names,p.2=.free->∃ a,fx.env.cells.lookup p.1=some a:=fun p hp e=>hN.cell _ (hs.free p hp e)
    have hclos:=gf (scope:=sc) (env:=fx.env) free
    have hset:∀ v,foldedSetIterable iter fx.env v=pure v:=fun v=>by clear q c eg hsw;cases iter <;> first | rfl | exact iL hi
    refine ar.to (ar.seq (t:=eval iter fx.env) (R:=VR w) (P:=fun cv QQ EE s=>wpAny (model PR w) fx.A (pyIter cv) (fun it s₂=>wpAny (model PR w) fx.A (newList []) (fun acc s₃=>
      wpAny (model PR w) fx.A (newFunctionEnv sc fx.env.globals (clF fx.env sc.names []) [] fx.env.qual none .none (some fx.env)) (fun cenv s₄=>
       codeAny (model PR w) fx.A (.compStart (.ListComp elt [⟨.Name x px,iter,ifs,0⟩] sc pos) 0 it acc {cenv with scope:=relabel sc fx.env}) (compPost (model PR w) fx.A EE (some (assign (.Name y py) fx.env)) (fun _ s'=>QQ .next s') acc cenv.locals) s₄) EE s₃) EE s₂) EE s)
     (fun QQ EE s h=>by
      rw [exec_Assign_Name_used _ _ _ _ hsw]
      refine wpAny_bind (wpAny_standAt (wpAny_bind ?_))
      show wpAny _ _ (do let _ <- comprehension (.ListComp elt [⟨.Name x px,iter,ifs,0⟩] sc pos) sc fx.env _ (newList []) false (eval iter fx.env) (some (assign (.Name y py) fx.env))) _ _ s
      exact wpAny_bind (wpAny_mono (wpAny_comprehension_free (use:=some (assign (.Name y py) fx.env)) (Q:=fun _ s'=>QQ .next s') rfl hset hclos hs.kind hs.names h) (fun _ s' hq=>wpAny_pure (wpAny_pure hq)) fun _ _ e=>e)) (I.ev ok hN q) ?_)
    intro G1 O1 Z1 sv cv x1 ix1 r q1
    split at q1
    · rename_i items ei
      replace q1:=ab.mp q1
      obtain ⟨cg,q1⟩:=q1
      rw [Bool.and_eq_true] at cg
      intro s S QQ EE hq he
      refine lT I ok hN hs r ei cg q1 S fun G' h' tk acc Da C S7 X7 hC hnC hCf hK=>?_
      obtain ⟨m',hnC⟩:=hnC
      have rv:VR w G' (O1++[[Da]]) (.ref Z1.length) (.ref Da):=by
       unfold VR
       have hl:=S.cells.len
       refine ⟨by simp [hl],fun a r e=>?_⟩
       rw [<- hl,List.getElem?_append_right (Nat.le_refl _)] at e
       simp at e
       rw [e.1]
      show wpAny _ _ (assign (.Name y py) fx.env (.ref Da)) _ _ _
      refine wpAny_assign_Name (fP (s:={s with heap:=h',toks:=tk}) ok hN S7 hk rv fun h4 tk4 X4 S8=>?_)
      have hCn:=hC C (.head _)
      have nC4:h4.Ns C m':=by
       clear S;obtain ⟨o,es,ep,ho,z⟩:=hnC
       exact ⟨o,es,ep,X4.keep C o ho hCn.1 hCn.2.2.2 hCn.2.2.1,z⟩
      refine ⟨m',nC4,fun h5 hs5=>?_⟩
      have kp5:∀ b o',b∉[C]->h4.get? b=some o'->h5.get? b=some o':=fun b o' hb e=>(hs5.2 b (by simpa using hb)).trans e
      have S9:=S8.touch (h':=h5) hC kp5
      have X9:Ext fx.own fx.frs G1 O1 s.heap G' (O1++[[Da]]) h5:=Ext.fin ((X7.weaken (by simp)).trans X4) (fun _ _ e=>e) kp5 (fun b hb=>by rw [List.mem_singleton] at hb;rw [hb];exact hCf) (fun b hb=>.inl hb)
      exact hq G' _ _ _ .nx .next h5 tk4 X9 S9 rfl hK
    · exact q1.elim
  · exact q.elim
end
end Mine
namespace Mine
open PySem PySem.W PyProof.Rows PySem.SeqAt
section
variable {w:World} {base:Heap} {fx:Fx} {U:Loc} {G G':PH} {O O':Fp} {Z Z':List aa} {E:Str->List aa->Prop} {α β γ δ:Type} {h h':Heap} {n:Nat} {N:aC} {J:Ev} {S:Tab} {Q:QF} {m m':Str->Option Value}
theorem oq (ok:aE base n fx) (hN:FxN fx N) {t:Expr} {y:V} {v:Value} {U':Loc} (r:VR w G O y v) (e:i0 N t y U=some U') (q:Q .nx U' Z):
  ar w base fx U G O Z (fun QQ EE s=>wpAny (model PR w) fx.A (assign t fx.env v) (fun _ s'=>QQ .next s') EE s) Q E:=by
 unfold i0 at e
 split at e
 · rename_i ts et
   obtain rfl:=xp et
   obtain ⟨vs,ep,e⟩:=aD e
   exact j8 ok hN r ep e q
 · obtain ⟨x,p,rfl,hk,rfl⟩:=eW e
   intro s S QQ EE hq he
   exact wpAny_assign_Name (fW ok hN hk r q s S QQ EE hq he)
noncomputable def e7 (J:Ev) (N:aC) (t:Expr) (b:List Stmt):V->Loc->List aa->QF->Prop:=fun v U Z K'=>match i0 N t v U with
 | some U'=>bm (J.ex N) b U' Z K' (fun _ _=>False)
 | none=>False
theorem yJ (I:aV w base n J) (ok:aE base n fx) (hN:FxN fx N) {t it:Expr} {b:List Stmt} {pos:Pos} (hi:fw it=false)
  (q:J.ev N it U Z (fun sv Z1=>nX sv U Z1 fun sv U Z1=>match bS sv with
   | some items=>bq (e7 J N t b) items U Z1 Q
   | none=>False) E):bT w base fx U G O Z (exec (.For t it b [] pos) fx.env) Q E:=by
 exists w,base,fx,U,G,O,Z,E,n,N,J,Q,t,it,b,pos,_ I ok hN hi q
 have hset:∀ v,foldedSetIterable it fx.env v=pure v:=fun v=>by clear q;cases it <;> first | rfl | exact iL hi
 refine ar.to (ar.seq (t:=eval it fx.env) (R:=VR w) (P:=fun c QQ EE s=>wpAny (model PR w) fx.A (pyIter c) (fun itv s₂=>codeAny (model PR w) fx.A (.forLoop t itv b [] fx.env) (fun r s'=>match r with | .ok f=>QQ f s' | .error e=>cameBackBy (model PR w) fx.A fx.env EE e s') s₂) EE s)
  (fun QQ EE s h=>wpAny_For h hset) (I.ev ok hN q) ?_)
 intro G1 O1 Z1 sv cv x1 ix1 r q1
 exists G1,O1,Z1,sv,cv,_ x1 ix1 r q1
 refine pQ r q1 fun {G2 O2 v2 U2 Z2} r2 q2=>?_
 exists G2,O2,v2,U2,Z2,_ r2 q2
 split at q2
 · rename_i items ei
   intro s S QQ EE hq he
   exists items,s,QQ,EE,_ ei q2 S hq he
   refine oi ok r2 ei S fun o fp P StW hof W hfp hst0 hP hWI=>?_
   exists o,fp,P,StW,_ hof W hfp hst0 hP hWI
   have hIf:=aW s.heap
   have pk:∀ b o',s.heap.get? b=some o'->(s.heap.push o).get? b=some o':=fun b o' e=>Heap.get?_push_of_some _ e
   have hI1:(s.heap.push o).get? s.heap.objs.size=some o:=Heap.get?_push_size _ hof
   have nI:s.heap.objs.size∉O2.flatten/\G2 s.heap.objs.size=none/\s.heap.objs.size∉fx.own/\s.heap.objs.size∉fx.frs:=by
    refine ⟨fun z=>?_,?_,fun z=>?_,fun z=>?_⟩
    · obtain ⟨o',e⟩:=S.cells.ex _ z;exact nS (hIf.symm.trans e)
    · cases e:G2 s.heap.objs.size with
      | none=>rfl
      | some o'=>have:=S.sub _ _ e;exact nS (hIf.symm.trans this)
    · obtain ⟨o',e⟩:=S.own_ex _ z;exact nS (hIf.symm.trans e)
    · obtain ⟨o',e⟩:=S.frs_ex _ z;exact nS (hIf.symm.trans e)
   have S1:=(S.pk pk).1
   generalize hIt:s.heap.objs.size=It at *
   generalize hh1:s.heap.push o=h1 at *
   exists It,h1,_ hIt W hfp hWI hIf nI hh1 hst0 pk S1 hI1
   have free:∀ {G':PH} {O':Fp} {h':Heap},Ext (It::fx.own) fx.frs G2 O2 h1 G' O' h'->It∉O'.flatten/\G' It=none:=fun {G' O' h'} X=>by
    refine ⟨fun z=>?_,?_⟩
    · rcases X.newF It z with e | e
      · exact nI.1 e
      · exact nS (e.symm.trans hI1)
    · cases e:G' It with
      | none=>rfl
      | some o'=>
       rcases X.newG It o' e with z | z | z
       · exact nS (nI.2.1.symm.trans z)
       · exact nS (z.symm.trans hI1)
       · exact absurd z nI.1
   have out:∀ {G':PH} {O':Fp} {Z':List aa} {U':Loc} {h':Heap} {fl:Fl} {f:Flow} {tk:Nat},Ext (It::fx.own) fx.frs G2 O2 h1 G' O' h'->St w base fx G' O' Z' U' h'->FlR w G' O' fl f->Q fl U' Z'->QQ f {s with heap:=h',toks:=tk}:=fun {G' O' Z' U' h' fl f tk} X S' rf q=>
    hq G' O' Z' U' fl f h' tk (Ext.drop pk X fun b hb=>(List.mem_cons.mp hb).elim (fun e=>.inr (e▸hIf)) .inl) S' rf q
   obtain ⟨I',hI⟩:∃ I':Nat->Shared->Prop,∀ k s',I' k s'↔∃ i h' tk G' O' Z' U',k=items.length+1 - i/\i<=items.length/\s'={s with heap:=h',toks:=tk}/\StW i h'/\Ext (It::fx.own) fx.frs G2 O2 h1 G' O' h'/\St w base fx G' O' Z' U' h'/\
    bq (e7 J N t b) (items.drop i) U' Z' Q:=⟨_,fun _ _=>Iff.rfl⟩
   exists I',_ hI
   refine codeAny_forLoop_any (I:=I') ?_ (items.length+1) ((hI _ _).mpr ⟨0,h1,s.toks,G2,O2,Z2,U2,rfl,Nat.zero_le _,rfl,hst0,Ext.refl ..,S1,by simpa using q2⟩)
   intro k s' z
   obtain ⟨i,h',tk,G',O',Z',U',zz⟩:=(hI _ _).mp z;obtain ⟨ek,hi',es,hst,X,S',q⟩:=zz
   clear z;subst ek;subst es
   exists i,h',tk,G',O',Z',U',_ hi' hst X S' q
   obtain ⟨fI,gI⟩:=free X
   have uI:∀ a∈[It],a∉O'.flatten/\G' a=none/\a∉fx.own/\a∉fx.frs:=fun a ha=>by rw [List.mem_singleton] at ha;clear q X out free hI1 hIf hWI hfp W hIt;subst ha;exact ⟨fI,gI,nI.2.2.1,nI.2.2.2⟩
   by_cases hlt:i<items.length
   · refine W.item i _ _ _ hlt hst fun v h2 tk2 hv hst2 kp2=>?_
     obtain ⟨y,hy,ry⟩:=hP i v hv
     have dr:items.drop i=y::items.drop (i+1):=by
      rw [List.getElem?_eq_getElem hlt] at hy
      rw [List.drop_eq_getElem_cons hlt,Option.some.inj hy]
     rw [dr] at q
     unfold bq e7 at q
     have S2:=S'.touch (h':=h2) uI kp2
     obtain ⟨oI,hoI,hpI⟩:=hWI _ _ hst2
     have dom2:∀ b o,h'.get? b=some o->∃ o',h2.get? b=some o':=fun b o e=>by
      by_cases hb:b∈[It]
      · rw [List.mem_singleton] at hb;clear q kp2 uI gI fI X out free hI1 nI hIf hWI hfp W hIt;subst hb;exact ⟨oI,hoI⟩
      · exact ⟨o,kp2 b o hb e⟩
     have X2:=X.touch (h2:=h2) (L:=[It]) (by simp) kp2 dom2
     refine jR hoI hpI ?_
     split at q
     · rename_i U3 eb
       have ry':=(ry.mono X2.sub X2.ix)
       refine oq (Q:=fun _ U4 Z4=>U4=U3/\Z4=Z') (E:=fun _ _=>False) ok hN ry' eb ⟨rfl,rfl⟩ {s with heap:=h2,toks:=tk2} S2 (fun _ s₂=>wpAny (model PR w) fx.A (execs b fx.env) _ _ s₂) _ (fun G4 O4 Z4 U4 fl f h4 tk4 X4 S4 rf4 q4=>?_) (fun _ _ _ _ _ _ _ _ _ _ _ q4=>q4.elim)
       clear eb S';obtain ⟨rfl,rfl⟩:=q4
       have X4':=X2.trans (X4.weaken (own':=It::fx.own) fun b hb=>.tail _ hb)
       have stK:∀ {G5:PH} {h4 h5:Heap} {G4:PH} {O4 O5:Fp},Ext (It::fx.own) fx.frs G2 O2 h1 G4 O4 h4->St w base fx G4 O4 Z4 U4 h4->Ext fx.own fx.frs G4 O4 h4 G5 O5 h5->(∀ b o,G5 b=some o->h5.get? b=some o)->StW (i+1) h4->StW (i+1) h5:=fun {G5 h4 h5 G4 O4 O5} X4 S4 X5 hg5 st=>W.frame _ _ _ st fun b hb o e=>by
        clear X4' q X2 hoI kp2 uI gI fI X out hI1 hIf hWI W hIt;rcases hfp b hb with rfl | ⟨o',e'⟩
        · exact X5.keep _ o e (free X4).1 nI.2.2.2 nI.2.2.1
        · have g3:=S4.sub b o' (X4.sub b o' e')
          rw [g3] at e;clear g3 S4;cases e
          exact hg5 b _ (X5.sub b _ (X4.sub b _ e'))
       have hst4:StW (i+1) h4:=W.frame _ _ _ hst2 fun b hb o e=>by
        clear stK X4' q hoI kp2 uI gI X out free hI1 hIf hWI W hIt;rcases hfp b hb with rfl | ⟨o',e'⟩
        · exact X4.keep _ o e fI nI.2.2.2 nI.2.2.1
        · have g3:=S2.sub b o' (X2.sub b o' e')
          rw [g3] at e;clear g3;cases e
          exact S4.sub b _ (X4.sub b _ (X2.sub b _ e'))
       refine bZ I ok hN q {s with heap:=h4,toks:=tk4} S4 _ _ (fun G5 O5 Z5 U5 fl f5 h5 tk5 X5 S5 rf5 q5=>?_) (fun _ _ _ _ _ _ _ _ _ _ _ q5=>q5.elim)
       have X5':=X4'.trans (X5.weaken (own':=It::fx.own) fun b hb=>.tail _ hb)
       have hst5:=stK X4' S4 X5 S5.sub hst4
       cases fl with
       | nx=>unfold FlR at rf5;clear q;subst rf5;exact ⟨items.length+1 - (i+1),Nat.sub_lt_sub_left (Nat.lt_succ_of_lt hlt) (Nat.lt_succ_self i),(hI _ _).mpr ⟨i+1,h5,tk5,G5,O5,Z5,U5,rfl,hlt,rfl,hst5,X5',S5,q5⟩⟩
       | ct=>unfold FlR at rf5;clear q;subst rf5;exact ⟨items.length+1 - (i+1),Nat.sub_lt_sub_left (Nat.lt_succ_of_lt hlt) (Nat.lt_succ_self i),(hI _ _).mpr ⟨i+1,h5,tk5,G5,O5,Z5,U5,rfl,hlt,rfl,hst5,X5',S5,q5⟩⟩
       | br=>unfold FlR at rf5;clear q;subst rf5;exact out (fl:=.nx) X5' S5 rfl q5
       | rt v5=>
        have rf5':=rf5
        clear q;obtain ⟨c5,rfl,rv5⟩:=rf5
        exact out (fl:=.rt v5) X5' S5 rf5' q5
     · exact q.elim
   · have hin:i=items.length:=Nat.le_antisymm hi' (Nat.le_of_not_lt hlt)
     clear hlt hi';subst hin
     rw [List.drop_length] at q
     refine W.done _ _ _ hst fun h2 tk2 kp2=>?_
     have S2:=S'.touch (h':=h2) uI kp2
     refine wpAny_execs_nil ?_
     have X2:Ext fx.own fx.frs G2 O2 s.heap G' O' h2:=Ext.fin X pk kp2 (fun b hb=>by rw [List.mem_singleton] at hb;rw [hb];exact hIf) fun b hb=>(List.mem_cons.mp hb).elim (fun e=>.inr (e▸hIf)) .inl
     exact hq G' O' Z' U' .nx .next h2 tk2 X2 S2 rfl q
 · exact q2.elim
theorem sL (I:aV w base n J) (ok:aE base n fx) (hN:FxN fx N) {t:Expr} {b:List Stmt} {pos:Pos} {fuel:Nat}
  (q:o6 (fun U Z Q=>J.te N t U Z Q fun _ _=>False) (fun U Z K'=>bm (J.ex N) b U Z K' fun _ _=>False) fuel U Z Q):bT w base fx U G O Z (exec (.While t b [] pos) fx.env) Q E:=by
 exists w,base,fx,U,G,O,Z,E,n,N,J,Q,t,b,pos,fuel,_ I ok hN q
 intro s S QQ EE hq he;exists s,QQ,EE,_ S hq he
 obtain ⟨I',hI⟩:∃ I':Nat->Shared->Prop,∀ k s',I' k s'↔∃ h' tk G' O' Z' U',s'={s with heap:=h',toks:=tk}/\Ext fx.own fx.frs G O s.heap G' O' h'/\St w base fx G' O' Z' U' h'/\
  o6 (fun U Z Q=>J.te N t U Z Q fun _ _=>False) (fun U Z K'=>bm (J.ex N) b U Z K' fun _ _=>False) k U' Z' Q:=⟨_,fun _ _=>Iff.rfl⟩
 refine wpAny_While (codeAny_whileLoop (I:=I') ?_ fuel ((hI _ _).mpr ⟨s.heap,s.toks,G,O,Z,U,rfl,Ext.refl ..,S,q⟩))
 intro k s' z
 obtain ⟨h',tk,G',O',Z',U',es,zz⟩:=(hI _ _).mp z;obtain ⟨X,S',q⟩:=zz
 clear z;subst es
 cases k with
 | zero=>exact q.elim
 | succ k=>
  unfold o6 at q
  refine I.te ok hN q {s with heap:=h',toks:=tk} S' _ _ (fun G2 O2 Z2 c a h2 tk2 X2 S2 r2 q2=>?_) (fun _ _ _ _ _ _ _ _ _ _ q2=>q2.elim)
  have r':a=c:=r2
  clear q;subst r'
  have X2':=X.trans (X2.weaken (own':=fx.own) (by simp))
  cases a with
  | true=>
   rw [if_pos rfl]
   refine bZ I ok hN (bw q2) {s with heap:=h2,toks:=tk2} S2 _ _ (fun G5 O5 Z5 U5 fl f5 h5 tk5 X5 S5 rf5 q5=>?_) (fun _ _ _ _ _ _ _ _ _ _ _ q5=>q5.elim)
   have X5':=X2'.trans X5
   cases fl with
   | nx=>unfold FlR at rf5;subst rf5;exact ⟨k,Nat.lt_succ_self _,(hI _ _).mpr ⟨h5,tk5,G5,O5,Z5,U5,rfl,X5',S5,q5⟩⟩
   | ct=>unfold FlR at rf5;subst rf5;exact ⟨k,Nat.lt_succ_self _,(hI _ _).mpr ⟨h5,tk5,G5,O5,Z5,U5,rfl,X5',S5,q5⟩⟩
   | br=>unfold FlR at rf5;subst rf5;exact hq G5 O5 Z5 U5 .nx .next h5 tk5 X5' S5 rfl q5
   | rt v5=>
    have rf5':=rf5
    obtain ⟨c5,rfl,rv5⟩:=rf5
    exact hq G5 O5 Z5 U5 (.rt v5) _ h5 tk5 X5' S5 rf5' q5
  | false=>
   rw [if_neg (by decide)]
   exact wpAny_execs_nil (hq G2 O2 Z2 U' .nx .next h2 tk2 X2' S2 rfl (aG q2))
end
end Mine
namespace Mine
open PySem PySem.W PyProof.Rows PySem.SeqAt
theorem vm (P:Params):keepIn (MineH.hd.heap_1 P) (.ref 44)=true:=by kernel_rfl
section
variable {w:World} {base:Heap} {fx:Fx} {U:Loc} {G G':PH} {O O':Fp} {Z Z':List aa} {E:Str->List aa->Prop} {α β γ δ:Type} {h h':Heap} {n:Nat} {N:aC} {J:Ev} {S:Tab} {Q:QF} {m m':Str->Option Value}
theorem vk (W:Wd w base) {A:Around} {s:Shared} {why:Str} {tk:Tok} {QQ EE:Value->Shared->Prop} (k:∀ b o,base.get? b=some o->s.heap.get? b=some o) (hroom:A.depth+1<recursionLimit)
  (hq:∀ h' tk' e,fM s.heap h' e why false->(∀ b o,s.heap.get? b=some o->h'.get? b=some o)->QQ (.ref e) {s with heap:=h',toks:=tk'}):
  wpAny (model PR w) A (call (.ref 44) [.str why tk]) QQ EE s:=by
 obtain ⟨h,g,d,t,os⟩:=s
 refine vo (W.K.keeps k) (fun h1 e M=>?_) (by show 1<=sizeLine;decide)
 obtain ⟨T0,e1,T0n,_⟩:=M.there
 have bn:base.get? e=none:=by
  cases z:base.get? e with
  | none=>rfl
  | some o=>have:=M.new;rw [k _ _ z] at this;contradiction
 refine vn W (fun b o z=>M.keeps b o (k b o z)) (by show A.depth+1<_;exact hroom) bn e1 fun h2 tk2 dx mE tw T kp he hdx hn hw=>⟨rfl,?_⟩
 obtain ⟨oe,g1,g2,g3,g4⟩:=he
 have dn:h.get? dx=none:=by
  cases z:h.get? dx with
  | none=>rfl
  | some o=>have:=M.keeps _ _ z;rw [hdx] at this;contradiction
 have ne:dx≠e:=fun q=>by clear g1 kp bn M;subst q;rw [e1] at hdx;contradiction
 refine hq h2 tk2 e ⟨oe,_,dx,tw,mE,.ref T,g1,g2,g3,g4,ne,hn,hw,M.new,dn,rfl,rfl,rfl⟩ fun b o z=>kp b o (fun q=>?_) (M.keeps b o z)
 clear ne g1 kp bn e1;subst q;have:=M.new;rw [this] at z;contradiction
theorem kL {s:Shared} {A:Around} {env:Env} {x:Sem Value} {QQ:Flow->Shared->Prop} {EE:Value->Shared->Prop} (hh:A.handled=none)
  (h:wpAny (model PR w) A x (fun v s₁=>∃ e why h0,v=.ref e/\(MineH.hd.heap_1 w.params).In s₁.heap/\fM h0 s₁.heap e why false/\EE (.ref e) s₁) EE s):
  wpAny (model PR w) A (raiseStmt env (some x) none) QQ EE s:=by
 have hcB:(Value.ref 44::bmM).contains (.type "BaseException")=true:=by decide
 unfold raiseStmt
 refine wpAny_bind (wpAny_mono h (fun v s₁ h₁=>?_) fun _ _ x=>x)
 obtain ⟨e,why,h0,rfl,X,he,hE⟩:=h₁
 obtain ⟨oe,vs,dx,t,mE,a0,g1,zz⟩:=he;obtain ⟨g2,g3,g4,g5,g6,g7,g8,zy⟩:=zz;obtain ⟨g9,g10,g11,g12⟩:=zy
 have hC:=eJ X
 clear g6 X;obtain ⟨hp,g,d,tk,os⟩:=s₁
 obtain ⟨cls,dict,data,sl⟩:=oe
 simp only at g2 g3 g4
 have g2:cls=.ref 44:=g2
 subst g2 g3 g4
 have g12:vs[1]?=some .none:=g12
 repeat (first | with_reducible refine wpAny_loadPart_at g1 ?_ | rw [g10] | rw [g12] | with_reducible refine wpAny_loadPart_at hC ?_ | (refine wpAny_isSubtype_exc hC ?_;rw [hcB]) | wp_step)
 exact wpAny_raiseNew_none hh hE
theorem sO (W:Wd w base) (I:aV w base n J) (ok:aE base n fx) (hN:FxN fx N) {x:Str} {a:Expr} {np cpos pos:Pos} (hx:x="Misused") (hs:cu a=false) (hk:N.lookup x=some .globalImplicit)
  (q:J.ev N a U Z (fun v Z'=>match ssV v with
   | some why=>E why Z'
   | none=>False) E):bT w base fx U G O Z (exec (.Raise (some (.Call (.Name x np) [a] [] cpos)) none pos) fx.env) Q E:=by
 exists w,base,fx,U,G,O,Z,E,n,N,J,Q,x,a,np,cpos,pos,_ W I ok hN hx hs hk q
 subst hx
 have d0:bN w base fx U G O Z (eval (.Name "Misused" np) fx.env) (fun v Z'=>v=.d (.gl (.ref 44))/\Z'=Z) E:=
  e9 W ok ((hN.kind _).trans hk) (by decide) (by kernel_rfl) ⟨rfl,rfl⟩
 refine ar.to (ar.seq (P:=fun f QQ EE s=>wpAny (model PR w) fx.A (callWith cpos f [] (backTo cpos (starEach [a] fx.env)) (backToKw cpos (keywordEach [] fx.env))) (fun v s₁=>∃ e why h0,v=.ref e/\(MineH.hd.heap_1 w.params).In s₁.heap/\fM h0 s₁.heap e why false/\EE (.ref e) s₁) EE s)
  (fun QQ EE s h=>?_) d0 ?_)
 · rw [arm_exec_Raise]
   exact wpAny_bind (wpAny_standAt (kL ok.hand (wpAny_bind (wpAny_mono (wpAny_Call_ofName h) (fun v s₃ h₃=>wpAny_bind (wpAny_standAt (wpAny_pure h₃))) fun _ _ x=>x))))
 intro G1 O1 Z1 v c x1 ix1 r q1
 clear d0;obtain ⟨rfl,rfl⟩:=q1
 unfold VR DR at r
 subst r
 have key:ar w base fx U G1 O1 Z1 (fun QQ EE s=>wpAny (model PR w) fx.A (eval a fx.env) (fun v s₁=>wpAny (model PR w) fx.A (spliced []) (fun vs s₂=>(MineH.hd.heap_1 w.params).In s₂.heap/\wpAny (model PR w) fx.A (call (.ref 44) ([]++(v::vs)) []) (fun v s₁=>∃ e why h0,v=.ref e/\(MineH.hd.heap_1 w.params).In s₁.heap/\fM h0 s₁.heap e why false/\EE (.ref e) s₁) EE s₂) EE s₁) EE s) Q E:=by
  refine ar.seq (P:=fun v QQ EE s₁=>wpAny (model PR w) fx.A (spliced []) (fun vs s₂=>(MineH.hd.heap_1 w.params).In s₂.heap/\wpAny (model PR w) fx.A (call (.ref 44) ([]++(v::vs)) []) (fun v s₁=>∃ e why h0,v=.ref e/\(MineH.hd.heap_1 w.params).In s₁.heap/\fM h0 s₁.heap e why false/\EE (.ref e) s₁) EE s₂) EE s₁) (fun QQ EE s h=>h) (I.ev ok hN q) ?_
  intro G2 O2 Z2 v2 c2 x2 ix2 r2 q2
  split at q2
  · rename_i why ew
    obtain rfl:=gh ew
    obtain ⟨t,rfl⟩:=r2.ss
    intro s S QQ EE hq he
    have kb:∀ b o,base.get? b=some o->s.heap.get? b=some o:=fun b o e=>S.sub b o (S.bs b o e)
    refine Calls.spliced_nil ⟨W.K.keeps kb,?_⟩
    have hd:=ok.depth
    refine vk W kb (by omega) fun h' tk' e hx kp=>⟨e,why,s.heap,rfl,W.K.keeps fun b o z=>kp b o (kb b o z),hx,?_⟩
    obtain ⟨S',X'⟩:=S.pk kp
    exact he G2 O2 Z2 U why _ h' tk' (X'.weaken (by simp)) S' ⟨e,false,rfl,hx⟩ q2
  · exact q2.elim
 intro s S QQ EE hq he
 refine callWith_of (P:=fun h=>(MineH.hd.heap_1 w.params).In h) (by rw [bj hs];rfl) (keeps_K (vm w.params)) ?_
 rw [bj hs]
 exact Calls.evalArgs_plain (Calls.spliced_cons (key s S QQ EE hq he))
end
end Mine
namespace Mine
open PySem PySem.W PyProof.Rows PySem.SeqAt
section
variable {w:World} {base:Heap} {fx:Fx} {U:Loc} {G G':PH} {O O':Fp} {Z Z':List aa} {E:Str->List aa->Prop} {α β γ δ:Type} {h h' s0:Heap} {n:Nat} {N:aC} {J:Ev} {S:Tab} {Q:QF} {m m':Str->Option Value}
structure kA (base:Heap) (fx:Fx) (s0 h:Heap):Prop where
 keep:∀ b o,s0.get? b=some o->b∉fx.frs->b∉fx.own->h.get? b=some o
 slots:∀ b o,s0.get? b=some o->b∈fx.frs->b∉fx.own->∃ sl,h.get? b=some {o with slots:=sl}
 dom:∀ b o,s0.get? b=some o->∃ o',h.get? b=some o'
 ns:∃ m,h.Ns fx.env.locals m
 ce:∀ p∈fx.env.cells,∃ co,h.IsCell p.2 co
 ff:h.FunFrames base fx.stk
theorem kA.fin (S:St w base fx G [] [] U s0) (K:kA base fx s0 h):St w base fx G [] [] [] h/\Ext fx.own fx.frs G [] s0 G [] h:=by
 have own0:=S.own_ex
 have gk:∀ b o,G b=some o->h.get? b=some o:=fun b o g=>K.keep b o (S.sub b o g) (fun q=>by rw [(S.fo b q).2] at g;contradiction) (fun q=>by rw [(S.oo b q).1] at g;contradiction)
 refine ⟨⟨⟨S.bs,gk,rfl,List.nodup_nil,fun a ha=>by simp at ha⟩,⟨?_,fun p hp=>?_⟩,fun a ha=>⟨(S.oo a ha).1,by simp⟩,S.ond,fun a ha=>⟨by simp,(S.fo a ha).2⟩,K.ff⟩,?_⟩
 · obtain ⟨m,hm⟩:=K.ns
   exact ⟨m,hm,fun x v e=>by simp at e⟩
 · obtain ⟨co,hc⟩:=K.ce p hp
   exact ⟨co,hc,fun v e=>by simp at e⟩
 · exact ⟨Sub.refl _,IxE.refl _,K.dom,fun b o e _ h2 h3=>K.keep b o e h2 h3,fun b o e h1 _ h3=>K.slots b o e h1 h3,fun b hb=>by simp at hb,fun b o e=>.inl e⟩
theorem kA.news (S:St w base fx G [] [] U s0) (K:kA base fx s0 h) {T:Addr} {oT:Obj} {vs:Array Value} (hT:h.get? T=some oT) (hd:oT.data=.fields vs) (hn:s0.get? T=none) (kp:∀ b o,b≠T->h.get? b=some o->h'.get? b=some o) (dm:∃ o',h'.get? T=some o'):kA base fx s0 h':=by
 have ne:∀ b o,s0.get? b=some o->b≠T:=fun b o e q=>by clear dm kp hT;subst q;rw [hn] at e;contradiction
 refine ⟨fun b o e h1 h2=>kp b o (ne b o e) (K.keep b o e h1 h2),fun b o e h1 h2=>?_,fun b o e=>?_,?_,fun p hp=>?_,K.ff.of_keeps fun b o hb hnf=>⟨o,kp b o (fun q=>?_) hb,rfl⟩⟩
 · obtain ⟨sl,e'⟩:=K.slots b o e h1 h2
   exact ⟨sl,kp b _ (ne b o e) e'⟩
 · obtain ⟨o',e'⟩:=K.dom b o e
   exact ⟨o',kp b _ (ne b o e) e'⟩
 · obtain ⟨m,o,es,ep,ho,hdd,r⟩:=K.ns
   exact ⟨m,o,es,ep,kp _ o (fun q=>by rw [q,hT] at ho;cases ho;rw [hd] at hdd;contradiction) ho,hdd,r⟩
 · obtain ⟨co,o,ho,hdd⟩:=K.ce p hp
   exact ⟨co,o,kp _ o (fun q=>by rw [q,hT] at ho;cases ho;rw [hd] at hdd;contradiction) ho,hdd⟩
 · clear ne dm kp hn;subst q;rw [hT] at hb;cases hb;exact hnf vs hd
theorem kA.loc (S:St w base fx G [] [] U s0) (K:kA base fx s0 h) (hn:h'.Ns fx.env.locals m) (hs:Heap.SameBut fx.env.locals h h'):kA base fx s0 h':=by
 have kp:∀ b o,b≠fx.env.locals->h.get? b=some o->h'.get? b=some o:=fun b o hb e=>(hs.2 b hb).trans e
 have lo:fx.env.locals∈fx.own:=.head _
 refine ⟨fun b o e h1 h2=>kp b o (fun q=>h2 (q▸lo)) (K.keep b o e h1 h2),fun b o e h1 h2=>?_,fun b o e=>?_,⟨m,hn⟩,fun p hp=>?_,?_⟩
 · obtain ⟨sl,e'⟩:=K.slots b o e h1 h2
   exact ⟨sl,kp b _ (fun q=>h2 (q▸lo)) e'⟩
 · by_cases q:b=fx.env.locals
   · clear e;subst q;obtain ⟨o',_,_,e,_⟩:=hn;exact ⟨o',e⟩
   · obtain ⟨o',e'⟩:=K.dom b o e
     exact ⟨o',kp b _ q e'⟩
 · obtain ⟨co,o,ho,hdd⟩:=K.ce p hp
   refine ⟨co,o,kp _ o (fun q=>?_) ho,hdd⟩
   have nd:=S.ond
   unfold Fx.own at nd
   rw [List.nodup_cons] at nd
   exact nd.1 (q▸List.mem_map.mpr ⟨p,hp,rfl⟩)
 · refine FunFrames.touchD (L:=[fx.env.locals]) (fun b o hb e=>kp b o (fun q=>hb (q▸.head _)) e) (fun b hb=>?_) K.ff
   rw [List.mem_singleton] at hb;subst hb
   obtain ⟨o',es,ep,e,hd,_⟩:=hn
   exact ⟨o',e,fun vs z=>by rw [hd] at z;contradiction⟩
theorem yE (W:Wd w base) (I:aV w base n J) (ok:aE base n fx) (hN:FxN fx N) {b:List Stmt} {c x x' y:Str} {p1 p2 p3 p4 p5 pos:Pos} (hc:c="Misused") (hx:x=x') (hy:y="why") (hk:N.lookup c=some .globalImplicit) (hl:N.lookup x=some .local)
  (hdb:bi x=true)
  (q:bm (J.ex N) b U [] Q fun why Z'=>grd Z'.isEmpty (Q (.rt (.d (.ss why))) [] [])):bT w base fx U G [] [] (exec (.Try b [.ExceptHandler (some (.Name c p1)) (some x) [.Return (some (.Attribute (.Name x' p2) y p3)) p4] p5] [] [] pos) fx.env) Q E:=by
 exists w,base,fx,U,G,E,n,N,J,Q,b,c,x,x',y,p1,p2,p3,p4,p5,pos,_ W I ok hN hc hx hy hk hl hdb q
 subst hc hx hy
 intro s S QQ EE hq he;exists s,QQ,EE,_ S hq he
 refine wpAny_Try_except ?_
 refine bZ I ok hN q s S _ _ (fun G' O' Z' U' fl f h' tk X S' rf q'=>?_) (fun G' O' Z' U' why e h' tk X S' xr q'=>?_)
 · cases fl with
   | nx=>unfold FlR at rf;subst rf;exact wpAny_execs_nil (hq G' O' Z' U' .nx _ h' tk X S' rfl q')
   | ct=>have rf':=rf;unfold FlR at rf;subst rf;exact hq G' O' Z' U' .ct _ h' tk X S' rf' q'
   | br=>have rf':=rf;unfold FlR at rf;subst rf;exact hq G' O' Z' U' .br _ h' tk X S' rf' q'
   | rt v=>have rf':=rf;unfold FlR at rf;obtain ⟨c,rfl,rv⟩:=rf;exact hq G' O' Z' U' (.rt v) _ h' tk X S' rf' q'
 obtain ⟨es,q'⟩:=ab.mp q'
 obtain rfl:=List.isEmpty_iff.mp es
 obtain ⟨ea,tr,rfl,hx⟩:=xr
 obtain ⟨L,env0,outer,hstk,hf0,hf⟩:=ok.top
 have hfr:fx.A.frames=some (env0::outer):=by rw [ok.frames,hstk]
 have efr:fx.frs=(env0::outer).filterMap (·.frame):=by show fx.stk.filterMap (·.frame)=_;rw [hstk]
 have ffx:=S'.ff
 rw [hstk] at ffx
 have hnf:noteFrame (.ref ea) fx.env=noteFrame (.ref ea) env0:=by unfold noteFrame PySem.frameOf;rw [hf,hf0]
 rw [hnf]
 refine gU (h0:=s.heap) hfr ffx hf0 hx X.dom (fun b hb=>?_) fun h2 hx2 lv=>?_
 · rw [<- efr] at hb;exact S.frs_ex b hb
 have ee:∀ b,(∃ o,s.heap.get? b=some o)->¬ s.heap.get? b=none:=fun b ⟨o,e⟩ z=>by rw [e] at z;contradiction
 have mv:∀ b o,(∃ o0,s.heap.get? b=some o0)->h'.get? b=some o->∃ sl,h2.get? b=some {o with slots:=sl}:=fun b o hb e=>by
  by_cases q:b∈fx.frs
  · rw [efr] at q;exact lv.slots b o e q
  · rw [efr] at q;exact ⟨o.slots,lv.keep b o e q (ee b hb)⟩
 have K0:kA base fx s.heap h2:=by
  refine ⟨fun b o e h1 h3=>?_,fun b o e h1 h3=>?_,fun b o e=>?_,?_,fun p hp=>?_,?_⟩
  · exact lv.keep b o (X.keep b o e (by simp) h1 h3) (by rw [<- efr];exact h1) (ee b ⟨o,e⟩)
  · clear q';obtain ⟨sl,e'⟩:=X.slots b o e h1 (by simp) h3
    obtain ⟨sl',e2⟩:=lv.slots b _ e' (by rw [<- efr];exact h1)
    exact ⟨sl',e2⟩
  · clear q';obtain ⟨o',e'⟩:=X.dom b o e
    exact lv.dom b o' e'
  · clear q';obtain ⟨m,o,es,ep,ho,r⟩:=(S'.fr).ns.imp fun m hm=>hm.1
    obtain ⟨sl,e'⟩:=mv _ o (S.own_ex _ (.head _)) ho
    exact ⟨m,_,es,ep,e',r⟩
  · clear q';obtain ⟨co,zz,_⟩:=S'.fr.ce p hp;obtain ⟨o,ho,hd⟩:=zz
    obtain ⟨sl,e'⟩:=mv _ _ (S.own_ex _ (.tail _ (List.mem_map.mpr ⟨p,hp,rfl⟩))) ho
    exact ⟨co,_,e',hd⟩
  · rw [hstk];exact lv.frames (fun b hb=>hb) ffx
 have gk:∀ {hh:Heap},kA base fx s.heap hh->∀ b o,base.get? b=some o->hh.get? b=some o:=fun {hh} K b o e=>by
  have g:=S.bs b o e
  exact K.keep b o (S.sub b o g) (fun q=>by rw [(S.fo b q).2] at g;contradiction) (fun q=>by rw [(S.oo b q).1] at g;contradiction)
 obtain ⟨oe,vs,dx,t,mE,a0,g1,zz⟩:=hx2;obtain ⟨g2,g3,g4,g5,g6,g7,g8,zy⟩:=zz;obtain ⟨g9,g10,g11,T,oT,ts,g12,zx⟩:=zy;obtain ⟨g13,g14,g15,g16,g17,g18⟩:=zx
 have hkk:∀ y,fx.env.kindOf y=N.lookup y:=hN.kind
 have eL:ea≠fx.env.locals:=fun q=>by
  clear q';obtain ⟨o,e⟩:=S.own_ex _ (.head _);rw [<- q,g8] at e;contradiction
 have dL:dx≠fx.env.locals:=fun q=>by
  clear q';obtain ⟨o,e⟩:=S.own_ex _ (.head _);rw [<- q,g9] at e;contradiction
 refine wpAny_handleBy_cons (codeAny_handlers_test ?_) (by intro q;contradiction)
 refine PySem.Calls.Name_function_global ok.kind ((hkk _).trans hk) ?_ (by decide)
 refine iz W (v:=.ref 44) (by kernel_rfl) ok.glob ok.blt (gk K0) ?_
 have hC:=eJ (W.K.keeps (gk K0))
 refine wpAny_excMatches_sub_self hC g1 g2 (by decide) ?_
 rw [if_pos rfl]
 refine codeAny_handlers_suite_as (wpAny_setFlight_none g1 g3 g12 g16 g17 (Array.getElem?_eq_some_iff.mp g18).1 ?_)
 have T0:s.heap.get? T=none:=g13
 have hT3:=Heap.get?_update_self (Obj.mapFields (·.setIfInBounds 3 Value.none)) g16 (Obj.isFreed_of_fields (Obj.data_mapFields g17 _))
 have other:∀ b,b≠T->(h2.update T (Obj.mapFields (·.setIfInBounds 3 Value.none))).get? b=h2.get? b:=fun b hb=>Heap.get?_update_other _ _ (Ne.symm hb)
 have K1:kA base fx s.heap (h2.update T (Obj.mapFields (·.setIfInBounds 3 Value.none))):=K0.news S g16 g17 g13 (fun b o hb e=>(other b hb).trans e) ⟨_,hT3⟩
 have e1:=(other ea (Ne.symm g14)).trans g1
 have n1:=g6.at fun o q=>(other dx (Ne.symm g15)).trans q
 generalize h2.update T (Obj.mapFields (·.setIfInBounds 3 Value.none))=h3 at K1 e1 n1 ⊢
 obtain ⟨m3,hm3⟩:=K1.ns
 have hpk:(fx.env.scope.kind==.class||(fx.env.scope.kind==.module&&fx.env.locals != fx.env.globals))=false:=by rw [ok.kind];rfl
 refine wpAny_storeName_local ((hkk _).trans hl) hm3 (fun h4 hn4 hs4=>?_) hpk
 have K2:=K1.loc S hn4 hs4
 have e4:=(hs4.2 ea eL).trans e1
 have n4:=n1.at fun o q=>(hs4.2 dx dL).trans q
 refine wpAny_execs_cons (wpAny_Return_some (Attribute_Name_ (wpAny_Name (wpAny_loadName_local ok.kind ((hkk _).trans hl) hn4 (v:=.ref ea) (by simp) ?_) (by simpa [bi] using hdb)) (by rw [arm_eval_Attribute];rfl)))
 refine nQ (W.K.keeps (gk K2)) (vp w.params) ⟨oe,e4,g2,(fun c z=>by rw [g3] at z;contradiction),.inr ⟨dx,g4,g5,n4⟩⟩ g7 rfl ?_
 refine wpAny_nameGoes ((hkk _).trans hl) hn4 hpk fun h5 m5 hn5 hs5=>?_
 obtain ⟨S5,X5⟩:=(K2.loc S hn5 hs5).fin S
 exact hq G [] [] [] (.rt (.d (.ss why))) _ h5 _ X5 S5 ⟨_,rfl,VR.mk_ss _ _⟩ q'
end
end Mine
namespace Mine
open PySem PySem.W PyProof.Rows PySem.SeqAt
section
variable {w:World} {base:Heap} {fx:Fx} {U:Loc} {G G':PH} {O O':Fp} {Z Z':List aa} {E:Str->List aa->Prop} {h h' s0:Heap} {n m:Nat} {N:aC} {J:Ev} {S:Tab} {Q:QF}
theorem Fo {v:Ve} (h:Nat.beq (code v) 8=true):∃ a g s p,v=.lc a g s p:=by
 cases v with
 | lc a g s p=>exact ⟨a,g,s,p,rfl⟩
 | _=>exact aX h
theorem yp (W:Wd w base) (I:aV w base n J) (ok:aE base n fx) (hN:FxN fx N) {v:Expr} {p:Pos} (q:tb J N v U Z Q E):bT w base fx U G O Z (exec (.Expr v p) fx.env) Q E:=by
 unfold tb at q
 cases e:CH v with
 | none=>
  rw [e] at q
  obtain ⟨c,q⟩:=ab.mp q
  exact ou I ok hN (nt c) q
 | some t=>
  rw [e] at q
  dsimp only at q
  obtain rfl:=yQ e
  clear e
  cases ho:lF U Z t.x t.f with
  | none=>rw [ho] at q;exact ou I ok hN rfl q
  | some p=>rw [ho] at q;exact kX W I ok hN (nK ho) q
theorem BZ (I:aV w base n J) (ok:aE base n fx) (hN:FxN fx N) {ts:List Expr} {k:Nat} {p p2:Pos} {v:Expr} (c:bV v=false) (q:zW J N ts v U Z Q E):bT w base fx U G O Z (exec (.Assign [.Tuple ts k p] v p2) fx.env) Q E:=by
 unfold zW at q
 cases hsw:lu N ts v with
 | none=>rw [hsw] at q;exact q.elim
 | some o=>
  rw [hsw] at q
  dsimp only at q
  cases o with
  | none=>
   dsimp only at q
   cases hn:cP ts with
   | some _=>rw [hn] at q;exact jb I ok hN c hsw q
   | none=>
    rw [hn] at q
    dsimp only at q
    cases hs:lw ts with
    | none=>rw [hs] at q;exact q.elim
    | some ps=>
     rw [hs] at q
     obtain ⟨c2,q⟩:=ab.mp q
     exact kc I ok hN c hsw hs c2 q
  | some names=>
   obtain ⟨c2,q⟩:=ab.mp q
   exact ka I ok hN c hsw (of_decide_eq_true c2) q
theorem B4 (W:Wd w base) (SO:SOk w base n S) (I:aV w base n J) (ok:aE base n fx) (hN:FxN fx N) {t v:Expr} {g:Tg} {p:Pos} (e:tgE t=g) (q:CZ S J N g v U Z Q E):bT w base fx U G O Z (exec (.Assign [t] v p) fx.env) Q E:=by
 cases g with
 | name x p=>
  obtain rfl:=ny e rfl
  clear e
  replace q:zX S J N x v U Z Q E:=q
  unfold zX at q
  obtain ⟨c,q⟩:=ab.mp q
  rcases yN q with ⟨h,q⟩ | ⟨-,q⟩
  · obtain ⟨a,g,s,r,e⟩:=Fo h
    obtain rfl:=fb e rfl
    exact kf W SO I ok hN c q
  · obtain ⟨d,q⟩:=ab.mp q
    exact ke I ok hN c (nt d) q
 | tup ts k p=>
  obtain rfl:=ny e rfl
  obtain ⟨c,q⟩:=ab.mp q
  exact BZ I ok hN (nt c) q
 | attr x p f r=>
  obtain rfl:=ny e rfl
  obtain ⟨c,q⟩:=ab.mp q
  rw [Bool.and_eq_true,Bool.and_eq_true] at c
  exact kg W I ok hN (nt c.1) c.2.1 c.2.2 q
 | sub x p i r=>
  obtain rfl:=ny e rfl
  obtain ⟨c,q⟩:=ab.mp q
  rw [Bool.and_eq_true,Bool.and_eq_true,Bool.and_eq_true] at c
  exact kZ I ok hN (nt c.1) c.2.1 c.2.2.1 q
 | own x a f b key k c d=>
  obtain rfl:=ny e rfl
  obtain ⟨c,q⟩:=ab.mp q
  rw [Bool.and_eq_true,Bool.and_eq_true] at c
  exact le W I ok hN (nt c.1) c.2.1 c.2.2 q
 | bad=>exact q.elim
theorem B0 (W:Wd w base) (I:aV w base n J) (ok:aE base n fx) (hN:FxN fx N) {b o f:List Stmt} {hs:List ExceptHandler} {t:Han} {p:Pos} (e:(eG hs).bind yi=some t) (q:CX J N t b o f U Z Q):bT w base fx U G O Z (exec (.Try b hs o f p) fx.env) Q E:=by
 obtain ⟨h,e1,e2⟩:=aD e
 have c:=(ab.mp (show grd _ _ from q)).1
 simp only [Bool.and_eq_true] at c
 obtain rfl:=cq e1;clear e1 e;obtain rfl:=yh e2;clear e2
 obtain rfl:=List.isEmpty_iff.mp c.1.1.1.1.1.1.1.1;obtain rfl:=List.isEmpty_iff.mp c.1.1.1.1.1.1.1.2;obtain rfl:=List.isEmpty_iff.mp c.1.1.1.1.1.1.2
 have q:=(ab.mp (show grd _ _ from q)).2
 intro s St
 have hi:O=[]:=by have:=St.cells;unfold aq at this;exact this
 subst hi
 exact yE W I ok hN (of_decide_eq_true c.1.1.1.1.1.2) (of_decide_eq_true c.1.1.1.1.2) (of_decide_eq_true c.1.1.1.2) (re c.1.1.2) (qZ c.1.2) c.2 q s St
theorem v8 (W:Wd w base) (SO:SOk w base n S) (I:aV w base n J) (ok:aE base n fx) (hN:FxN fx N) {b:Stmt} (q:iC S J N b U Z Q E):bT w base fx U G O Z (exec b fx.env) Q E:=by
 cases b with
 | Expr v p=>exact yp W I ok hN q
 | Assign ts v p=>
  unfold iC at q
  dsimp only at q
  cases e1:eG ts with
  | none=>rw [e1] at q;exact q.elim
  | some t=>
   rw [e1] at q
   obtain rfl:=cq e1
   exact B4 W SO I ok hN rfl q
 | If t b o p=>exact Cq I ok hN q
 | For t it b o p=>
  obtain ⟨c,q2⟩:=ab.mp q
  rw [Bool.and_eq_true] at c
  have h:=List.isEmpty_iff.mp c.1
  clear q;subst h
  exact yJ I ok hN (nt c.2) q2
 | While t b o p=>
  obtain ⟨c,q2⟩:=ab.mp q
  have h:=List.isEmpty_iff.mp c
  clear c q;subst h
  exact sL I ok hN q2
 | Return e p=>cases e with
  | some e=>exact qf I ok hN q
  | none=>exact ot q
 | Raise e c p=>
  unfold iC at q
  dsimp only at q
  cases e1:Ba e c with
  | none=>rw [e1] at q;exact q.elim
  | some t=>
   rw [e1] at q
   obtain ⟨rfl,rfl⟩:=xK e1
   obtain ⟨c,q⟩:=ab.mp q
   rw [Bool.and_eq_true,Bool.and_eq_true] at c
   exact sO W I ok hN (of_decide_eq_true c.1) (nt c.2.1) (re c.2.2) q
 | Try b hs o f p=>
  unfold iC at q
  dsimp only at q
  cases e:(eG hs).bind yi with
  | none=>rw [e] at q;exact q.elim
  | some t=>rw [e] at q;exact B0 W I ok hN e q
 | Pass p=>exact wv q
 | Continue p=>exact mW q
 | Break p=>exact sQ q
 | _=>exact q.elim
theorem fU {xs:List Str}:∀ {U:Loc} {x:Str} {v:V},(nZ xs U).lookup x=some v->U.lookup x=some v/\BK x xs=false
 | [],x,v,e=>by simp [nZ] at e
 | (y,u)::r,x,v,e=>by
  unfold nZ at e
  rw [List.lookup_cons]
  split at e
  · rename_i h
    obtain ⟨e1,e2⟩:=fU e
    by_cases q:x=y
    · subst q;rw [h] at e2;contradiction
    · rw [beq_eq_false_iff_ne.mpr q];exact ⟨e1,e2⟩
  · rename_i h
    rw [List.lookup_cons] at e
    by_cases q:x=y
    · subst q;simp at e ⊢;exact ⟨e,h⟩
    · rw [beq_eq_false_iff_ne.mpr q] at e ⊢;exact fU e
theorem St.forg (S:St w base fx G O Z U h) (xs:List Str):St w base fx G O Z (Mine.nZ xs U) h:=by
 refine ⟨S.toSim,?_,S.oo,S.ond,S.fo,S.ff⟩
 obtain ⟨m,hn,hm⟩:=S.fr.ns
 refine ⟨⟨m,hn,fun x v e k=>hm x v (fU e).1 k⟩,fun p hp=>?_⟩
 obtain ⟨co,hc,r⟩:=S.fr.ce p hp
 exact ⟨co,hc,fun v e k=>r v (fU e).1 k⟩
theorem wn {xs:List Str} {t:Sem Flow} (d:bT w base fx (nZ xs U) G O Z t Q E):bT w base fx U G O Z t Q E:=fun s S QQ EE hq he=>d s (S.forg xs) QQ EE hq he
theorem kR (W:Wd w base) (SO:SOk w base n S):∀ m,aV w base n (evN S m)
 | 0=>⟨fun _ _ q=>(show False from q).elim,fun _ _ q=>(show False from q).elim,fun _ _ q=>(show False from q).elim⟩
 | m+1=>⟨fun ok hN q=>n9 W SO (kR W SO m) ok hN q,fun ok hN q=>tG W SO (kR W SO m) ok hN q,
  fun ok hN q=>ar.to (pU (fun q'=>ar.of (wn (v8 W SO (kR W SO m) ok hN q'))) q)⟩
theorem aU.mono {a:Addr} {sp:au} {k:Nat} (h:aU w base a n sp) (hk:n<=k):aU w base a k sp:=
 fun A stk G O Z vs cs s Q E QQ EE h1 h2 h3 h4=>h A stk G O Z vs cs s Q E QQ EE h1 h2 (Nat.lt_of_le_of_lt (Nat.add_le_add_right (Nat.add_le_add_left (Nat.mul_le_mul_left _ hk) _) _) h3) (Nat.lt_of_le_of_lt (Nat.add_le_add_right (Nat.add_le_add_left (Nat.mul_le_mul_left _ hk) _) _) h4)
end
end Mine
namespace Mine
open PySem PySem.W PyProof.Rows PySem.SeqAt
noncomputable def vcf (S:Tab) (m:Nat) (P:Params) (a:Addr) (ps:List Str) (fresh:Bool):au:=fun vs Z Q E=>
 bm ((evN S m).ex (ac P a)) (ae P a) (ps.zip vs).reverse Z (a9 fresh Z.length Q) (bE Z.length E)
noncomputable def inl (S:Tab) (m:Nat) (P:Params) (a:Addr) (ps:List Str) (fresh:Bool):au:=fun vs Z Q E=>match Nat.beq vs.length ps.length with
 | true=>vcf S m P a ps fresh vs Z Q E
 | false=>False
noncomputable def az:List (Str×NameKind)->Bool
 | []=>true
 | (_,.cell)::_=>false
 | _::r=>az r
noncomputable def al (N:List (Str×NameKind)) (ps:List Str):Bool:=ps.all fun x=>match N.lookup x with
 | some .local=>true
 | _=>false
theorem ip:∀ {N:List (Str×NameKind)},az N=true->∀ x∈N,x.2≠.cell
 | [],_,x,hx=>nomatch hx
 | (y,k)::r,h,x,hx=>by
  cases k <;> first
   | (contradiction;done)
   | (rcases List.mem_cons.mp hx with rfl | hx
      · intro q;cases q
      · exact ip (N:=r) h x hx)
theorem oQ {N:List (Str×NameKind)} {ps:List Str} (h:al N ps=true):∀ x∈ps,N.lookup x=some .local:=fun x hx=>by
 have:=List.all_eq_true.mp h x hx
 split at this
 · assumption
 · contradiction
section
variable {w:World} {base:Heap} {n m:Nat} {S:Tab} {a:Addr} {ps:List Str} {sp:au}
theorem bD (W:Wd w base) (SO:SOk w base n S) (fresh:Bool) (D:FnD w a (aK w.params a) (ae w.params a) ps) (hc:az (ac w.params a)=true) (hl:al (ac w.params a) ps=true) (m:Nat)
  (hsp:∀ vs Z Q E,sp vs Z Q E->vs.length=ps.length/\vcf S m w.params a ps fresh vs Z Q E):aU w base a (n+1) sp:=by
 refine E1 W fresh D (ip hc) (oQ hl) fun vs Z Q E q=>?_
 obtain ⟨hlen,q⟩:=hsp vs Z Q E q
 refine ⟨hlen,fun fx G O ok hs hcl=>?_⟩
 have hN:FxN fx (ac w.params a):=⟨by rw [hs];rfl,fun x e=>absurd rfl (ip hc _ (bA e)),by rw [hcl];exact List.nodup_nil⟩
 exact bZ (kR W SO m) ok hN q
theorem aS (W:Wd w base) (SO:SOk w base n S) (fresh:Bool) (D:FnD w a (aK w.params a) (ae w.params a) ps) (hc:az (ac w.params a)=true) (hl:al (ac w.params a) ps=true) (m:Nat):
  aU w base a (n+1) (inl S m w.params a ps fresh):=bD W SO fresh D hc hl m fun vs Z Q E q=>by
 unfold inl at q
 split at q
 · rename_i h;exact ⟨Nat.eq_of_beq_eq_true h,q⟩
 · exact q.elim
noncomputable def fH (N:List (Str×NameKind)):List Str:=(cellsFrom 0 N []).map (·.1)
noncomputable def dG (N:List (Str×NameKind)) (ps:List Str):Bool:=eH (fH N)&&((N.all fun p=>match p.2 with
 | .cell=>(fH N).contains p.1
 | _=>true)&&ps.all fun x=>match N.lookup x with
 | some .local=>true
 | some .cell=>(fH N).contains x
 | _=>false)
theorem d9:∀ {l:List Str},eH l=true->l.Nodup
 | [],_=>List.nodup_nil
 | x::r,h=>by
  unfold eH at h
  rw [Bool.and_eq_true] at h
  exact List.nodup_cons.mpr ⟨by simpa using h.1,d9 h.2⟩
theorem dS:∀ {l:List (Str×Addr)} {x:Str},x∈l.map (·.1)->∃ a,l.lookup x=some a
 | [],x,h=>by simp at h
 | (y,b)::r,x,h=>by
  rw [List.lookup_cons]
  by_cases q:x=y
  · clear h;subst q;simp
  · rw [beq_eq_false_iff_ne.mpr q]
    rw [List.map_cons] at h
    rcases List.mem_cons.mp h with e | e
    · exact absurd e q
    · exact dS e
theorem pW (W:Wd w base) (SO:SOk w base n S) (fresh:Bool) (D:FnD w a (aK w.params a) (ae w.params a) ps) (hc:dG (ac w.params a) ps=true) (m:Nat)
  (hsp:∀ vs Z Q E,sp vs Z Q E->vs.length=ps.length/\vcf S m w.params a ps fresh vs Z Q E):aU w base a (n+1) sp:=by
 unfold dG at hc
 rw [Bool.and_eq_true,Bool.and_eq_true] at hc
 obtain ⟨h1,h2,h3⟩:=hc
 refine BO W fresh D (d9 h1) (fun x hx=>?_) fun vs Z Q E q=>?_
 · have:=List.all_eq_true.mp h3 x hx
   split at this
   · rename_i e;exact .inl e
   · rename_i e;exact .inr ⟨e,List.contains_iff_mem.mp this⟩
   · contradiction
 obtain ⟨hlen,q⟩:=hsp vs Z Q E q
 refine ⟨hlen,fun fx G O ok hs hcl=>?_⟩
 have hcl':fx.env.cells.map (·.1)=fH (ac w.params a):=hcl
 have hN:FxN fx (ac w.params a):=⟨by rw [hs];rfl,fun x e=>?_,by rw [hcl'];exact d9 h1⟩
 · exact bZ (kR W SO m) ok hN q
 · have:=List.all_eq_true.mp h2 _ (bA e)
   simp only at this
   exact dS (by rw [hcl'];exact List.contains_iff_mem.mp this)
end
noncomputable def me:List (Addr×au)->Addr->Option au
 | [],_=>none
 | (b,s)::r,a=>match Nat.beq a b with
  | true=>some s
  | false=>me r a
noncomputable def aZ (l:List (Addr×au)) (fz:Nat->List Str:=fun _=>[]) (fg:Nat->List Str:=fun _=>[]):Tab:=⟨me l,fz,fg⟩
noncomputable def LOk (w:World) (base:Heap) (n:Nat) (l:List (Addr×au)):Prop:=∀ p∈l,aU w base p.1 n p.2/\keepIn (MineH.hd.heap_1 w.params) (.ref p.1)=true
theorem LOk.so {w:World} {base:Heap} {n:Nat} {l:List (Addr×au)} {fz:Nat->List Str} {fg:Nat->List Str} (h:LOk w base n l):SOk w base n (aZ l fz fg):=by
 intro a sp e
 have key:∀ {l:List (Addr×au)},me l a=some sp->(a,sp)∈l:=by
  intro l
  induction l with
  | nil=>intro e;contradiction
  | cons p r ih=>
   obtain ⟨b,s⟩:=p
   intro e
   unfold me at e
   split at e
   · rename_i q;cases e;rw [Nat.eq_of_beq_eq_true q];exact .head _
   · exact .tail _ (ih e)
 exact h _ (key e)
theorem LOk.nil {w:World} {base:Heap} {n:Nat}:LOk w base n []:=fun _ h=>nomatch h
theorem LOk.cons {w:World} {base:Heap} {n:Nat} {l:List (Addr×au)} {a:Addr} {sp:au} (h:aU w base a n sp) (k:keepIn (MineH.hd.heap_1 w.params) (.ref a)=true) (r:LOk w base n l):LOk w base n ((a,sp)::l):=fun p hp=>by
 rcases List.mem_cons.mp hp with rfl | hp
 · exact ⟨h,k⟩
 · exact r p hp
theorem LOk.mono {w:World} {base:Heap} {n k:Nat} {l:List (Addr×au)} (h:LOk w base n l) (hk:n<=k):LOk w base k l:=fun p hp=>⟨(h p hp).1.mono hk,(h p hp).2⟩
end Mine
namespace Mine
open PySem PySem.W PyProof.Rows PySem.SeqAt
variable (P:Params)
noncomputable abbrev Bl:List Str:=["proto","base","rows"]
theorem d53 (w:World):FnD w 53 (aK w.params 53) (ae w.params 53) Bl:=aA (by kernel_rfl) (mH fun a b c=>by kernel_rfl)
theorem c53:az (ac P 53)=true:=by kernel_rfl
theorem l53:al (ac P 53) Bl=true:=by kernel_rfl
theorem k53:keepIn (MineH.hd.heap_1 P) (.ref 53)=true:=by kernel_rfl
noncomputable abbrev Bk:List Str:=[]
theorem d60 (w:World):FnD w 60 (aK w.params 60) (ae w.params 60) Bk:=aA (by kernel_rfl) (gT (by kernel_rfl))
theorem c60:az (ac P 60)=true:=by kernel_rfl
theorem l60:al (ac P 60) Bk=true:=by kernel_rfl
theorem k60:keepIn (MineH.hd.heap_1 P) (.ref 60)=true:=by kernel_rfl
noncomputable abbrev Bj:List Str:=[]
theorem d67 (w:World):FnD w 67 (aK w.params 67) (ae w.params 67) Bj:=aA (by kernel_rfl) (gT (by kernel_rfl))
theorem c67:az (ac P 67)=true:=by kernel_rfl
theorem l67:al (ac P 67) Bj=true:=by kernel_rfl
theorem k67:keepIn (MineH.hd.heap_1 P) (.ref 67)=true:=by kernel_rfl
noncomputable abbrev Bi:List Str:=[]
theorem d74 (w:World):FnD w 74 (aK w.params 74) (ae w.params 74) Bi:=aA (by kernel_rfl) (gT (by kernel_rfl))
theorem c74:az (ac P 74)=true:=by kernel_rfl
theorem l74:al (ac P 74) Bi=true:=by kernel_rfl
theorem k74:keepIn (MineH.hd.heap_1 P) (.ref 74)=true:=by kernel_rfl
noncomputable abbrev Bh:List Str:=[]
theorem d81 (w:World):FnD w 81 (aK w.params 81) (ae w.params 81) Bh:=aA (by kernel_rfl) (gT (by kernel_rfl))
theorem c81:az (ac P 81)=true:=by kernel_rfl
theorem l81:al (ac P 81) Bh=true:=by kernel_rfl
theorem k81:keepIn (MineH.hd.heap_1 P) (.ref 81)=true:=by kernel_rfl
noncomputable abbrev Bg:List Str:=[]
theorem d88 (w:World):FnD w 88 (aK w.params 88) (ae w.params 88) Bg:=aA (by kernel_rfl) (gT (by kernel_rfl))
theorem c88:az (ac P 88)=true:=by kernel_rfl
theorem l88:al (ac P 88) Bg=true:=by kernel_rfl
theorem k88:keepIn (MineH.hd.heap_1 P) (.ref 88)=true:=by kernel_rfl
noncomputable abbrev Bf:List Str:=[]
theorem d95 (w:World):FnD w 95 (aK w.params 95) (ae w.params 95) Bf:=aA (by kernel_rfl) (gT (by kernel_rfl))
theorem c95:az (ac P 95)=true:=by kernel_rfl
theorem l95:al (ac P 95) Bf=true:=by kernel_rfl
theorem k95:keepIn (MineH.hd.heap_1 P) (.ref 95)=true:=by kernel_rfl
noncomputable abbrev uS:List Str:=[]
theorem IH (w:World):FnD w 102 (aK w.params 102) (ae w.params 102) uS:=aA (by kernel_rfl) (gT (by kernel_rfl))
theorem Ju:az (ac P 102)=true:=by kernel_rfl
theorem GQ:al (ac P 102) uS=true:=by kernel_rfl
theorem Hu:keepIn (MineH.hd.heap_1 P) (.ref 102)=true:=by kernel_rfl
noncomputable abbrev uR:List Str:=[]
theorem IG (w:World):FnD w 109 (aK w.params 109) (ae w.params 109) uR:=aA (by kernel_rfl) (gT (by kernel_rfl))
theorem Jt:az (ac P 109)=true:=by kernel_rfl
theorem GP:al (ac P 109) uR=true:=by kernel_rfl
theorem Ht:keepIn (MineH.hd.heap_1 P) (.ref 109)=true:=by kernel_rfl
noncomputable abbrev qR:List Str:=["proto"]
theorem Fm (w:World):FnD w 116 (aK w.params 116) (ae w.params 116) qR:=aA (by kernel_rfl) (mI fun a=>by kernel_rfl)
theorem FC:az (ac P 116)=true:=by kernel_rfl
theorem Ey:al (ac P 116) qR=true:=by kernel_rfl
theorem EL:keepIn (MineH.hd.heap_1 P) (.ref 116)=true:=by kernel_rfl
noncomputable abbrev uQ:List Str:=["family","proto"]
theorem IF (w:World):FnD w 123 (aK w.params 123) (ae w.params 123) uQ:=aA (by kernel_rfl) (cS fun a b=>by kernel_rfl)
theorem Js:az (ac P 123)=true:=by kernel_rfl
theorem GO:al (ac P 123) uQ=true:=by kernel_rfl
theorem Hs:keepIn (MineH.hd.heap_1 P) (.ref 123)=true:=by kernel_rfl
noncomputable abbrev qQ:List Str:=["fields","name"]
theorem Fk (w:World):FnD w 130 (aK w.params 130) (ae w.params 130) qQ:=aA (by kernel_rfl) (cS fun a b=>by kernel_rfl)
theorem FB:az (ac P 130)=true:=by kernel_rfl
theorem Ex:al (ac P 130) qQ=true:=by kernel_rfl
theorem EK:keepIn (MineH.hd.heap_1 P) (.ref 130)=true:=by kernel_rfl
noncomputable abbrev uP:List Str:=["e"]
theorem IE (w:World):FnD w 137 (aK w.params 137) (ae w.params 137) uP:=aA (by kernel_rfl) (mI fun a=>by kernel_rfl)
theorem Jr:az (ac P 137)=true:=by kernel_rfl
theorem GN:al (ac P 137) uP=true:=by kernel_rfl
theorem Hr:keepIn (MineH.hd.heap_1 P) (.ref 137)=true:=by kernel_rfl
noncomputable abbrev uO:List Str:=["fields","e","what"]
theorem ID (w:World):FnD w 144 (aK w.params 144) (ae w.params 144) uO:=aA (by kernel_rfl) (mH fun a b c=>by kernel_rfl)
theorem Jq:az (ac P 144)=true:=by kernel_rfl
theorem GM:al (ac P 144) uO=true:=by kernel_rfl
theorem Hq:keepIn (MineH.hd.heap_1 P) (.ref 144)=true:=by kernel_rfl
noncomputable abbrev uN:List Str:=["fields","e"]
theorem IC (w:World):FnD w 151 (aK w.params 151) (ae w.params 151) uN:=aA (by kernel_rfl) (cS fun a b=>by kernel_rfl)
theorem Jp:az (ac P 151)=true:=by kernel_rfl
theorem GL:al (ac P 151) uN=true:=by kernel_rfl
theorem x9:keepIn (MineH.hd.heap_1 P) (.ref 151)=true:=by kernel_rfl
noncomputable abbrev uM:List Str:=["fields","e"]
theorem IB (w:World):FnD w 158 (aK w.params 158) (ae w.params 158) uM:=aA (by kernel_rfl) (cS fun a b=>by kernel_rfl)
theorem Jo:az (ac P 158)=true:=by kernel_rfl
theorem GK:al (ac P 158) uM=true:=by kernel_rfl
theorem EJ:keepIn (MineH.hd.heap_1 P) (.ref 158)=true:=by kernel_rfl
noncomputable abbrev uL:List Str:=["fields","e"]
theorem IA (w:World):FnD w 165 (aK w.params 165) (ae w.params 165) uL:=aA (by kernel_rfl) (cS fun a b=>by kernel_rfl)
theorem Jn:az (ac P 165)=true:=by kernel_rfl
theorem GJ:al (ac P 165) uL=true:=by kernel_rfl
theorem BH:keepIn (MineH.hd.heap_1 P) (.ref 165)=true:=by kernel_rfl
noncomputable abbrev uK:List Str:=["fields","e"]
theorem Iz (w:World):FnD w 172 (aK w.params 172) (ae w.params 172) uK:=aA (by kernel_rfl) (cS fun a b=>by kernel_rfl)
theorem Jm:az (ac P 172)=true:=by kernel_rfl
theorem GI:al (ac P 172) uK=true:=by kernel_rfl
theorem BG:keepIn (MineH.hd.heap_1 P) (.ref 172)=true:=by kernel_rfl
noncomputable abbrev uJ:List Str:=["e"]
theorem Iy (w:World):FnD w 179 (aK w.params 179) (ae w.params 179) uJ:=aA (by kernel_rfl) (mI fun a=>by kernel_rfl)
theorem Jl:az (ac P 179)=true:=by kernel_rfl
theorem GH:al (ac P 179) uJ=true:=by kernel_rfl
theorem BF:keepIn (MineH.hd.heap_1 P) (.ref 179)=true:=by kernel_rfl
noncomputable abbrev uH:List Str:=["fields","e"]
theorem Ix (w:World):FnD w 186 (aK w.params 186) (ae w.params 186) uH:=aA (by kernel_rfl) (cS fun a b=>by kernel_rfl)
theorem Jk:az (ac P 186)=true:=by kernel_rfl
theorem GG:al (ac P 186) uH=true:=by kernel_rfl
theorem Hp:keepIn (MineH.hd.heap_1 P) (.ref 186)=true:=by kernel_rfl
noncomputable abbrev qP:List Str:=["fields","e"]
theorem Iw (w:World):FnD w 193 (aK w.params 193) (ae w.params 193) qP:=aA (by kernel_rfl) (cS fun a b=>by kernel_rfl)
theorem Jj:az (ac P 193)=true:=by kernel_rfl
theorem GF:al (ac P 193) qP=true:=by kernel_rfl
theorem EI:keepIn (MineH.hd.heap_1 P) (.ref 193)=true:=by kernel_rfl
noncomputable abbrev uG:List Str:=["octets"]
theorem Iv (w:World):FnD w 200 (aK w.params 200) (ae w.params 200) uG:=aA (by kernel_rfl) (mI fun a=>by kernel_rfl)
theorem Ji:az (ac P 200)=true:=by kernel_rfl
theorem GE:al (ac P 200) uG=true:=by kernel_rfl
theorem Ho:keepIn (MineH.hd.heap_1 P) (.ref 200)=true:=by kernel_rfl
noncomputable abbrev uF:List Str:=["octets","at","many"]
theorem Iu (w:World):FnD w 207 (aK w.params 207) (ae w.params 207) uF:=aA (by kernel_rfl) (mH fun a b c=>by kernel_rfl)
theorem Jh:az (ac P 207)=true:=by kernel_rfl
theorem GD:al (ac P 207) uF=true:=by kernel_rfl
theorem Hn:keepIn (MineH.hd.heap_1 P) (.ref 207)=true:=by kernel_rfl
noncomputable abbrev zm:List Str:=[]
theorem Ir (w:World):FnD w 214 (aK w.params 214) (ae w.params 214) zm:=aA (by kernel_rfl) (gT (by kernel_rfl))
theorem Jg:az (ac P 214)=true:=by kernel_rfl
theorem GC:al (ac P 214) zm=true:=by kernel_rfl
theorem Hm:keepIn (MineH.hd.heap_1 P) (.ref 214)=true:=by kernel_rfl
noncomputable abbrev uD:List Str:=["packet"]
theorem Iq (w:World):FnD w 242 (aK w.params 242) (ae w.params 242) uD:=aA (by kernel_rfl) (mI fun a=>by kernel_rfl)
theorem Je:az (ac P 242)=true:=by kernel_rfl
theorem GB:al (ac P 242) uD=true:=by kernel_rfl
theorem Hl:keepIn (MineH.hd.heap_1 P) (.ref 242)=true:=by kernel_rfl
noncomputable abbrev uC:List Str:=["packet","base"]
theorem Ip (w:World):FnD w 249 (aK w.params 249) (ae w.params 249) uC:=aA (by kernel_rfl) (cS fun a b=>by kernel_rfl)
theorem Jd:az (ac P 249)=true:=by kernel_rfl
theorem GA:al (ac P 249) uC=true:=by kernel_rfl
theorem Hk:keepIn (MineH.hd.heap_1 P) (.ref 249)=true:=by kernel_rfl
noncomputable abbrev lz:List Str:=["packet","base","at","many"]
theorem Io (w:World):FnD w 256 (aK w.params 256) (ae w.params 256) lz:=aA (by kernel_rfl) (x5 fun a b c d=>by kernel_rfl)
theorem Jc:az (ac P 256)=true:=by kernel_rfl
theorem Gz:al (ac P 256) lz=true:=by kernel_rfl
theorem Hj:keepIn (MineH.hd.heap_1 P) (.ref 256)=true:=by kernel_rfl
noncomputable abbrev c8:List Str:=["scene","proto"]
theorem Fj (w:World):FnD w 285 (aK w.params 285) (ae w.params 285) c8:=aA (by kernel_rfl) (cS fun a b=>by kernel_rfl)
theorem FA:az (ac P 285)=true:=by kernel_rfl
theorem Ew:al (ac P 285) c8=true:=by kernel_rfl
theorem EH:keepIn (MineH.hd.heap_1 P) (.ref 285)=true:=by kernel_rfl
noncomputable abbrev uB:List Str:=["scene","e"]
theorem Im (w:World):FnD w 292 (aK w.params 292) (ae w.params 292) uB:=aA (by kernel_rfl) (cS fun a b=>by kernel_rfl)
theorem Ja:az (ac P 292)=true:=by kernel_rfl
theorem Gy:al (ac P 292) uB=true:=by kernel_rfl
theorem Hi:keepIn (MineH.hd.heap_1 P) (.ref 292)=true:=by kernel_rfl
noncomputable abbrev qM:List Str:=["scene","tag","what"]
theorem Il (w:World):FnD w 299 (aK w.params 299) (ae w.params 299) qM:=aA (by kernel_rfl) (mH fun a b c=>by kernel_rfl)
theorem I9:az (ac P 299)=true:=by kernel_rfl
theorem Gx:al (ac P 299) qM=true:=by kernel_rfl
theorem EG:keepIn (MineH.hd.heap_1 P) (.ref 299)=true:=by kernel_rfl
noncomputable abbrev uA:List Str:=["scene","e"]
theorem Ik (w:World):FnD w 306 (aK w.params 306) (ae w.params 306) uA:=aA (by kernel_rfl) (cS fun a b=>by kernel_rfl)
theorem I8:az (ac P 306)=true:=by kernel_rfl
theorem Gw:al (ac P 306) uA=true:=by kernel_rfl
theorem Hh:keepIn (MineH.hd.heap_1 P) (.ref 306)=true:=by kernel_rfl
noncomputable abbrev b8:List Str:=["scene","e"]
theorem Fi (w:World):FnD w 313 (aK w.params 313) (ae w.params 313) b8:=aA (by kernel_rfl) (cS fun a b=>by kernel_rfl)
theorem Fz:az (ac P 313)=true:=by kernel_rfl
theorem Eu:al (ac P 313) b8=true:=by kernel_rfl
theorem BE:keepIn (MineH.hd.heap_1 P) (.ref 313)=true:=by kernel_rfl
noncomputable abbrev qL:List Str:=["scene","e"]
theorem Ij (w:World):FnD w 320 (aK w.params 320) (ae w.params 320) qL:=aA (by kernel_rfl) (cS fun a b=>by kernel_rfl)
theorem I7:az (ac P 320)=true:=by kernel_rfl
theorem Gv:al (ac P 320) qL=true:=by kernel_rfl
theorem Hg:keepIn (MineH.hd.heap_1 P) (.ref 320)=true:=by kernel_rfl
noncomputable abbrev uz:List Str:=["scene","key"]
theorem Ii (w:World):FnD w 327 (aK w.params 327) (ae w.params 327) uz:=aA (by kernel_rfl) (cS fun a b=>by kernel_rfl)
theorem I6:az (ac P 327)=true:=by kernel_rfl
theorem Gu:al (ac P 327) uz=true:=by kernel_rfl
theorem Hf:keepIn (MineH.hd.heap_1 P) (.ref 327)=true:=by kernel_rfl
noncomputable abbrev uy:List Str:=["scene","field"]
theorem Ih (w:World):FnD w 334 (aK w.params 334) (ae w.params 334) uy:=aA (by kernel_rfl) (cS fun a b=>by kernel_rfl)
theorem I5:az (ac P 334)=true:=by kernel_rfl
theorem Gs:al (ac P 334) uy=true:=by kernel_rfl
theorem He:keepIn (MineH.hd.heap_1 P) (.ref 334)=true:=by kernel_rfl
noncomputable abbrev ux:List Str:=["scene","field"]
theorem Ig (w:World):FnD w 341 (aK w.params 341) (ae w.params 341) ux:=aA (by kernel_rfl) (cS fun a b=>by kernel_rfl)
theorem I4:az (ac P 341)=true:=by kernel_rfl
theorem Gq:al (ac P 341) ux=true:=by kernel_rfl
theorem Hd:keepIn (MineH.hd.heap_1 P) (.ref 341)=true:=by kernel_rfl
noncomputable abbrev uw:List Str:=["pen","many"]
theorem Ie (w:World):FnD w 348 (aK w.params 348) (ae w.params 348) uw:=aA (by kernel_rfl) (cS fun a b=>by kernel_rfl)
theorem I1:az (ac P 348)=true:=by kernel_rfl
theorem Gp:al (ac P 348) uw=true:=by kernel_rfl
theorem EF:keepIn (MineH.hd.heap_1 P) (.ref 348)=true:=by kernel_rfl
noncomputable abbrev uv:List Str:=[]
theorem Id (w:World):FnD w 355 (aK w.params 355) (ae w.params 355) uv:=aA (by kernel_rfl) (gT (by kernel_rfl))
theorem I0:az (ac P 355)=true:=by kernel_rfl
theorem Go:al (ac P 355) uv=true:=by kernel_rfl
theorem Hc:keepIn (MineH.hd.heap_1 P) (.ref 355)=true:=by kernel_rfl
noncomputable abbrev qK:List Str:=["proto"]
theorem Fh (w:World):FnD w 362 (aK w.params 362) (ae w.params 362) qK:=aA (by kernel_rfl) (mI fun a=>by kernel_rfl)
theorem Fy:az (ac P 362)=true:=by kernel_rfl
theorem Et:al (ac P 362) qK=true:=by kernel_rfl
theorem ED:keepIn (MineH.hd.heap_1 P) (.ref 362)=true:=by kernel_rfl
noncomputable abbrev qJ:List Str:=[]
theorem Fg (w:World):FnD w 369 (aK w.params 369) (ae w.params 369) qJ:=aA (by kernel_rfl) (gT (by kernel_rfl))
theorem Fw:az (ac P 369)=true:=by kernel_rfl
theorem Es:al (ac P 369) qJ=true:=by kernel_rfl
theorem EC:keepIn (MineH.hd.heap_1 P) (.ref 369)=true:=by kernel_rfl
noncomputable abbrev uu:List Str:=[]
theorem Ic (w:World):FnD w 374 (aK w.params 374) (ae w.params 374) uu:=aA (by kernel_rfl) (gT (by kernel_rfl))
theorem IZ:dG (ac P 374) uu=true:=by kernel_rfl
theorem Hb:keepIn (MineH.hd.heap_1 P) (.ref 374)=true:=by kernel_rfl
noncomputable abbrev ut:List Str:=["octets"]
theorem Ib (w:World):FnD w 381 (aK w.params 381) (ae w.params 381) ut:=aA (by kernel_rfl) (mI fun a=>by kernel_rfl)
theorem IY:az (ac P 381)=true:=by kernel_rfl
theorem Gn:al (ac P 381) ut=true:=by kernel_rfl
theorem Ha:keepIn (MineH.hd.heap_1 P) (.ref 381)=true:=by kernel_rfl
noncomputable abbrev ur:List Str:=["base","first","many"]
theorem Ia (w:World):FnD w 388 (aK w.params 388) (ae w.params 388) ur:=aA (by kernel_rfl) (mH fun a b c=>by kernel_rfl)
theorem IX:az (ac P 388)=true:=by kernel_rfl
theorem Gm:al (ac P 388) ur=true:=by kernel_rfl
theorem EB:keepIn (MineH.hd.heap_1 P) (.ref 388)=true:=by kernel_rfl
noncomputable abbrev d7:List Str:=["told","proto"]
theorem H9 (w:World):FnD w 395 (aK w.params 395) (ae w.params 395) d7:=aA (by kernel_rfl) (cS fun a b=>by kernel_rfl)
theorem IW:az (ac P 395)=true:=by kernel_rfl
theorem Gl:al (ac P 395) d7=true:=by kernel_rfl
theorem EA:keepIn (MineH.hd.heap_1 P) (.ref 395)=true:=by kernel_rfl
noncomputable abbrev nF:List Str:=["told","row"]
theorem H8 (w:World):FnD w 402 (aK w.params 402) (ae w.params 402) nF:=aA (by kernel_rfl) (cS fun a b=>by kernel_rfl)
theorem IV:az (ac P 402)=true:=by kernel_rfl
theorem Gk:al (ac P 402) nF=true:=by kernel_rfl
theorem GZ:keepIn (MineH.hd.heap_1 P) (.ref 402)=true:=by kernel_rfl
noncomputable abbrev uq:List Str:=["e","n","way","by","size"]
theorem H7 (w:World):FnD w 409 (aK w.params 409) (ae w.params 409) uq:=aA (by kernel_rfl) (Gc fun a b c d e=>by kernel_rfl)
theorem IU:az (ac P 409)=true:=by kernel_rfl
theorem Gj:al (ac P 409) uq=true:=by kernel_rfl
theorem GY:keepIn (MineH.hd.heap_1 P) (.ref 409)=true:=by kernel_rfl
noncomputable abbrev qI:List Str:=["pen","told"]
theorem H6 (w:World):FnD w 416 (aK w.params 416) (ae w.params 416) qI:=aA (by kernel_rfl) (cS fun a b=>by kernel_rfl)
theorem IT:az (ac P 416)=true:=by kernel_rfl
theorem Gi:al (ac P 416) qI=true:=by kernel_rfl
theorem GX:keepIn (MineH.hd.heap_1 P) (.ref 416)=true:=by kernel_rfl
noncomputable abbrev d6:List Str:=["way","fields","e"]
theorem H5 (w:World):FnD w 423 (aK w.params 423) (ae w.params 423) d6:=aA (by kernel_rfl) (mH fun a b c=>by kernel_rfl)
theorem IS:az (ac P 423)=true:=by kernel_rfl
theorem Gh:al (ac P 423) d6=true:=by kernel_rfl
theorem Ez:keepIn (MineH.hd.heap_1 P) (.ref 423)=true:=by kernel_rfl
noncomputable abbrev qH:List Str:=["fields","e","made"]
theorem H4 (w:World):FnD w 428 (aK w.params 428) (ae w.params 428) qH:=aA (by kernel_rfl) (mH fun a b c=>by kernel_rfl)
theorem IR:dG (ac P 428) qH=true:=by kernel_rfl
theorem GW:keepIn (MineH.hd.heap_1 P) (.ref 428)=true:=by kernel_rfl
noncomputable abbrev uo:List Str:=["scene","field"]
theorem H3 (w:World):FnD w 435 (aK w.params 435) (ae w.params 435) uo:=aA (by kernel_rfl) (cS fun a b=>by kernel_rfl)
theorem IQ:az (ac P 435)=true:=by kernel_rfl
theorem Gg:al (ac P 435) uo=true:=by kernel_rfl
theorem GV:keepIn (MineH.hd.heap_1 P) (.ref 435)=true:=by kernel_rfl
noncomputable abbrev um:List Str:=["scene","field"]
theorem H0 (w:World):FnD w 442 (aK w.params 442) (ae w.params 442) um:=aA (by kernel_rfl) (cS fun a b=>by kernel_rfl)
theorem IP:az (ac P 442)=true:=by kernel_rfl
theorem Gf:al (ac P 442) um=true:=by kernel_rfl
theorem GU:keepIn (MineH.hd.heap_1 P) (.ref 442)=true:=by kernel_rfl
noncomputable abbrev ul:List Str:=[]
theorem HZ (w:World):FnD w 449 (aK w.params 449) (ae w.params 449) ul:=aA (by kernel_rfl) (gT (by kernel_rfl))
theorem IO:az (ac P 449)=true:=by kernel_rfl
theorem Ge:al (ac P 449) ul=true:=by kernel_rfl
theorem GT:keepIn (MineH.hd.heap_1 P) (.ref 449)=true:=by kernel_rfl
noncomputable abbrev uk:List Str:=["seed","many"]
theorem HY (w:World):FnD w 454 (aK w.params 454) (ae w.params 454) uk:=aA (by kernel_rfl) (cS fun a b=>by kernel_rfl)
theorem IN:dG (ac P 454) uk=true:=by kernel_rfl
theorem GS:keepIn (MineH.hd.heap_1 P) (.ref 454)=true:=by kernel_rfl
noncomputable abbrev b7:List Str:=["scene","e","made"]
theorem HX (w:World):FnD w 461 (aK w.params 461) (ae w.params 461) b7:=aA (by kernel_rfl) (mH fun a b c=>by kernel_rfl)
theorem IM:az (ac P 461)=true:=by kernel_rfl
theorem Gd:al (ac P 461) b7=true:=by kernel_rfl
theorem GR:keepIn (MineH.hd.heap_1 P) (.ref 461)=true:=by kernel_rfl
end Mine
namespace Mine
open PySem PySem.W PyProof.Rows PySem.SeqAt
theorem aO {c:Bool} {P R:Prop} (h1:c=true->P) (h2:c=false->R):cnd c P R:=by cases c <;> first | exact h1 rfl | exact h2 rfl
theorem dP {c:Bool} {P R:Prop} (h:c=true) (p:P):cnd c P R:=by subst h;exact p
theorem bL {c:Bool} {P R:Prop} (h:c=false) (r:R):cnd c P R:=by subst h;exact r
theorem gZ {step:V->Mine.Loc->List aa->QF->Prop} (I:Nat->Mine.Loc->List aa->Prop) {K:QF}:∀ (items:List V) (k:Nat) {U:Mine.Loc} {Z:List aa},
  (∀ j v U Z K',items[j]?=some v->I (k+j) U Z->(∀ U' Z',I (k+j+1) U' Z'->K' .nx U' Z')->step v U Z K')->I k U Z->(∀ U' Z',I (k+items.length) U' Z'->K .nx U' Z')->bq step items U Z K:=by
 intro items
 induction items with
 | nil=>
  intro k U Z hs h0 hK
  unfold bq;exact hK _ _ (by simpa using h0)
 | cons v r ih=>
  intro k U Z hs h0 hK
  unfold bq
  refine hs 0 v U Z _ rfl (by simpa using h0) fun U' Z' h1=>?_
  refine ih (k+1) (fun j v' U Z K' hv hI hn=>hs (j+1) v' U Z K' (by simpa using hv) (by rw [show k+(j+1)=k+1+j by omega];exact hI) (fun U' Z' h=>hn U' Z' (by rw [show k+1+j+1=k+(j+1)+1 by omega];exact h))) h1 (fun U' Z' h=>hK U' Z' (by rw [List.length_cons,show k+(r.length+1)=k+1+r.length by omega];exact h))
theorem oF {te:Expr->Mine.Loc->List aa->(Bool->List aa->Prop)->QE->Prop} {ev:Expr->Mine.Loc->List aa->QV->QE->Prop} {elt:Expr} {Uc:Mine.Loc} {x:Str} (f:V->D) {K:List D->Prop}:∀ (items:List V) {acc:List D},
  (∀ v∈items,∀ Q:QV,Q (.d (f v)) []->ev elt (cK Uc x v) [] Q fun _ _=>False)->K (acc++items.map f)->jd te ev [] elt Uc x items acc K
 | [],acc,_,hK=>by unfold jd;simpa using hK
 | v::r,acc,h,hK=>by
  unfold jd ng
  show ev elt (cK Uc x v) [] _ _
  refine h v (.head _) _ ?_
  exact oF f r (fun v' hv'=>h v' (.tail _ hv')) (by simpa using hK)
noncomputable def ai (l:List Stmt) (i:Nat):Stmt:=l.getD i (.Pass default)
noncomputable def stP:Stmt->Expr×List Stmt
 | .For t _ b _ _=>(t,b)
 | .While t b _ _=>(t,b)
 | .Return (some e) _=>(e,[])
 | .Assign _ e _=>(e,[])
 | _=>(.Constant .none 0 default,[])
noncomputable def vU (s:Stmt):Expr:=(stP s).1
noncomputable def n6 (s:Stmt):List Stmt:=(stP s).2
noncomputable def FX (s:Stmt):Expr:=(stP s).1
noncomputable def FY (s:Stmt):List Stmt:=(stP s).2
noncomputable def aft (ex:Stmt->Mine.Loc->List aa->QF->QE->Prop) (r:List Stmt) (K:QF) (E:QE):QF:=fun fl U' Z'=>match fl with
 | .nx=>bm ex r U' Z' K E
 | .ct=>K .ct U' Z'
 | .br=>K .br U' Z'
 | .rt v=>K (.rt v) U' Z'
end Mine
set_option genSizeOf false
set_option genInjectivity false
namespace Mine
open PySem PySem.W PyProof.Rows PySem.SeqAt
structure Pat (α X:Type) where
 m:α->Option X
 b:X->α
 ok:∀ {a x},m a=some x->a=b x
noncomputable def pA {α:Type}:Pat α α:=⟨some,id,fun h=>Option.some.inj h⟩
noncomputable def pN {α:Type}:Pat (List α) Unit:=⟨fun l=>cond l.isEmpty (some ()) none,fun _=>[],fun h=>List.isEmpty_iff.mp (cA h).1⟩
noncomputable def pC {α X Y:Type} (p:Pat α X) (q:Pat (List α) Y):Pat (List α) (X×Y):=⟨fun l=>match l with
  | []=>none
  | a::r=>(p.m a).bind fun x=>(q.m r).bind fun y=>some (x,y),fun z=>p.b z.1::q.b z.2,fun {l z} h=>by
 cases l with
 | nil=>exact af h
 | cons a r=>
  obtain ⟨x,e1,h⟩:=aD h
  obtain ⟨y,e2,h⟩:=aD h
  rw [p.ok e1,q.ok e2,<- Option.some.inj h]⟩
noncomputable def pP {α β X Y:Type} (p:Pat α X) (q:Pat β Y):Pat (α×β) (X×Y):=⟨fun l=>(p.m l.1).bind fun x=>(q.m l.2).bind fun y=>some (x,y),fun z=>(p.b z.1,q.b z.2),fun {l z} h=>by
 obtain ⟨x,e1,h⟩:=aD h
 obtain ⟨y,e2,h⟩:=aD h
 rw [<- Option.some.inj h,<- p.ok e1,<- q.ok e2]⟩
noncomputable def pH {α β X:Type} (f:α->Option β) (g:β->α) (ok:∀ {a x},f a=some x->a=g x) (p:Pat β X):Pat α X:=⟨fun a=>(f a).bind p.m,fun x=>g (p.b x),fun h=>by
 obtain ⟨y,e1,h⟩:=aD h
 rw [ok e1,p.ok h]⟩
noncomputable def pD {X:Type}:Pat D X->Pat V X:=pH dV .d iX
noncomputable def pR (k:Nat):Pat V Unit:=⟨fun v=>cond (mL k v) (some ()) none,fun _=>.ref k,fun h=>iu (cA h).1⟩
noncomputable def pI:Pat D Int:=pH iiD .ii jW pA
noncomputable def pI' (k:Int):Pat D Unit:=⟨fun d=>(iiD d).bind fun i=>cond (decide (i=k)) (some ()) none,fun _=>.ii k,fun h=>by
 obtain ⟨i,e1,h⟩:=aD h
 rw [jW e1,of_decide_eq_true (cA h).1]⟩
noncomputable def pS:Pat D Str:=pH ssD .ss fi pA
noncomputable def pL {X:Type}:Pat (List D) X->Pat D X:=pH liD .li vA
noncomputable def pT {X:Type}:Pat (List D) X->Pat D X:=pH tuD .tu ig
noncomputable def pF:Pat D (List (Str×D)):=pH diD .di qa pA
noncomputable def bsD:D->Option (Array UInt8)
 | .bs b=>some b
 | _=>none
noncomputable def baD:D->Option (Array UInt8)
 | .ba b=>some b
 | _=>none
noncomputable def obD:D->Option (Addr×List (Str×D))
 | .ob C l=>some (C,l)
 | _=>none
theorem Cy {d:D} {b:Array UInt8} (h:bsD d=some b):d=.bs b:=by
 cases d with
 | bs m=>exact congrArg D.bs (Option.some.inj h)
 | _=>exact af h
theorem CD {d:D} {b:Array UInt8} (h:baD d=some b):d=.ba b:=by
 cases d with
 | ba m=>exact congrArg D.ba (Option.some.inj h)
 | _=>exact af h
theorem Bu {d:D} {p:Addr×List (Str×D)} (h:obD d=some p):d=.ob p.1 p.2:=by
 cases d with
 | ob C l=>exact congrArg (fun p=>D.ob p.1 p.2) (Option.some.inj h)
 | _=>exact af h
noncomputable def pBs:Pat D (Array UInt8):=pH bsD .bs Cy pA
noncomputable def pBa:Pat D (Array UInt8):=pH baD .ba CD pA
noncomputable def pOb:Pat D (Addr×List (Str×D)):=pH obD (fun p=>.ob p.1 p.2) Bu pA
noncomputable def pOL {X:Type}:Pat (List D) X->Pat OC X:=pH liO .li vz
noncomputable def ocC:aa->Option OC
 | .oc d=>some d
 | _=>none
theorem Bt {c:aa} {d:OC} (h:ocC c=some d):c=.oc d:=by
 cases c with
 | oc x=>exact congrArg aa.oc (Option.some.inj h)
 | _=>exact af h
theorem vM {c:aa} {i:Addr×List (Str×D)×List (Str×OC)} (h:vN c=some i):c=.inst i.1 i.2.1 i.2.2:=by
 cases c with
 | inst C l own=>exact congrArg (fun i=>aa.inst i.1 i.2.1 i.2.2) (Option.some.inj h)
 | _=>exact af h
noncomputable def pOC {X:Type}:Pat OC X->Pat aa X:=pH ocC .oc Bt
noncomputable def pIn {X Y:Type} (p:Pat (List (Str×D)) X) (q:Pat (List (Str×OC)) Y):Pat aa (Addr×X×Y):=pH vN (fun i=>.inst i.1 i.2.1 i.2.2) vM (pP pA (pP p q))
noncomputable def mkS {X Y:Type} (p:Pat (List V) X) (q:Pat (List aa) Y) (f:X->Y->(V->List aa->Prop)->(Str->List aa->Prop)->Prop):au:=fun vs Z Q E=>match p.m vs with
 | some x=>match q.m Z with
  | some y=>f x y Q E
  | none=>False
 | none=>False
theorem aB {X Y:Type} {p:Pat (List V) X} {q:Pat (List aa) Y} {f:X->Y->(V->List aa->Prop)->(Str->List aa->Prop)->Prop} {vs:List V} {Z:List aa} {Q:V->List aa->Prop} {E:Str->List aa->Prop}
  (h:mkS p q f vs Z Q E):∃ x y,vs=p.b x/\Z=q.b y/\f x y Q E:=by
 unfold mkS at h
 split at h
 · rename_i x e1
   split at h
   · rename_i y e2
     exact ⟨x,y,p.ok e1,q.ok e2,h⟩
   · exact h.elim
 · exact h.elim
noncomputable def onP {α X:Type} (p:Pat α X) (a:α) (k:X->Prop) (e:Prop):Prop:=match p.m a with
 | some x=>k x
 | none=>e
theorem mr {α X:Type} {p:Pat α X} {a:α} {k:X->Prop} {e:Prop} (h:onP p a k e):(∃ x,a=p.b x/\k x)\/e:=by
 unfold onP at h
 split at h
 · rename_i x e1
   exact .inl ⟨x,p.ok e1,h⟩
 · exact .inr h
end Mine
namespace Mine
open PySem PySem.W PyProof.Rows PySem.SeqAt
variable (P:Params)
noncomputable def S0:Tab:=aZ []
theorem so0 {w:World} {base:Heap} {n:Nat}:SOk w base n S0:=LOk.so LOk.nil
noncomputable def oS:List D->Bool
 | []=>true
 | .ii _::r=>oS r
 | _=>false
noncomputable def sr:D->Int
 | .ii v=>v
 | _=>0
noncomputable def aF (sc:List D) (i seed many:Int):Int:=match decide (i<(sc.length:Int)) with
 | true=>Int.fmod (sr (sc.getD i.toNat .nn)) many
 | false=>Int.fmod (Int.fdiv ((seed+3*i+5)*(i+4)*1531) 8) many
noncomputable def b6 (sc:List D) (i seed many:Int):Bool:=oS sc&&(Nat.ble sc.length 63&&(leB 0 i&&(leB i 1000000&&(leB 0 seed&&(leB seed 65536&&ltB 0 many)))))
noncomputable def tR  : au:=mkS (pC (pR 0) (pC (pD pI) pN)) (pC (pOC (pOL (pC (pL pA) (pC pI (pC pI pN))))) pN) fun (_,many,_) ((sc,i,seed,_),_) Q E=>grd (b6 sc i seed many) (Q (.d (.ii (aF sc i seed many))) [.oc (.li [.li sc,.ii (i+1),.ii seed])])
theorem DB (sc:List D) (i seed many:Int) (Q:QV) (E:QE):vcf S0 30 P 348 uw false [.ref 0,.d (.ii many)] [.oc (.li [.li sc,.ii i,.ii seed])] Q E=
 (grd (Nat.ble (List.length sc) 16777216)
 (cnd (decide (i<↑(List.length sc)))
  (grd (leB 0 i&&ltB i ↑(List.length sc)&&ltB i 1048576)
   (oV .Mod [aa.oc (OC.li [D.li sc,D.ii (i+1),D.ii seed])] (.d (List.getD sc (Int.toNat i) .nn)) (.d (.ii many)) fun v=>Q v [aa.oc (OC.li [D.li sc,D.ii (i+1),D.ii seed])]))
  (grd (okB 4096 3&&okB 4096 i)
   (grd (okB 4096 (seed+3*i+5)&&okB 4096 (i+4))
    (grd (okB 4096 ((seed+3*i+5)*(i+4))&&okB 4096 1531)
     (grd (neB many 0)
      (Q (.d (.ii (Int.fmod (Int.fdiv ((seed+3*i+5)*(i+4)*1531) 8) many)))
       [aa.oc (OC.li [D.li sc,D.ii (i+1),D.ii seed])]))))))):=by kernel_rfl
theorem lV:∀ {l:List D} {k:Nat},oS l=true->k<l.length->∃ v,l.getD k .nn=.ii v
 | [],k,_,h=>by simp at h
 | d::r,0,h,_=>by cases d <;> first | exact ⟨_,rfl⟩ | contradiction
 | d::r,k+1,h,hk=>by
  have h':oS r=true:=by clear hk;cases d <;> first | exact h | contradiction
  obtain ⟨v,e⟩:=lV (k:=k) h' (by simpa using hk)
  exact ⟨v,by simpa using e⟩
theorem bP {x:Int} {n:Nat} (k:Nat) (h:x.natAbs<2 ^ k) (hk:k<=n):okB n x=true:=Bs (Nat.lt_of_lt_of_le h (Nat.pow_le_pow_right (by decide) hk))
theorem mz {x:Int} (h:0<x):neB x 0=true:=by unfold neB;simp;omega
theorem ah {a b:Bool} (ha:a=true) (hb:b=true):(a&&b)=true:=by rw [ha,hb];rfl
theorem an {x y:Int} (h:x<=y):leB x y=true:=decide_eq_true h
theorem bQ {x y:Int} (h:x<y):ltB x y=true:=decide_eq_true h
theorem ao {x y:Nat} (h:x<=y):Nat.ble x y=true:=Nat.ble_eq_true_of_le h
section
variable {w:World} {base:Heap} {n m:Nat}
theorem E6 (W:Wd w base):aU w base 348 1 tR:=by
 refine bD W so0 false (Ie w) (I1 _) (Gp _) 30 fun vs Z Q E q=>?_
 replace q:=aB q
 obtain ⟨zz,zy,e1,e2,q⟩:=q;obtain ⟨_,many,_⟩:=zz;obtain ⟨zx,_⟩:=zy;obtain ⟨sc,i,seed,_⟩:=zx
 obtain rfl:=(show vs=[.ref 0,.d (.ii many)] from e1);obtain rfl:=(show Z=[.oc (.li [.li sc,.ii i,.ii seed])] from e2)
 dsimp only at q
 obtain ⟨c,q⟩:=ab.mp q
 refine ⟨rfl,?_⟩
 rw [DB]
 unfold b6 at c
 simp only [Bool.and_eq_true] at c
 obtain ⟨c1,c2,c3,c4,c5,c6,c7⟩:=c
 have c2:=Nat.le_of_ble_eq_true c2
 have c3:=ak.mp c3
 have c4:=ak.mp c4
 have c5:=ak.mp c5
 have c6:=ak.mp c6
 have c7:=cH.mp c7
 refine ad (ao (by omega)) ?_
 unfold aF at q
 refine aO (fun h=>?_) fun h=>?_
 · rw [h] at q
   have h':=of_decide_eq_true h
   refine ad (ah (ah (an c3) (bQ h')) (bQ (by omega))) ?_
   obtain ⟨v,e⟩:=lV (k:=i.toNat) c1 (by omega)
   rw [e] at q ⊢
   exact ad (mz c7) q
 · rw [h] at q
   have a1:okB 4096 i=true:=bP 20 (by omega) (by decide)
   have a2:okB 4096 (seed+3*i+5)=true:=bP 22 (by omega) (by decide)
   have a3:okB 4096 (i+4)=true:=bP 20 (by omega) (by decide)
   have a4:okB 4096 ((seed+3*i+5)*(i+4))=true:=by
    refine bP 42 ?_ (by decide)
    rw [Int.natAbs_mul]
    exact Nat.lt_of_lt_of_le (Nat.mul_lt_mul'' (c:=2 ^ 22) (d:=2 ^ 20) (by omega) (by omega)) (by decide)
   exact ad (ah (by decide) a1) (ad (ah a2 a3) (ad (ah a4 (by decide)) (ad (mz c7) q)))
end
noncomputable def bp (l:List D):Int:=l.foldl (fun n d=>n*256+sr d) 0
noncomputable def dQ:List D->Bool
 | []=>true
 | .ii v::r=>leB 0 v&&(ltB v 256&&dQ r)
 | _=>false
noncomputable def cJ (l:List D):Bool:=dQ l&&Nat.ble l.length 64
noncomputable def y9  : au:=mkS (pC (pD (pL pA)) pN) pN fun (l,_) _ Q E=>grd (cJ l) (Q (.d (.ii (bp l))) [])
noncomputable abbrev stp (m:Nat) (S:Tab) (P:Params) (a:Addr) (i:Nat):=e7 (evN S m) (ac P a) (vU (ai (ae P a) i)) (n6 (ai (ae P a) i))
noncomputable abbrev cx (m:Nat) (S:Tab) (P:Params) (a:Addr) (i:Nat) (K:QF) (E:QE):=aft ((evN S m).ex (ac P a)) ((ae P a).drop i) K E
theorem Dz (l:List D) (Q:QV) (E:QE):vcf S0 30 P 381 ut false [.d (.li l)] [] Q E=
 bq (stp 29 S0 P 381 1) (l.map .d) [("octets",.d (.li l)),("whole",.d (.ii 0))] [] (cx 30 S0 P 381 2 (a9 false 0 Q) (bE 0 E)):=by kernel_rfl
theorem AE (l:List D) (o n:Int) (K:QF):stp 29 S0 P 381 1 (.d (.ii o)) [("octets",.d (.li l)),("whole",.d (.ii n))] [] K=
 grd (okB 4096 n&&okB 4096 256) (K .nx [("octets",.d (.li l)),("whole",.d (.ii (n*256+o))),("octet",.d (.ii o))] []):=by kernel_rfl
theorem AD (l:List D) (o n:Int) (x:V) (K:QF):stp 29 S0 P 381 1 (.d (.ii o)) [("octets",.d (.li l)),("whole",.d (.ii n)),("octet",x)] [] K=
 grd (okB 4096 n&&okB 4096 256) (K .nx [("octets",.d (.li l)),("whole",.d (.ii (n*256+o))),("octet",.d (.ii o))] []):=by kernel_rfl
theorem Cc (l:List D) (n:Int) (Q:QV) (E:QE):cx 30 S0 P 381 2 (a9 false 0 Q) (bE 0 E) .nx [("octets",.d (.li l)),("whole",.d (.ii n))] []=Q (.d (.ii n)) []:=by kernel_rfl
theorem Cb (l:List D) (n:Int) (x:V) (Q:QV) (E:QE):cx 30 S0 P 381 2 (a9 false 0 Q) (bE 0 E) .nx [("octets",.d (.li l)),("whole",.d (.ii n)),("octet",x)] []=Q (.d (.ii n)) []:=by kernel_rfl
theorem fK:∀ {l:List D} {k:Nat} {d:D},dQ l=true->l[k]?=some d->∃ v,d=.ii v/\0<=v/\v<256
 | [],k,d,_,h=>by simp at h
 | x::r,0,d,h,e=>by
  simp at e;subst e
  cases x <;> first
   | (contradiction;done)
   | (unfold dQ at h
      simp only [Bool.and_eq_true] at h
      exact ⟨_,rfl,ak.mp h.1,cH.mp h.2.1⟩)
 | x::r,k+1,d,h,e=>by
  have h':dQ r=true:=by
   clear e;cases x <;> first
    | (contradiction;done)
    | (unfold dQ at h
       simp only [Bool.and_eq_true] at h
       exact h.2.2)
  exact fK h' (by simpa using e)
theorem dZ {l:List D} {k:Nat} {d:D} (h:l[k]?=some d):bp (l.take (k+1))=bp (l.take k)*256+sr d:=by
 have hk:=(List.getElem?_eq_some_iff.mp h)
 obtain ⟨hk,e⟩:=hk
 rw [List.take_succ,h]
 unfold bp
 rw [Option.toList_some,List.foldl_append]
 rfl
theorem gF:∀ {l:List D} (k:Nat),dQ l=true->0<=bp (l.take k)/\bp (l.take k)<256 ^ k
 | l,0,_=>by simp [bp]
 | l,k+1,h=>by
  obtain ⟨h1,h2⟩:=gF k h
  cases e:l[k]? with
  | none=>
   have hl:l.length<=k:=by simpa using e
   rw [List.take_of_length_le (by omega)]
   rw [List.take_of_length_le hl] at h1 h2
   refine ⟨h1,Int.lt_of_lt_of_le h2 ?_⟩
   rw [Int.pow_succ]
   have:(0:Int)<256 ^ k:=Int.pow_pos (by decide)
   omega
  | some d=>
   obtain ⟨v,rfl,hv0,hv1⟩:=fK h e
   rw [dZ e,Int.pow_succ]
   simp only [sr]
   omega
section
variable {w:World} {base:Heap} {n m:Nat}
theorem HK (W:Wd w base):aU w base 381 1 y9:=by
 refine bD W so0 false (Ib w) (IY _) (Gn _) 30 fun vs Z Q E q=>?_
 replace q:=aB q
 obtain ⟨zz,_,e1,e2,q⟩:=q;obtain ⟨l,_⟩:=zz
 obtain rfl:=(show vs=[.d (.li l)] from e1);obtain rfl:=(show Z=[] from e2)
 dsimp only at q
 obtain ⟨c,q⟩:=ab.mp q
 refine ⟨rfl,?_⟩
 rw [Dz]
 unfold cJ at c
 simp only [Bool.and_eq_true] at c
 obtain ⟨c1,c2⟩:=c
 have c2:=Nat.le_of_ble_eq_true c2
 refine gZ (fun k U Z=>Z=[]/\(U=[(Str.ofString "octets",.d (.li l)),(Str.ofString "whole",.d (.ii (bp (l.take k))))]\/∃ x,U=[(Str.ofString "octets",.d (.li l)),(Str.ofString "whole",.d (.ii (bp (l.take k)))),(Str.ofString "octet",x)])) _ 0 (fun j v U Z K' hv hI hn=>?_) ⟨rfl,.inl rfl⟩ fun U' Z' hI=>?_
 · clear q;obtain ⟨rfl,hI⟩:=hI
   rw [Nat.zero_add] at hI hn
   rw [List.getElem?_map] at hv
   obtain ⟨d,hd,rfl⟩:=Option.map_eq_some_iff.mp hv
   clear hv;obtain ⟨o,rfl,ho0,ho1⟩:=fK c1 hd
   have hb:=gF j c1
   have hj:j<64:=by
    have:=(List.getElem?_eq_some_iff.mp hd).1
    omega
   have hok:okB 4096 (bp (l.take j))=true:=by
    refine bP (8*64) ?_ (by decide)
    have h3:(256:Int) ^ j<=256 ^ 64:=by
     have:=Nat.pow_le_pow_right (n:=256) (by decide) (Nat.le_of_lt hj)
     exact_mod_cast this
    have h4:(256:Int) ^ 64=2 ^ (8*64):=by decide
    have h5:((bp (l.take j)).natAbs:Int)<((2 ^ (8*64):Nat):Int):=by
     rw [Int.natAbs_of_nonneg hb.1]
     push_cast
     omega
    exact_mod_cast h5
   have hs:=dZ hd
   simp only [sr] at hs
   clear c2;rcases hI with rfl | ⟨x,rfl⟩
   · rw [AE]
     exact ad (ah hok (by decide)) (hn _ _ ⟨rfl,.inr ⟨_,by rw [hs]⟩⟩)
   · rw [AD]
     exact ad (ah hok (by decide)) (hn _ _ ⟨rfl,.inr ⟨_,by rw [hs]⟩⟩)
 · clear c2;obtain ⟨rfl,hI⟩:=hI
   rw [Nat.zero_add,List.length_map,List.take_length] at hI
   rcases hI with rfl | ⟨x,rfl⟩
   · rw [Cc];exact q
   · rw [Cb];exact q
end
end Mine
namespace Mine
open PySem PyProof.Rows
theorem bI (a b:Nat):Builtin.bitAnd (a:Int) (b:Int)=((a &&& b:Nat):Int):=by simp [Builtin.bitAnd]
theorem jG (a b:Nat):(a ||| b)+(a &&& b)=a+b:=by
 have h:=PyProof.Rows.bitOr_and (a:Int) (b:Int)
 have e:Builtin.bitOr (a:Int) (b:Int)=((a ||| b:Nat):Int):=by
  have hn:∀ x:Nat,Builtin.bitNot (x:Int)=-(x:Int) - 1:=fun x=>by simp [Builtin.bitNot]
  have hnn:∀ x:Int,Builtin.bitNot (Builtin.bitNot x)=x:=fun x=>by simp only [Builtin.bitNot];omega
  unfold Builtin.bitOr Builtin.bitAnd
  have h1:¬ (0:Int)<=Builtin.bitNot (a:Int):=by rw [hn];omega
  have h2:¬ (0:Int)<=Builtin.bitNot (b:Int):=by rw [hn];omega
  rw [decide_eq_false h1,decide_eq_false h2]
  simp only [hnn]
  simp
 rw [e,bI] at h
 omega
theorem iI (a b:Nat):Builtin.bitOr (a:Int) (b:Int)=((a ||| b:Nat):Int):=by
 have h:=PyProof.Rows.bitOr_and (a:Int) (b:Int)
 have h2:=jG a b
 rw [bI] at h
 omega
theorem qp (a b:Nat):Builtin.bitXor (a:Int) (b:Int)=((a ||| b:Nat):Int) - ((a &&& b:Nat):Int):=by
 unfold Builtin.bitXor
 rw [iI,bI]
theorem vb (n o:Nat) (h:o<256):(n*2 ^ 8 ||| o)=n*256+o:=by
 have:=Nat.two_pow_add_eq_or_of_lt (i:=8) (b:=o) h n
 rw [Nat.mul_comm n (2 ^ 8),<- this,Nat.mul_comm]
theorem dH (n k:Nat):(n &&& (2 ^ k - 1))=n % 2 ^ k:=Nat.and_two_pow_sub_one_eq_mod n k
theorem vc (n k:Nat):(n ||| (2 ^ k - 1))=n / 2 ^ k*2 ^ k+(2 ^ k - 1):=by
 have hp:0<2 ^ k:=Nat.two_pow_pos k
 have h:=jG n (2 ^ k - 1)
 rw [dH] at h
 have:=Nat.div_add_mod n (2 ^ k)
 rw [Nat.mul_comm] at this
 refine Nat.add_right_cancel (m:=n % 2 ^ k) (h.trans ?_)
 rw [Nat.add_right_comm,this]
theorem oP (n m k:Nat):(n &&& (m*2 ^ k))=((n / 2 ^ k) &&& m)*2 ^ k:=by
 apply Nat.eq_of_testBit_eq
 intro i
 rw [Nat.testBit_and,<- Nat.shiftLeft_eq,<- Nat.shiftLeft_eq,Nat.testBit_shiftLeft,Nat.testBit_shiftLeft,Nat.testBit_and,<- Nat.shiftRight_eq_div_pow,Nat.testBit_shiftRight]
 by_cases h:i ≥ k
 · simp [h,Nat.add_sub_cancel' h]
 · simp [h]
theorem CI (n k:Nat):(n &&& (31*2 ^ k))=n / 2 ^ k % 32*2 ^ k:=by
 rw [oP]
 have:=dH (n / 2 ^ k) 5
 rw [show 2 ^ 5 - 1=31 from rfl] at this
 rw [this]
theorem ta (n k:Nat) (h:n<2 ^ k):((n ||| (2 ^ k - 1):Nat):Int) - ((n &&& (2 ^ k - 1):Nat):Int)=((2 ^ k - 1 - n:Nat):Int):=by
 rw [vc,dH,Nat.div_eq_of_lt h,Nat.mod_eq_of_lt h,Nat.zero_mul,Nat.zero_add]
 exact (Int.ofNat_sub (Nat.le_sub_one_of_lt h)).symm
noncomputable def wN (l:List UInt8):Nat:=l.foldl (fun n u=>n*256+u.toNat) 0
theorem zD (l:List UInt8):∀ a:Nat,l.foldl (fun n u=>n*256+u.toNat) a=a*256 ^ l.length+wN l:=by
 induction l with
 | nil=>intro a;simp [wN]
 | cons x r ih=>
  intro a
  rw [List.foldl_cons,ih]
  unfold wN
  rw [List.foldl_cons,ih (0*256+x.toNat),List.length_cons,Nat.pow_succ,Nat.add_mul,Nat.zero_mul,Nat.zero_add,Nat.mul_assoc,Nat.mul_comm 256,<- Nat.add_assoc];rfl
theorem ic (a b:List UInt8):wN (a++b)=wN a*256 ^ b.length+wN b:=by
 unfold wN
 rw [List.foldl_append,zD]
 rfl
theorem yY (l:List UInt8):wN l<256 ^ l.length:=by
 induction l with
 | nil=>simp [wN]
 | cons x r ih=>
  have h:wN (x::r)=x.toNat*256 ^ r.length+wN r:=by
   unfold wN
   rw [List.foldl_cons,zD];simp [wN]
  rw [h,List.length_cons,Nat.pow_succ]
  have hx:x.toNat<256:=x.toNat_lt
  have:=Nat.mul_le_mul_right (256 ^ r.length) (Nat.succ_le_of_lt hx)
  rw [Nat.succ_mul] at this
  rw [Nat.mul_comm _ 256]
  exact Nat.lt_of_lt_of_le (Nat.add_lt_add_left ih _) this
theorem zI (n:Nat):n<=8*((n+7) / 8):=by
 have:=Nat.div_add_mod (n+7) 8
 have h:=Nat.mod_lt (n+7) (y:=8) (by decide)
 refine Nat.le_of_add_le_add_right (b:=7) ?_
 exact Nat.le_trans (Nat.le_of_eq this.symm) (Nat.add_le_add_left (Nat.le_of_lt_succ h) _)
theorem rV (l:List UInt8) (p many:Nat) (h:(p+many+7) / 8<=l.length):
  (wN ((l.drop (p / 8)).take ((p+many+7) / 8 - p / 8)) / 2 ^ (8*((p+many+7) / 8) - p - many)) % 2 ^ many=wN l / 2 ^ (8*l.length - (p+many)) % 2 ^ many:=by
 have hbe:p / 8<=(p+many+7) / 8:=Nat.div_le_div_right (Nat.le_add_right_of_le (Nat.le_add_right _ _))
 have h1:=zI (p+many)
 have h2:8*(p / 8)<=p:=Nat.mul_div_le p 8
 generalize (p+many+7) / 8=e at *
 generalize p / 8=b at *
 have hsplit:l=(l.take b++(l.drop b).take (e - b))++l.drop e:=by
  rw [List.append_assoc]
  conv=>lhs;rw [<- List.take_append_drop b l]
  congr 1
  conv=>lhs;rw [<- List.take_append_drop (e - b) (l.drop b)]
  rw [List.drop_drop]
  congr 2
  exact Nat.add_sub_of_le hbe
 generalize hpre:l.take b=pre at *
 generalize hmid:(l.drop b).take (e - b)=mid at *
 generalize hpost:l.drop e=post at *
 have lm:mid.length=e - b:=by rw [<- hmid,List.length_take,List.length_drop];exact Nat.min_eq_left (Nat.sub_le_sub_right h b)
 have lp:post.length=l.length - e:=by rw [<- hpost,List.length_drop]
 have hw:wN l=(wN pre*256 ^ mid.length+wN mid)*256 ^ post.length+wN post:=by rw [hsplit,ic,ic]
 have hpost':=yY post
 have e256:∀ k,256 ^ k=2 ^ (8*k):=fun k=>by rw [show 256=2 ^ 8 from rfl,<- Nat.pow_mul]
 have hexp:8*l.length - (p+many)=8*post.length+(8*e - p - many):=by rw [lp,Nat.mul_sub,Nat.sub_sub];exact (Nat.sub_add_sub_cancel (Nat.mul_le_mul_left 8 h) h1).symm
 rw [hexp,Nat.pow_add,<- Nat.div_div_eq_div_mul,<- e256,hw]
 have hq:((wN pre*256 ^ mid.length+wN mid)*256 ^ post.length+wN post) / 256 ^ post.length=wN pre*256 ^ mid.length+wN mid:=by
  rw [Nat.mul_comm,Nat.mul_add_div (Nat.pow_pos (by decide)),Nat.div_eq_of_lt hpost',Nat.add_zero]
 rw [hq]
 have hm:8*mid.length=(8*e - p - many)+(many+(p - 8*b)):=by rw [lm,Nat.mul_sub,Nat.sub_sub,Nat.add_comm many,<- Nat.sub_add_comm h2,Nat.sub_add_sub_cancel h1 (Nat.le_trans h2 (Nat.le_add_right _ _))]
 rw [e256,hm,Nat.pow_add,Nat.pow_add]
 rw [show wN pre*(2 ^ (8*e - p - many)*(2 ^ many*2 ^ (p - 8*b)))=2 ^ (8*e - p - many)*(2 ^ many*(wN pre*2 ^ (p - 8*b))) by
  rw [Nat.mul_left_comm,Nat.mul_left_comm (wN pre)]]
 rw [Nat.mul_add_div (Nat.two_pow_pos _),Nat.mul_add_mod]
end Mine
namespace Mine
open PySem PySem.W PyProof.Rows PySem.SeqAt
variable (P:Params)
noncomputable def df (b:Array UInt8):Int:=(wN b.toList:Int)
noncomputable def zf  : au:=mkS (pC (pD pBa) pN) pN fun (b,_) _ Q E=>grd (Nat.ble b.size 64) (Q (.d (.ii (df b))) [])
noncomputable def fB (g b bg f m:Int):Int:=Int.fmod (Int.fdiv g (2 ^ Int.toNat (b - (bg+f+m)))) (2 ^ Int.toNat m)
noncomputable def iY (b f m:Int):Bool:=leB 0 b&&(leB b 1024&&(leB 0 f&&(leB f 1024&&(leB 0 m&&leB m 1024))))
noncomputable def tQ  : au:=mkS (pC (pD (pT (pC pI (pC pI (pC pI pN))))) (pC (pD pI) (pC (pD pI) pN))) pN fun ((g,b,bg,_),f,m,_) _ Q E=>grd (iY b f m) (cnd (decide (bg<0)) (Q (.d .nn) []) (cnd (decide (b<bg+f+m)) (Q (.d .nn) []) (Q (.d (.ii (fB g b bg f m))) [])))
noncomputable def ze  : au:=mkS (pC (pD pBa) (pC (pD pI) (pC (pD pI) pN))) pN fun (b,p,m,_) _ Q E=>grd (Nat.ble b.size 64&&(leB 0 p&&(leB p 4096&&(leB 0 m&&leB m 1024)))) (cnd (decide (8*(b.size:Int)<0+p+m)) (Q (.d .nn) []) (Q (.d (.ii (fB (df b) (8*(b.size:Int)) 0 p m))) []))
noncomputable def ch (kind:Int):Int:=match decide (kind=2048) with
 | true=>2
 | false=>match decide (kind=34525) with
  | true=>10
  | false=>match decide (kind=2054) with
   | true=>3
   | false=>0
noncomputable def S1:Tab:=aZ [(200,zf)]
theorem DE (b:Array UInt8) (Q:QV) (E:QE):vcf S0 30 P 200 uG false [.d (.ba b)] [] Q E=
 bq (stp 29 S0 P 200 1) (b.toList.map fun u=>.d (.ii u.toNat)) [("octets",.d (.ba b)),("number",.d (.ii 0))] [] (cx 30 S0 P 200 2 (a9 false 0 Q) (bE 0 E)):=by kernel_rfl
theorem AI (b:Array UInt8) (o n:Int) (K:QF):stp 29 S0 P 200 1 (.d (.ii o)) [("octets",.d (.ba b)),("number",.d (.ii n))] [] K=
 grd (leB 0 8&&leB 8 4096&&okB 4096 n) (K .nx [("octets",.d (.ba b)),("number",.d (.ii (Builtin.bitOr (n*2 ^ Int.toNat 8) o))),("octet",.d (.ii o))] []):=by kernel_rfl
theorem AH (b:Array UInt8) (o n:Int) (x:V) (K:QF):stp 29 S0 P 200 1 (.d (.ii o)) [("octets",.d (.ba b)),("number",.d (.ii n)),("octet",x)] [] K=
 grd (leB 0 8&&leB 8 4096&&okB 4096 n) (K .nx [("octets",.d (.ba b)),("number",.d (.ii (Builtin.bitOr (n*2 ^ Int.toNat 8) o))),("octet",.d (.ii o))] []):=by kernel_rfl
theorem Ch (b:Array UInt8) (n:Int) (Q:QV) (E:QE):cx 30 S0 P 200 2 (a9 false 0 Q) (bE 0 E) .nx [("octets",.d (.ba b)),("number",.d (.ii n))] []=Q (.d (.ii n)) []:=by kernel_rfl
theorem Cg (b:Array UInt8) (n:Int) (x:V) (Q:QV) (E:QE):cx 30 S0 P 200 2 (a9 false 0 Q) (bE 0 E) .nx [("octets",.d (.ba b)),("number",.d (.ii n)),("octet",x)] []=Q (.d (.ii n)) []:=by kernel_rfl
theorem l8 {l:List UInt8} {k:Nat} {u:UInt8} (h:l[k]?=some u):wN (l.take (k+1))=wN (l.take k)*256+u.toNat:=by
 rw [List.take_add_one,h,ic]
 simp [wN]
theorem jk {x k n:Nat} (h:x<2 ^ k) (hk:k<=n):okB n (x:Int)=true:=bP k (by simpa using h) hk
theorem Dy (g b bg f m:Int) (Q:QV) (E:QE):vcf S0 30 P 388 ur false [.d (.tu [.ii g,.ii b,.ii bg]),.d (.ii f),.d (.ii m)] [] Q E=
 (cnd (decide (bg<0)) (Q (V.d D.nn) []) (cnd (decide (b<bg+f+m)) (Q (V.d D.nn) []) (grd (leB 0 (b - (bg+f+m))&&leB (b - (bg+f+m)) 4096&&okB 64 2)
  (grd (neB (2 ^ Int.toNat (b - (bg+f+m))) 0&&okB 4096 (2 ^ Int.toNat (b - (bg+f+m))))
   (grd (leB 0 m&&leB m 4096&&okB 64 2)
    (grd (neB (2 ^ Int.toNat m) 0)
     (Q (V.d (D.ii (fB g b bg f m))) []))))))):=by kernel_rfl
theorem DD (b:Array UInt8) (at_ many:Int) (Q:QV) (E:QE):vcf S1 30 P 207 uF false [.d (.ba b),.d (.ii at_),.d (.ii many)] [] Q E=
 (grd (Nat.ble (Array.size b) 16777216) (cnd (decide (↑(Array.size b)<Int.fdiv (at_+many+7) 8)) (Q (V.d D.nn) []) (grd (okB 4096 8&&okB 4096 (Int.fdiv (at_+many+7) 8))
  (grd (eF (some (Int.fdiv at_ 8))&&eF (some (Int.fdiv (at_+many+7) 8)))
   (grd (Nat.ble (Array.size b) 1048576)
    (grd (Nat.ble (Array.size (Array.extract b (dN (some (Int.fdiv at_ 8)) (Array.size b))
     (fE (some (Int.fdiv (at_+many+7) 8)) (Array.size b))))
  64)
   (grd (leB 0 (8*Int.fdiv (at_+many+7) 8 - at_ - many))
    (grd (leB 0 many&&leB many 4096&&okB 4096 1)
     (Q (V.d (D.ii (Builtin.bitAnd
      (Int.fdiv
       (df
        (Array.extract b (dN (some (Int.fdiv at_ 8)) (Array.size b))
         (fE (some (Int.fdiv (at_+many+7) 8)) (Array.size b))))
       (2 ^ Int.toNat (8*Int.fdiv (at_+many+7) 8 - at_ - many)))
      (1*2 ^ Int.toNat many - 1))))
  []))))))))):=by kernel_rfl
theorem bC (a b:Int):PyData.eqv (D.py (D.ii a)) (D.py (D.ii b))=decide (a=b):=by
 show (PyData.eqv (.int a) (.int b))=_
 unfold PyData.eqv
 rw [Bool.eq_iff_iff];simp
theorem gR (k:Nat):neB (2 ^ k) 0=true:=mz (Int.pow_pos (by decide))
theorem mu (k:Nat) (h:k<4096):okB 4096 (2 ^ k)=true:=by
 have:=jk (x:=2 ^ k) (k:=k+1) (n:=4096) (Nat.pow_lt_pow_right (by decide) (by omega)) (by omega)
 simpa using this
section
variable {w:World} {base:Heap} {n m:Nat}
theorem HR (W:Wd w base):aU w base 200 1 zf:=by
 refine bD W so0 false (Iv w) (Ji _) (GE _) 30 fun vs Z Q E q=>?_
 replace q:=aB q
 obtain ⟨zz,_,e1,e2,q⟩:=q;obtain ⟨b,_⟩:=zz
 obtain rfl:=(show vs=[.d (.ba b)] from e1);obtain rfl:=(show Z=[] from e2)
 dsimp only at q
 obtain ⟨c,q⟩:=ab.mp q
 have c2:=Nat.le_of_ble_eq_true c
 refine ⟨rfl,?_⟩
 rw [DE]
 refine gZ (fun k U Z=>Z=[]/\(U=[(Str.ofString "octets",.d (.ba b)),(Str.ofString "number",.d (.ii (wN (b.toList.take k):Int)))]\/∃ x,U=[(Str.ofString "octets",.d (.ba b)),(Str.ofString "number",.d (.ii (wN (b.toList.take k):Int))),(Str.ofString "octet",x)])) _ 0 (fun j v U Z K' hv hI hn=>?_) ⟨rfl,.inl rfl⟩ fun U' Z' hI=>?_
 · clear q;obtain ⟨rfl,hI⟩:=hI
   rw [Nat.zero_add] at hI hn
   rw [List.getElem?_map] at hv
   obtain ⟨u,hd,rfl⟩:=Option.map_eq_some_iff.mp hv
   have hj:j<64:=by
    have:=(List.getElem?_eq_some_iff.mp hd).1
    simp at this
    omega
   have hok:okB 4096 (wN (b.toList.take j):Int)=true:=by
    refine jk (k:=8*64) ?_ (by decide)
    refine Nat.lt_of_lt_of_le (yY _) ?_
    refine Nat.le_trans (Nat.pow_le_pow_right (by decide) (show _<=64 by rw [List.length_take];omega)) (by decide)
   have hs:Builtin.bitOr ((wN (b.toList.take j):Int)*2 ^ Int.toNat 8) (u.toNat:Int)=(wN (b.toList.take (j+1)):Int):=by
    have hu:u.toNat<256:=u.toNat_lt
    rw [l8 hd,<- vb _ _ hu]
    rw [show ((wN (b.toList.take j):Int)*2 ^ Int.toNat 8)=((wN (b.toList.take j)*2 ^ 8:Nat):Int) by push_cast;rfl]
    exact iI _ _
   rcases hI with rfl | ⟨x,rfl⟩
   · rw [AI]
     exact ad (ah (by decide) hok) (hn _ _ ⟨rfl,.inr ⟨_,by rw [hs]⟩⟩)
   · rw [AH]
     exact ad (ah (by decide) hok) (hn _ _ ⟨rfl,.inr ⟨_,by rw [hs]⟩⟩)
 · obtain ⟨rfl,hI⟩:=hI
   rw [Nat.zero_add,List.length_map,List.take_length] at hI
   rcases hI with rfl | ⟨x,rfl⟩
   · rw [Ch];exact q
   · rw [Cg];exact q
theorem E5 (W:Wd w base):aU w base 388 1 tQ:=by
 refine bD W so0 false (Ia w) (IX _) (Gm _) 30 fun vs Z Q E q=>?_
 replace q:=aB q
 obtain ⟨zz,_,e1,e2,q⟩:=q;obtain ⟨zy,f,m,_⟩:=zz;obtain ⟨g,b,bg,_⟩:=zy
 obtain rfl:=(show vs=[.d (.tu [.ii g,.ii b,.ii bg]),.d (.ii f),.d (.ii m)] from e1);obtain rfl:=(show Z=[] from e2)
 dsimp only at q
 obtain ⟨c,q⟩:=ab.mp q
 refine ⟨rfl,?_⟩
 rw [Dy]
 unfold iY at c
 simp only [Bool.and_eq_true] at c
 obtain ⟨c1,c2,c3,c4,c5,c6⟩:=c
 have c1:=ak.mp c1
 have c2:=ak.mp c2
 have c3:=ak.mp c3
 have c4:=ak.mp c4
 have c5:=ak.mp c5
 have c6:=ak.mp c6
 refine aO (fun h=>by rw [h] at q;exact q) fun h=>?_
 rw [h] at q
 replace q:cnd _ _ _:=q
 have h:=of_decide_eq_false h
 refine aO (fun h=>by rw [h] at q;exact q) fun h=>?_
 rw [h] at q
 replace q:Q _ _:=q
 have h:=of_decide_eq_false h
 exact ad (ah (ah (an (by omega)) (an (by omega))) (by decide)) (ad (ah (gR _) (mu _ (by omega))) (ad (ah (ah (an c5) (an (by omega))) (by decide)) (ad (gR _) q)))
theorem so1 (W:Wd w base):SOk w base 1 S1:=LOk.so (LOk.cons (HR W) (Ho _) LOk.nil)
theorem iM (x:Nat):Int.fdiv (x:Int) 8=((x / 8:Nat):Int):=by
 rw [Int.fdiv_eq_ediv_of_nonneg _ (by decide)];norm_cast
theorem lt8 {s p m:Nat}:8*(s:Int)<0+(p:Int)+(m:Int)↔8*s<p+m:=by rw [Int.zero_add];exact Int.ofNat_lt
theorem oJ {s n:Nat}:s<(n+7) / 8↔8*s<n:=by
 rw [Nat.lt_iff_add_one_le,Nat.le_div_iff_mul_le (by decide),Nat.mul_comm,Nat.mul_add]
 exact Nat.add_le_add_iff_right (n:=7)
theorem HQ (W:Wd w base):aU w base 207 2 ze:=by
 refine bD W (so1 W) false (Iu w) (Jh _) (GD _) 30 fun vs Z Q E q=>?_
 replace q:=aB q
 obtain ⟨zz,_,e1,e2,q⟩:=q;obtain ⟨b,p,m,_⟩:=zz
 obtain rfl:=(show vs=[.d (.ba b),.d (.ii p),.d (.ii m)] from e1);obtain rfl:=(show Z=[] from e2)
 dsimp only at q
 obtain ⟨c,q⟩:=ab.mp q
 refine ⟨rfl,?_⟩
 rw [DD]
 simp only [Bool.and_eq_true] at c
 obtain ⟨c1,c2,c3,c4,c5⟩:=c
 have c1:=Nat.le_of_ble_eq_true c1
 have c2:=ak.mp c2
 have c3:=ak.mp c3
 have c4:=ak.mp c4
 have c5:=ak.mp c5
 obtain ⟨p,rfl⟩:=Int.eq_ofNat_of_zero_le c2
 clear e1;obtain ⟨m,rfl⟩:=Int.eq_ofNat_of_zero_le c4
 have e1:Int.fdiv ((p:Int)+(m:Int)+7) 8=(((p+m+7) / 8:Nat):Int):=by
  rw [show ((p:Int)+(m:Int)+7)=((p+m+7:Nat):Int) by push_cast;rfl,iM]
 have e2:Int.fdiv (p:Int) 8=((p / 8:Nat):Int):=iM p
 rw [e1,e2]
 have fitN:∀ {k:Nat},k<=b.size->k<=1048576:=fun h=>Nat.le_trans h (Nat.le_trans c1 (by decide))
 refine ad (ao (Nat.le_trans c1 (by decide))) ?_
 refine aO (fun h=>?_) fun h=>?_
 · have h:=Int.ofNat_lt.mp (of_decide_eq_true h)
   rw [decide_eq_true (lt8.mpr (oJ.mp h))] at q
   exact q
 · have hle:=Nat.le_of_not_lt fun z=>of_decide_eq_false h (Int.ofNat_lt.mpr z)
   have hce:=zI (p+m)
   have hpe:p / 8<=(p+m+7) / 8:=Nat.div_le_div_right (Nat.le_add_right_of_le (Nat.le_add_right _ _))
   rw [decide_eq_false (fun z=>Nat.not_lt.mpr hle (oJ.mpr (lt8.mp z)))] at q
   replace q:Q _ _:=q
   have lo:dN (some ((p / 8:Nat):Int)) b.size=p / 8:=Nat.min_eq_left (Nat.le_trans hpe hle)
   have hi:fE (some (((p+m+7) / 8:Nat):Int)) b.size=(p+m+7) / 8:=Nat.min_eq_left hle
   rw [lo,hi]
   have fit:∀ k:Nat,k<=1048576->eF (some (k:Int))=true:=fun k hk=>show (leB 0 (k:Int)&&leB (k:Int) 1048576)=true from ah (an (Int.natCast_nonneg _)) (an (Int.ofNat_le.mpr hk))
   refine ad (ah (by decide) (jk (k:=20) (Nat.lt_of_le_of_lt (Nat.le_trans hle c1) (by decide)) (by decide))) ?_
   refine ad (ah (fit _ (fitN (Nat.le_trans hpe hle))) (fit _ (fitN hle))) ?_
   refine ad (ao (fitN (Nat.le_refl _))) ?_
   refine ad (ao (by rw [Array.size_extract];exact Nat.le_trans (Nat.sub_le _ _) (Nat.le_trans (Nat.min_le_right _ _) c1))) ?_
   refine ad (an (by rw [Int.sub_sub];exact Int.sub_nonneg_of_le (Int.ofNat_le.mpr hce))) ?_
   refine ad (ah (ah (an c4) (an (Int.le_trans c5 (by decide)))) (by decide)) ?_
   have hx:Builtin.bitAnd (Int.fdiv (df (b.extract (p / 8) ((p+m+7) / 8))) (2 ^ Int.toNat (8*(((p+m+7) / 8:Nat):Int) - p - m))) (1*2 ^ Int.toNat (m:Int) - 1)=fB (df b) (8*(b.size:Int)) 0 p m:=by
    have e3:Int.toNat (8*(((p+m+7) / 8:Nat):Int) - p - m)=8*((p+m+7) / 8) - p - m:=by rw [Int.sub_sub,Nat.sub_sub];exact Int.toNat_sub _ _
    have e4:Int.toNat (8*(b.size:Int) - (0+(p:Int)+(m:Int)))=8*b.size - (p+m):=by rw [Int.zero_add];exact Int.toNat_sub _ _
    unfold fB df
    rw [e3,e4,Int.toNat_natCast,Int.one_mul]
    have p2:∀ k:Nat,(2:Int) ^ k=((2 ^ k:Nat):Int):=fun k=>by push_cast;rfl
    have hm1:((2 ^ m:Nat):Int) - 1=((2 ^ m - 1:Nat):Int):=(Int.ofNat_sub (Nat.two_pow_pos m)).symm
    rw [p2,p2,p2,hm1,Int.fdiv_eq_ediv_of_nonneg _ (Int.natCast_nonneg _),Int.fdiv_eq_ediv_of_nonneg _ (Int.natCast_nonneg _),Int.fmod_eq_emod_of_nonneg _ (Int.natCast_nonneg _)]
    rw [<- Int.natCast_ediv,<- Int.natCast_ediv,<- Int.natCast_emod,bI,dH]
    rw [Array.toList_extract,List.extract_eq_take_drop]
    have:=rV b.toList p m (by simpa using hle)
    rw [Array.length_toList] at this
    rw [this]
   rw [hx]
   exact q
end
end Mine
namespace Mine
open PySem PySem.W PyProof.Rows PySem.SeqAt
noncomputable def AV (s:Stmt):Expr:=(stP s).1
noncomputable def zr (e:Expr):Expr:=match vw e with
 | .lc a _ _ _=>a
 | _=>e
noncomputable def x6 (e:Expr):aC:=match vw e with
 | .lc _ _ s _=>s.names
 | _=>[]
noncomputable def sj (seed:Int) (k:Nat):Int:=Int.fmod ((k:Int)*(k:Int)+3*(k:Int)+Int.fdiv seed (2 ^ Int.toNat (Int.fmod (k:Int) 16))) 256
noncomputable def mw (seed:Int) (n:Nat):List D:=(List.range n).map fun k=>.ii (sj seed k)
noncomputable def y4  : au:=mkS (pC (pD pI) (pC (pD pI) pN)) pN fun (seed,many,_) _ Q E=>grd (leB 0 many&&leB many 64) (Q (.ref 0) [.oc (.li (mw seed many.toNat))])
noncomputable abbrev yT (P:Params):=em (ac P 454) (x6 (AV (ai (ae P 454) 0)))
theorem Ff (P:Params) (seed k:Int) (Q:QV):(evN S0 28).ev (yT P) (zr (AV (ai (ae P 454) 0))) [("seed",.d (.ii seed)),("k",.d (.ii k))] [] Q (fun _ _=>False)=
 (grd (okB 4096 k&&okB 4096 k) (grd (okB 4096 3&&okB 4096 k) (grd (leB 0 (Int.fmod k 16)&&leB (Int.fmod k 16) 4096&&okB 64 2)
  (grd (neB (2 ^ Int.toNat (Int.fmod k 16)) 0&&okB 4096 (2 ^ Int.toNat (Int.fmod k 16)))
   (Q (V.d (D.ii (Int.fmod (k*k+3*k+Int.fdiv seed (2 ^ Int.toNat (Int.fmod k 16))) 256))) []))))):=by kernel_rfl
theorem Dt (P:Params) (seed many:Int) (Q:QV) (E:QE):vcf S0 30 P 454 uk true [.d (.ii seed),.d (.ii many)] [] Q E=
 grd (leB many 1048576) (match bS (.rng 0 many) with
  | some items=>grd (de items&&Nat.ble items.length 1048576) (jd ((evN S0 28).te (yT P)) ((evN S0 28).ev (yT P)) [] (zr (AV (ai (ae P 454) 0))) [("seed",.d (.ii seed))] "k" items [] fun l=>Q (.ref 0) [.oc (.li l)])
  | none=>False):=by kernel_rfl
theorem sm {n:Nat} (h:n<=1048576):bS (.rng 0 (n:Int))=some ((List.range n).map fun (i:Nat)=>.d (.ii (i:Int))):=by
 have hr:iQ 0 (n:Int)=true:=by
  unfold iQ
  exact ah (ah (ah (by decide) (by decide)) (an (by omega))) (an (by omega))
 show (match iQ 0 (n:Int) with | true=>some ((List.range ((n:Int) - 0).toNat).map fun (i:Nat)=>V.d (.ii (0+(i:Int)))) | false=>none)=_
 rw [hr]
 simp
theorem lW {α:Type} (f:α->D):∀ l:List α,de (l.map fun x=>.d (f x))=true
 | []=>rfl
 | _::r=>lW f r
noncomputable def y7  : au:=mkS (pC (pD pA) (pC (pD pI) (pC (pD pI) (pC (pD pI) (pC (pD pI) pN))))) pN fun (e,n,way,b,size,_) _ Q E=>grd (leB 0 b&&(leB b 200&&(leB 0 size&&(leB size 20&&(leB 0 n&&ltB n (2 ^ 400))))))
 (cnd (decide (way=0)) (Q (.d (.tu [.tu [.ss "shr",e,.ii b],.ii (Int.fdiv n (2 ^ b.toNat))])) [])
 (cnd (decide (way=1)) (Q (.d (.tu [.tu [.ss "mask",e,.ii (31*2 ^ b.toNat)],.ii (Int.fmod (Int.fdiv n (2 ^ b.toNat)) 32*2 ^ b.toNat)])) [])
 (cnd (decide (way=2)) (Q (.d (.tu [.tu [.ss "shl",e,.ii b],.ii (Int.fmod (n*2 ^ b.toNat) (2 ^ (8*size).toNat))])) [])
 (cnd (decide (way=3)) (Q (.d (.tu [.tu [.ss "or",e,.ii (2 ^ b.toNat - 1)],.ii (Int.fmod (Int.fdiv n (2 ^ b.toNat)*2 ^ b.toNat+2 ^ b.toNat - 1) (2 ^ (8*size).toNat))])) [])
 (Q (.d (.tu [.tu [.ss "xor",e,.ii (2 ^ (8*size).toNat - 1)],.ii (2 ^ (8*size).toNat - 1 - n)])) [])))))
theorem Dx (P:Params) (e:D) (n way by_ size:Int) (Q:QV) (E:QE):vcf S0 30 P 409 uq false [.d e,.d (.ii n),.d (.ii way),.d (.ii by_),.d (.ii size)] [] Q E=
(grd (okB 4096 8&&okB 4096 size)
(grd (leB 0 (8*size)&&leB (8*size) 4096&&okB 64 2)
 (cnd (PyData.eqv (D.py (D.ii way)) (D.py (D.ii 0)))
  (grd (leB 0 by_&&leB by_ 4096&&okB 64 2)
   (grd (neB (2 ^ Int.toNat by_) 0&&okB 4096 (2 ^ Int.toNat by_))
    (Q (V.d (D.tu [D.tu [D.ss "shr",e,D.ii by_],D.ii (Int.fdiv n (2 ^ Int.toNat by_))])) [])))
  (cnd (PyData.eqv (D.py (D.ii way)) (D.py (D.ii 1)))
   (grd (leB 0 by_&&leB by_ 4096&&okB 64 2)
    (grd (okB 4096 31&&okB 4096 (2 ^ Int.toNat by_))
     (grd (leB 0 by_&&leB by_ 4096&&okB 64 2)
      (grd (neB (2 ^ Int.toNat by_) 0&&okB 4096 (2 ^ Int.toNat by_))
       (grd (leB 0 by_&&leB by_ 4096&&okB 64 2)
        (grd (okB 4096 (Int.fmod (Int.fdiv n (2 ^ Int.toNat by_)) 32)&&okB 4096 (2 ^ Int.toNat by_))
         (Q (V.d (D.tu [D.tu [D.ss "mask",e,D.ii (31*2 ^ Int.toNat by_)],D.ii (Int.fmod (Int.fdiv n (2 ^ Int.toNat by_)) 32*2 ^ Int.toNat by_)])) [])))))))
   (cnd (PyData.eqv (D.py (D.ii way)) (D.py (D.ii 2)))
    (grd (leB 0 by_&&leB by_ 4096&&okB 64 2)
     (grd (okB 4096 n&&okB 4096 (2 ^ Int.toNat by_))
      (grd (neB (2 ^ Int.toNat (8*size)) 0)
       (Q (V.d (D.tu [D.tu [D.ss "shl",e,D.ii by_],
        D.ii (Int.fmod (n*2 ^ Int.toNat by_) (2 ^ Int.toNat (8*size)))]))
  []))))
   (cnd (PyData.eqv (D.py (D.ii way)) (D.py (D.ii 3)))
    (grd (leB 0 by_&&leB by_ 4096&&okB 64 2)
     (grd (leB 0 by_&&leB by_ 4096&&okB 64 2)
      (grd (neB (2 ^ Int.toNat by_) 0&&okB 4096 (2 ^ Int.toNat by_))
       (grd (leB 0 by_&&leB by_ 4096&&okB 64 2)
        (grd (okB 4096 (Int.fdiv n (2 ^ Int.toNat by_))&&okB 4096 (2 ^ Int.toNat by_))
         (grd (leB 0 by_&&leB by_ 4096&&okB 64 2)
          (grd (neB (2 ^ Int.toNat (8*size)) 0)
           (Q (V.d (D.tu [D.tu [D.ss "or",e,D.ii (2 ^ Int.toNat by_ - 1)],D.ii (Int.fmod (Int.fdiv n (2 ^ Int.toNat by_)*2 ^ Int.toNat by_+2 ^ Int.toNat by_ - 1) (2 ^ Int.toNat (8*size)))])) []))))))))
    (Q (V.d (D.tu
     [D.tu [D.ss "xor",e,D.ii (2 ^ Int.toNat (8*size) - 1)],
      D.ii (2 ^ Int.toNat (8*size) - 1 - n)]))
  []))))))):=by kernel_rfl
section
variable {w:World} {base:Heap} {n m:Nat}
theorem HE (W:Wd w base):aU w base 454 1 y4:=by
 refine pW W so0 true (HY w) (IN _) 30 fun vs Z Q E q=>?_
 replace q:=aB q
 obtain ⟨zz,_,e1,e2,q⟩:=q;obtain ⟨seed,many,_⟩:=zz
 obtain rfl:=(show vs=[.d (.ii seed),.d (.ii many)] from e1);obtain rfl:=(show Z=[] from e2)
 dsimp only at q
 obtain ⟨c,q⟩:=ab.mp q
 refine ⟨rfl,?_⟩
 rw [Dt]
 rw [Bool.and_eq_true] at c
 have c1:=ak.mp c.1
 have c2:=ak.mp c.2
 clear c e1;obtain ⟨k,rfl⟩:=Int.eq_ofNat_of_zero_le c1
 refine ad (an (by omega)) ?_
 rw [sm (by omega)]
 refine ad (ah (lW (fun i:Nat=>D.ii (i:Int)) _) (ao (by rw [List.length_map,List.length_range];omega))) ?_
 refine oF (fun v=>match v with | .d (.ii i)=>.ii (sj seed i.toNat) | _=>.nn) _ (fun v hv Q' hq=>?_) ?_
 · clear q;obtain ⟨i,hi,rfl⟩:=List.mem_map.mp hv
   have hi':=List.mem_range.mp hi
   show (evN S0 28).ev (yT w.params) _ [("seed",.d (.ii seed)),("k",.d (.ii (i:Int)))] [] _ _
   rw [Ff]
   have a1:okB 4096 (i:Int)=true:=jk (k:=10) (by omega) (by decide)
   have e:Int.fmod (i:Int) 16=((i % 16:Nat):Int):=by rw [Int.fmod_eq_emod_of_nonneg _ (by decide)];norm_cast
   refine ad (ah a1 a1) (ad (ah (by decide) a1) ?_)
   rw [e,Int.toNat_natCast]
   refine ad (ah (ah (an (by omega)) (an (by omega))) (by decide)) (ad (ah (gR _) (mu _ (by omega))) ?_)
   have:D.ii (sj seed (Int.toNat (i:Int)))=D.ii (Int.fmod ((i:Int)*i+3*i+Int.fdiv seed (2 ^ (i % 16))) 256):=by
    unfold sj
    rw [Int.toNat_natCast,e,Int.toNat_natCast]
   simp only at hq
   rw [this] at hq
   exact hq
 · rw [List.nil_append,List.map_map]
   have:(List.range k).map ((fun v=>match v with | V.d (D.ii i)=>D.ii (sj seed i.toNat) | _=>D.nn)∘fun (i:Nat)=>V.d (D.ii (i:Int)))=mw seed (Int.toNat (k:Int)):=by
    unfold mw
    rw [Int.toNat_natCast]
    refine List.map_congr_left fun i _=>?_
    simp
   rw [this]
   exact q
theorem HI (W:Wd w base):aU w base 409 1 y7:=by
 exists w,base,_ W
 refine bD W so0 false (H7 w) (IU _) (Gj _) 30 fun vs Z Q E q=>?_;exists vs,Z,Q,E,_ q
 replace q:=aB q
 obtain ⟨zz,_,e1,e2,q⟩:=q;obtain ⟨e,n,way,b,size,_⟩:=zz
 obtain rfl:=(show vs=[.d e,.d (.ii n),.d (.ii way),.d (.ii b),.d (.ii size)] from e1);obtain rfl:=(show Z=[] from e2)
 dsimp only at q
 obtain ⟨c,q⟩:=ab.mp q
 refine ⟨rfl,?_⟩
 rw [Dx]
 simp only [Bool.and_eq_true] at c
 obtain ⟨c1,c2,c3,c4,c5,c6⟩:=c
 have b1:=ak.mp c1
 have b2:=ak.mp c2
 have b3:=ak.mp c3
 have b4:=ak.mp c4
 have b5:=ak.mp c5
 have hnb:=cH.mp c6
 have nk:∀ x:Int,0<=x->x<2 ^ 400->okB 4096 x=true:=fun x h0 hx=>bP 400 (by
  have:(x.natAbs:Int)<((2 ^ 400:Nat):Int):=by rw [Int.natAbs_of_nonneg h0];push_cast;exact hx
  exact_mod_cast this) (by decide)
 have s1:okB 4096 size=true:=bP 20 (by omega) (by decide)
 have hb:leB 0 b&&leB b 4096&&okB 64 2:=ah (ah c1 (an (by omega))) (by decide)
 have hp:okB 4096 (2 ^ Int.toNat b)=true:=mu _ (by omega)
 have hN:neB (2 ^ Int.toNat b) 0&&okB 4096 (2 ^ Int.toNat b):=ah (gR _) hp
 have hF:neB (2 ^ Int.toNat (8*size)) 0=true:=gR _
 have hn:okB 4096 n=true:=nk n b5 hnb
 have hq0:0<=Int.fdiv n (2 ^ Int.toNat b)/\Int.fdiv n (2 ^ Int.toNat b)<=n:=by
  rw [Int.fdiv_eq_ediv_of_nonneg _ (Int.le_of_lt (Int.pow_pos (by decide)))]
  exact ⟨Int.ediv_nonneg b5 (Int.le_of_lt (Int.pow_pos (by decide))),Int.ediv_le_self _ b5⟩
 have hdv:okB 4096 (Int.fdiv n (2 ^ Int.toNat b))=true:=nk _ hq0.1 (Int.lt_of_le_of_lt hq0.2 hnb)
 have hm32:okB 4096 (Int.fmod (Int.fdiv n (2 ^ Int.toNat b)) 32)=true:=bP 5 (by
  have h1:=Int.fmod_nonneg_of_pos (Int.fdiv n (2 ^ Int.toNat b)) (b:=32) (by decide)
  have h2:=Int.fmod_lt_of_pos (Int.fdiv n (2 ^ Int.toNat b)) (b:=32) (by decide)
  omega (config:={})) (by decide)
 refine ad (ah (by decide) s1) (ad (ah (ah (an (by omega)) (an (by omega))) (by decide)) ?_)
 rw [bC,bC,bC,bC]
 refine aO (fun h=>?_) fun h=>?_
 · rw [h] at q;exact ad hb (ad hN q)
 rw [h] at q;replace q:=aG q
 refine aO (fun h=>?_) fun h=>?_
 · rw [h] at q;exact ad hb (ad (ah (by decide) hp) (ad hb (ad hN (ad hb (ad (ah hm32 hp) q)))))
 rw [h] at q;replace q:=aG q
 refine aO (fun h=>?_) fun h=>?_
 · rw [h] at q;exact ad hb (ad (ah hn hp) (ad hF q))
 rw [h] at q;replace q:=aG q
 refine aO (fun h=>?_) fun h=>?_
 · rw [h] at q;exact ad hb (ad hb (ad hN (ad hb (ad (ah hdv hp) (ad hb (ad hF q))))))
 rw [h] at q;exact aG q
end
end Mine
namespace Mine
open PySem PySem.W PyProof.Rows PySem.SeqAt
noncomputable def FLD:List (Str×D):=[(Str.ofString "ether daddr",.tu [.ss "payload",.ss "ether_addr",.ii 48,.ss "big",.tu [.ss "ether",.ss "link",.ii 0]]),
 (Str.ofString "ether saddr",.tu [.ss "payload",.ss "ether_addr",.ii 48,.ss "big",.tu [.ss "ether",.ss "link",.ii 48]]),
 (Str.ofString "ether type",.tu [.ss "payload",.ss "ether_type",.ii 16,.ss "big",.tu [.ss "ether",.ss "link",.ii 96]]),
 (Str.ofString "vlan pcp",.tu [.ss "payload",.ss "integer",.ii 3,.ss "big",.tu [.ss "vlan",.ss "link",.ii 112]]),
 (Str.ofString "vlan dei",.tu [.ss "payload",.ss "integer",.ii 1,.ss "big",.tu [.ss "vlan",.ss "link",.ii 115]]),
 (Str.ofString "vlan id",.tu [.ss "payload",.ss "integer",.ii 12,.ss "big",.tu [.ss "vlan",.ss "link",.ii 116]]),
 (Str.ofString "vlan type",.tu [.ss "payload",.ss "ether_type",.ii 16,.ss "big",.tu [.ss "vlan",.ss "link",.ii 128]]),
 (Str.ofString "arp htype",.tu [.ss "payload",.ss "integer",.ii 16,.ss "big",.tu [.ss "arp",.ss "network",.ii 0]]),
 (Str.ofString "arp ptype",.tu [.ss "payload",.ss "ether_type",.ii 16,.ss "big",.tu [.ss "arp",.ss "network",.ii 16]]),
 (Str.ofString "arp hlen",.tu [.ss "payload",.ss "integer",.ii 8,.ss "big",.tu [.ss "arp",.ss "network",.ii 32]]),
 (Str.ofString "arp plen",.tu [.ss "payload",.ss "integer",.ii 8,.ss "big",.tu [.ss "arp",.ss "network",.ii 40]]),
 (Str.ofString "arp operation",.tu [.ss "payload",.ss "arp_op",.ii 16,.ss "big",.tu [.ss "arp",.ss "network",.ii 48]]),
 (Str.ofString "arp saddr ether",.tu [.ss "payload",.ss "ether_addr",.ii 48,.ss "big",.tu [.ss "arp",.ss "network",.ii 64]]),
 (Str.ofString "arp saddr ip",.tu [.ss "payload",.ss "ipv4_addr",.ii 32,.ss "big",.tu [.ss "arp",.ss "network",.ii 112]]),
 (Str.ofString "arp daddr ether",.tu [.ss "payload",.ss "ether_addr",.ii 48,.ss "big",.tu [.ss "arp",.ss "network",.ii 144]]),
 (Str.ofString "arp daddr ip",.tu [.ss "payload",.ss "ipv4_addr",.ii 32,.ss "big",.tu [.ss "arp",.ss "network",.ii 192]]),
 (Str.ofString "ip version",.tu [.ss "payload",.ss "integer",.ii 4,.ss "big",.tu [.ss "ip",.ss "network",.ii 0]]),
 (Str.ofString "ip hdrlength",.tu [.ss "payload",.ss "integer",.ii 4,.ss "big",.tu [.ss "ip",.ss "network",.ii 4]]),
 (Str.ofString "ip dscp",.tu [.ss "payload",.ss "dscp",.ii 6,.ss "big",.tu [.ss "ip",.ss "network",.ii 8]]),
 (Str.ofString "ip ecn",.tu [.ss "payload",.ss "ecn",.ii 2,.ss "big",.tu [.ss "ip",.ss "network",.ii 14]]),
 (Str.ofString "ip length",.tu [.ss "payload",.ss "integer",.ii 16,.ss "big",.tu [.ss "ip",.ss "network",.ii 16]]),
 (Str.ofString "ip id",.tu [.ss "payload",.ss "integer",.ii 16,.ss "big",.tu [.ss "ip",.ss "network",.ii 32]]),
 (Str.ofString "ip frag-off",.tu [.ss "payload",.ss "integer",.ii 16,.ss "big",.tu [.ss "ip",.ss "network",.ii 48]]),
 (Str.ofString "ip ttl",.tu [.ss "payload",.ss "integer",.ii 8,.ss "big",.tu [.ss "ip",.ss "network",.ii 64]]),
 (Str.ofString "ip protocol",.tu [.ss "payload",.ss "inet_proto",.ii 8,.ss "big",.tu [.ss "ip",.ss "network",.ii 72]]),
 (Str.ofString "ip checksum",.tu [.ss "payload",.ss "integer",.ii 16,.ss "big",.tu [.ss "ip",.ss "network",.ii 80]]),
 (Str.ofString "ip saddr",.tu [.ss "payload",.ss "ipv4_addr",.ii 32,.ss "big",.tu [.ss "ip",.ss "network",.ii 96]]),
 (Str.ofString "ip daddr",.tu [.ss "payload",.ss "ipv4_addr",.ii 32,.ss "big",.tu [.ss "ip",.ss "network",.ii 128]]),
 (Str.ofString "ip6 version",.tu [.ss "payload",.ss "integer",.ii 4,.ss "big",.tu [.ss "ip6",.ss "network",.ii 0]]),
 (Str.ofString "ip6 dscp",.tu [.ss "payload",.ss "dscp",.ii 6,.ss "big",.tu [.ss "ip6",.ss "network",.ii 4]]),
 (Str.ofString "ip6 ecn",.tu [.ss "payload",.ss "ecn",.ii 2,.ss "big",.tu [.ss "ip6",.ss "network",.ii 10]]),
 (Str.ofString "ip6 flowlabel",.tu [.ss "payload",.ss "integer",.ii 20,.ss "big",.tu [.ss "ip6",.ss "network",.ii 12]]),
 (Str.ofString "ip6 length",.tu [.ss "payload",.ss "integer",.ii 16,.ss "big",.tu [.ss "ip6",.ss "network",.ii 32]]),
 (Str.ofString "ip6 nexthdr",.tu [.ss "payload",.ss "inet_proto",.ii 8,.ss "big",.tu [.ss "ip6",.ss "network",.ii 48]]),
 (Str.ofString "ip6 hoplimit",.tu [.ss "payload",.ss "integer",.ii 8,.ss "big",.tu [.ss "ip6",.ss "network",.ii 56]]),
 (Str.ofString "ip6 saddr",.tu [.ss "payload",.ss "ipv6_addr",.ii 128,.ss "big",.tu [.ss "ip6",.ss "network",.ii 64]]),
 (Str.ofString "ip6 daddr",.tu [.ss "payload",.ss "ipv6_addr",.ii 128,.ss "big",.tu [.ss "ip6",.ss "network",.ii 192]]),
 (Str.ofString "tcp sport",.tu [.ss "payload",.ss "inet_service",.ii 16,.ss "big",.tu [.ss "tcp",.ss "transport",.ii 0]]),
 (Str.ofString "tcp dport",.tu [.ss "payload",.ss "inet_service",.ii 16,.ss "big",.tu [.ss "tcp",.ss "transport",.ii 16]]),
 (Str.ofString "tcp sequence",.tu [.ss "payload",.ss "integer",.ii 32,.ss "big",.tu [.ss "tcp",.ss "transport",.ii 32]]),
 (Str.ofString "tcp ackseq",.tu [.ss "payload",.ss "integer",.ii 32,.ss "big",.tu [.ss "tcp",.ss "transport",.ii 64]]),
 (Str.ofString "tcp doff",.tu [.ss "payload",.ss "integer",.ii 4,.ss "big",.tu [.ss "tcp",.ss "transport",.ii 96]]),
 (Str.ofString "tcp reserved",.tu [.ss "payload",.ss "integer",.ii 4,.ss "big",.tu [.ss "tcp",.ss "transport",.ii 100]]),
 (Str.ofString "tcp flags",.tu [.ss "payload",.ss "tcp_flag",.ii 8,.ss "big",.tu [.ss "tcp",.ss "transport",.ii 104]]),
 (Str.ofString "tcp window",.tu [.ss "payload",.ss "integer",.ii 16,.ss "big",.tu [.ss "tcp",.ss "transport",.ii 112]]),
 (Str.ofString "tcp checksum",.tu [.ss "payload",.ss "integer",.ii 16,.ss "big",.tu [.ss "tcp",.ss "transport",.ii 128]]),
 (Str.ofString "tcp urgptr",.tu [.ss "payload",.ss "integer",.ii 16,.ss "big",.tu [.ss "tcp",.ss "transport",.ii 144]]),
 (Str.ofString "udp sport",.tu [.ss "payload",.ss "inet_service",.ii 16,.ss "big",.tu [.ss "udp",.ss "transport",.ii 0]]),
 (Str.ofString "udp dport",.tu [.ss "payload",.ss "inet_service",.ii 16,.ss "big",.tu [.ss "udp",.ss "transport",.ii 16]]),
 (Str.ofString "udp length",.tu [.ss "payload",.ss "integer",.ii 16,.ss "big",.tu [.ss "udp",.ss "transport",.ii 32]]),
 (Str.ofString "udp checksum",.tu [.ss "payload",.ss "integer",.ii 16,.ss "big",.tu [.ss "udp",.ss "transport",.ii 48]]),
 (Str.ofString "th sport",.tu [.ss "payload",.ss "inet_service",.ii 16,.ss "big",.tu [.ss "th",.ss "transport",.ii 0]]),
 (Str.ofString "th dport",.tu [.ss "payload",.ss "inet_service",.ii 16,.ss "big",.tu [.ss "th",.ss "transport",.ii 16]]),
 (Str.ofString "icmp type",.tu [.ss "payload",.ss "icmp_type",.ii 8,.ss "big",.tu [.ss "icmp",.ss "transport",.ii 0]]),
 (Str.ofString "icmp code",.tu [.ss "payload",.ss "icmp_code",.ii 8,.ss "big",.tu [.ss "icmp",.ss "transport",.ii 8]]),
 (Str.ofString "icmp checksum",.tu [.ss "payload",.ss "integer",.ii 16,.ss "big",.tu [.ss "icmp",.ss "transport",.ii 16]]),
 (Str.ofString "icmp id",.tu [.ss "payload",.ss "integer",.ii 16,.ss "big",.tu [.ss "icmp",.ss "transport",.ii 32]]),
 (Str.ofString "icmp sequence",.tu [.ss "payload",.ss "integer",.ii 16,.ss "big",.tu [.ss "icmp",.ss "transport",.ii 48]]),
 (Str.ofString "icmp gateway",.tu [.ss "payload",.ss "ipv4_addr",.ii 32,.ss "big",.tu [.ss "icmp",.ss "transport",.ii 32]]),
 (Str.ofString "icmp mtu",.tu [.ss "payload",.ss "integer",.ii 16,.ss "big",.tu [.ss "icmp",.ss "transport",.ii 48]]),
 (Str.ofString "icmpv6 type",.tu [.ss "payload",.ss "icmpv6_type",.ii 8,.ss "big",.tu [.ss "icmpv6",.ss "transport",.ii 0]]),
 (Str.ofString "icmpv6 code",.tu [.ss "payload",.ss "icmpv6_code",.ii 8,.ss "big",.tu [.ss "icmpv6",.ss "transport",.ii 8]]),
 (Str.ofString "icmpv6 checksum",.tu [.ss "payload",.ss "integer",.ii 16,.ss "big",.tu [.ss "icmpv6",.ss "transport",.ii 16]]),
 (Str.ofString "icmpv6 id",.tu [.ss "payload",.ss "integer",.ii 16,.ss "big",.tu [.ss "icmpv6",.ss "transport",.ii 32]]),
 (Str.ofString "icmpv6 sequence",.tu [.ss "payload",.ss "integer",.ii 16,.ss "big",.tu [.ss "icmpv6",.ss "transport",.ii 48]]),
 (Str.ofString "icmpv6 mtu",.tu [.ss "payload",.ss "integer",.ii 32,.ss "big",.tu [.ss "icmpv6",.ss "transport",.ii 32]]),
 (Str.ofString "meta length",.tu [.ss "meta",.ss "integer",.ii 32,.ss "host",.ss "length"]),
 (Str.ofString "meta protocol",.tu [.ss "meta",.ss "ether_type",.ii 16,.ss "big",.ss "protocol"]),
 (Str.ofString "meta nfproto",.tu [.ss "meta",.ss "nf_proto",.ii 8,.ss "big",.ss "nfproto"]),
 (Str.ofString "meta l4proto",.tu [.ss "meta",.ss "inet_proto",.ii 8,.ss "big",.ss "l4proto"]),
 (Str.ofString "meta mark",.tu [.ss "meta",.ss "mark",.ii 32,.ss "host",.ss "mark"]),
 (Str.ofString "meta priority",.tu [.ss "meta",.ss "integer",.ii 32,.ss "host",.ss "priority"]),
 (Str.ofString "meta iif",.tu [.ss "meta",.ss "iface_index",.ii 32,.ss "host",.ss "iif"]),
 (Str.ofString "meta oif",.tu [.ss "meta",.ss "iface_index",.ii 32,.ss "host",.ss "oif"]),
 (Str.ofString "meta iifname",.tu [.ss "meta",.ss "ifname",.ii 128,.ss "big",.ss "iifname"]),
 (Str.ofString "meta oifname",.tu [.ss "meta",.ss "ifname",.ii 128,.ss "big",.ss "oifname"]),
 (Str.ofString "meta iiftype",.tu [.ss "meta",.ss "integer",.ii 16,.ss "host",.ss "iiftype"]),
 (Str.ofString "meta oiftype",.tu [.ss "meta",.ss "integer",.ii 16,.ss "host",.ss "oiftype"]),
 (Str.ofString "meta pkttype",.tu [.ss "meta",.ss "pkt_type",.ii 8,.ss "big",.ss "pkttype"])]
noncomputable def LA1 (P:Params):List (Addr×au):=[(53,inl S0 30 P 53 Bl true)]
noncomputable def SA1 (P:Params):Tab:=aZ (LA1 P)
noncomputable def LA2 (P:Params):List (Addr×au):=[(60,inl (SA1 P) 30 P 60 Bk true),(67,inl (SA1 P) 30 P 67 Bj true),(74,inl (SA1 P) 30 P 74 Bi true),(81,inl (SA1 P) 30 P 81 Bh true),(88,inl (SA1 P) 30 P 88 Bg true),(95,inl (SA1 P) 30 P 95 Bf true),(102,inl (SA1 P) 30 P 102 uS true),(109,inl S0 30 P 109 uR true)]
noncomputable def SA2 (P:Params):Tab:=aZ (LA2 P)
noncomputable def y5  : au:=mkS pN pN fun _ _ Q E=>Q (.d (.di FLD)) []
theorem Du (P:Params) (Q:QV) (E:QE):vcf (SA2 P) 30 P 449 ul false [] [] Q E=Q (.d (.di FLD)) []:=by kernel_rfl
section
variable {w:World} {base:Heap} {n m:Nat}
theorem lA1 (W:Wd w base):LOk w base 1 (LA1 w.params):=LOk.cons (aS W so0 true (d53 w) (c53 _) (l53 _) 30) (k53 _) LOk.nil
theorem lA2 (W:Wd w base):LOk w base 2 (LA2 w.params):=by
 have S:=LOk.so (fz:=fun _=>[]) (fg:=fun _=>[]) (lA1 W)
 refine LOk.cons (aS W S true (d60 w) (c60 _) (l60 _) 30) (k60 _) (LOk.cons (aS W S true (d67 w) (c67 _) (l67 _) 30) (k67 _) (LOk.cons (aS W S true (d74 w) (c74 _) (l74 _) 30) (k74 _) (LOk.cons (aS W S true (d81 w) (c81 _) (l81 _) 30) (k81 _)
  (LOk.cons (aS W S true (d88 w) (c88 _) (l88 _) 30) (k88 _) (LOk.cons (aS W S true (d95 w) (c95 _) (l95 _) 30) (k95 _) (LOk.cons (aS W S true (IH w) (Ju _) (GQ _) 30) (Hu _) (LOk.cons ((aS W so0 true (IG w) (Jt _) (GP _) 30:aU w base 109 (0+1) _).mono (by decide)) (Ht _) LOk.nil)))))))
theorem HF (W:Wd w base):aU w base 449 3 y5:=by
 refine bD W (LOk.so (fz:=fun _=>[]) (fg:=fun _=>[]) (lA2 W)) false (HZ w) (IO _) (Ge _) 30 fun vs Z Q E q=>?_
 replace q:=aB q
 obtain ⟨_,_,e1,e2,q⟩:=q
 obtain rfl:=(show vs=[] from e1);obtain rfl:=(show Z=[] from e2)
 try dsimp only at q
 refine ⟨rfl,?_⟩
 have:=Du w.params Q E
 unfold SA2 at this
 rw [this];exact q
end
end Mine
namespace Mine
open PySem PySem.W PyProof.Rows PySem.SeqAt
variable (P:Params)
inductive Und where
 | pay (ty:Str) (bits:Int) (proto bse:Str) (first:Int)
 | met (ty:Str) (bits:Int) (ord key:Str)
 | unk (nm:Str)
 | hsh
 | oth (t:Str)
 | bad
noncomputable def onU (u:Und) (p:Str->Int->Str->Str->Int->Prop) (m:Str->Int->Str->Str->Prop) (n:Str->Prop) (h:Prop) (o:Str->Prop) (b:Prop):Prop:=match u with
 | .pay ty bits proto bse first=>p ty bits proto bse first
 | .met ty bits ord key=>m ty bits ord key
 | .unk nm=>n nm
 | .hsh=>h
 | .oth t=>o t
 | .bad=>b
noncomputable def onO (x:Option D) (f:D->Prop) (n:Prop):Prop:=match x with
 | some d=>f d
 | none=>n
noncomputable def qx:List Str:=["mask","or","xor","shl","shr"]
noncomputable def eN (t:Str):Bool:=qx.any fun y=>decide (t=y)
noncomputable def Bo (ty:Str) (bits:Int) (pr b:Str) (f:Int):D:=.tu [.ss "payload",.ss ty,.ii bits,.ss "big",.tu [.ss pr,.ss b,.ii f]]
noncomputable def Bx (ty:Str) (bits:Int) (ord key:Str):D:=.tu [.ss "meta",.ss ty,.ii bits,.ss ord,.ss key]
noncomputable def Bp:Pat D (Str×Str×Int×Str×D×Unit):=pT (pC pS (pC pS (pC pI (pC pS (pC pA pN)))))
noncomputable def pTo:Pat D (Str×Str×Int×Unit):=pT (pC pS (pC pS (pC pI pN)))
noncomputable def HA (ty:Str) (bits:Int):Option (Str×Str×Int×Unit)->Und
 | some y=>.pay ty bits y.1 y.2.1 y.2.2.1
 | none=>.bad
noncomputable def HB (ty:Str) (bits:Int) (ord:Str):Option Str->Und
 | some k=>.met ty bits ord k
 | none=>.bad
noncomputable def BS (c ty:Str) (bits:Int) (ord:Str) (last:D):Und:=cond (decide (c="payload")) (cond (decide (ord="big")) (HA ty bits (pTo.m last)) .bad) (cond (decide (c="meta")) (HB ty bits ord (ssD last)) .bad)
noncomputable def kQ (d:D):Und:=match Bp.m d with
 | some x=>BS x.1 x.2.1 x.2.2.1 x.2.2.2.1 x.2.2.2.2.1
 | none=>.bad
noncomputable def FuR (d:D):Und->Prop
 | .pay ty bits pr b f=>d=Bo ty bits pr b f
 | .met ty bits ord key=>d=Bx ty bits ord key
 | .bad=>True
 | _=>False
theorem BR {c ty:Str} {bits:Int} {ord:Str} {last:D}:FuR (.tu [.ss c,.ss ty,.ii bits,.ss ord,last]) (BS c ty bits ord last):=by
 unfold BS
 cases hc:decide (c="payload") with
 | true=>cases ho:decide (ord="big") with
  | false=>trivial
  | true=>cases ey:pTo.m last with
   | none=>trivial
   | some y=>rw [of_decide_eq_true hc,of_decide_eq_true ho,pTo.ok ey];rfl
 | false=>cases hm:decide (c="meta") with
  | false=>trivial
  | true=>cases ey:ssD last with
   | none=>trivial
   | some k=>rw [of_decide_eq_true hm,fi ey];rfl
theorem BQ (d:D):FuR d (kQ d):=by
 unfold kQ
 cases e:Bp.m d with
 | none=>trivial
 | some x=>rw [Bp.ok e];exact BR
theorem eS (d:D):(∃ ty bits pr b f,d=Bo ty bits pr b f/\kQ d=.pay ty bits pr b f)\/(∃ ty bits ord key,d=Bx ty bits ord key/\kQ d=.met ty bits ord key)\/kQ d=.bad:=by
 have z:=BQ d
 cases hu:kQ d with
 | pay ty bits pr b f=>rw [hu] at z;exact .inl ⟨ty,bits,pr,b,f,z,rfl⟩
 | met ty bits ord key=>rw [hu] at z;exact .inr (.inl ⟨ty,bits,ord,key,z,rfl⟩)
 | bad=>exact .inr (.inr rfl)
 | _=>rw [hu] at z;exact z.elim
noncomputable def cL (fs:List (Str×D)) (nm:Str):Und:=match fs.lookup nm with
 | some d=>kQ d
 | none=>.unk nm
inductive Vw where
 | fld (nm:Str)
 | wt (t:Str) (a b:D)
 | map
 | hsh
 | bad
noncomputable def vw3 (t:Str) (a b:D):Vw:=cond (eN t) (.wt t a b) (cond (decide (t="map")) .map .bad)
noncomputable def vwL (t:Str):List D->Vw
 | []=>.bad
 | a::r=>match r with
  | []=>cond (decide (t="field")) ((ssD a).elim .bad .fld) .bad
  | b::r=>match r with
   | []=>vw3 t a b
   | _::r=>match r with
    | []=>.bad
    | _::r=>cond (r.isEmpty&&decide (t="hash")) .hsh .bad
noncomputable def vwD (e:D):Vw:=match tuD e with
 | some l=>match l with
  | []=>.bad
  | h::r=>(ssD h).elim .bad fun t=>vwL t r
 | none=>.bad
noncomputable def VwR (e:D):Vw->Prop
 | .fld nm=>e=.tu [.ss "field",.ss nm]
 | .wt t a b=>eN t=true/\e=.tu [.ss t,a,b]
 | .map=>∃ a b,e=.tu [.ss "map",a,b]
 | .hsh=>∃ a b c d,e=.tu [.ss "hash",a,b,c,d]
 | .bad=>True
theorem Dg {t:Str} {a b:D}:VwR (.tu [.ss t,a,b]) (vw3 t a b):=by
 unfold vw3
 cases ht:eN t with
 | true=>exact ⟨ht,rfl⟩
 | false=>cases hd:decide (t="map") with
  | true=>exact ⟨a,b,by rw [of_decide_eq_true hd]⟩
  | false=>trivial
theorem Df (e:D):VwR e (vwD e):=by
 unfold vwD
 cases et:tuD e with
 | none=>trivial
 | some l=>
  obtain rfl:=ig et;clear et
  cases l with
  | nil=>trivial
  | cons h r=>cases es:ssD h with
   | none=>dsimp only;rw [es];trivial
   | some t=>
    dsimp only
    rw [es,fi es];clear es
    show VwR _ (vwL t r)
    cases r with
    | nil=>trivial
    | cons a r=>cases r with
     | nil=>
      show VwR _ (cond _ _ _)
      cases hd:decide (t="field") with
      | false=>trivial
      | true=>cases es:ssD a with
       | none=>trivial
       | some nm=>rw [of_decide_eq_true hd,fi es];rfl
     | cons b r=>cases r with
      | nil=>exact Dg
      | cons c r=>cases r with
       | nil=>trivial
       | cons d r=>cases r with
        | nil=>
         show VwR _ (cond _ _ _)
         cases hd:decide (t="hash") with
         | true=>exact ⟨a,b,c,d,by rw [of_decide_eq_true hd]⟩
         | false=>trivial
        | cons _ _=>trivial
theorem ie {G:Prop} (e:D) (hf:∀ nm,e=.tu [.ss "field",.ss nm]->vwD e=.fld nm->G) (hw:∀ t a b,eN t=true->e=.tu [.ss t,a,b]->vwD e=.wt t a b->G)
  (hm:∀ a b,e=.tu [.ss "map",a,b]->vwD e=.map->G) (hh:∀ a b c d,e=.tu [.ss "hash",a,b,c,d]->vwD e=.hsh->G) (hb:vwD e=.bad->G):G:=by
 have z:=Df e
 cases hv:vwD e with
 | fld nm=>rw [hv] at z;exact hf nm z hv
 | wt t a b=>rw [hv] at z;exact hw t a b z.1 z.2 hv
 | map=>rw [hv] at z;obtain ⟨a,b,z⟩:=z;exact hm a b z hv
 | hsh=>rw [hv] at z;obtain ⟨a,b,c,d,z⟩:=z;exact hh a b c d z hv
 | bad=>exact hb hv
theorem o9 {t:Str} {a b:D} (h:eN t=true):vwD (.tu [.ss t,a,b])=.wt t a b:=by show cond _ _ _=_;rw [h];rfl
noncomputable def kF (fs:List (Str×D)) (f:D->Und) (e:D):Und:=match vwD e with
 | .fld nm=>cL fs nm
 | .wt _ a _=>f a
 | .map=>.oth "map"
 | .hsh=>.hsh
 | .bad=>.bad
noncomputable def av (fs:List (Str×D)):Nat->D->Und
 | 0,_=>.bad
 | k+1,e=>kF fs (av fs k) e
noncomputable def okU:Und->Bool
 | .pay ..=>true
 | .met ..=>true
 | _=>false
noncomputable def tyU:Und->Str
 | .pay ty _ _ _ _=>ty
 | .met ty _ _ _=>ty
 | _=>"mark"
noncomputable def rq:Und->Int
 | .pay _ b _ _ _=>b
 | .met _ b _ _=>b
 | _=>32
noncomputable def si:Und->Str
 | .pay ..=>"big"
 | .met _ _ o _=>o
 | _=>"host"
noncomputable def aP:Und->Int
 | .pay _ b _ _ first=>Int.fdiv (Int.fmod first 8+b+7) 8
 | .met _ b _ _=>Int.fdiv (0+b+7) 8
 | _=>4
noncomputable def LB1 (P:Params):List (Addr×au):=[(137,inl S0 30 P 137 uP false),(130,inl S0 30 P 130 qQ false)]
noncomputable def SB1 (P:Params):Tab:=aZ (LB1 P)
theorem lB1 {w:World} {base:Heap} (W:Wd w base):LOk w base 1 (LB1 w.params):=LOk.cons (aS W so0 false (IE w) (Jr _) (GN _) 30) (Hr _) (LOk.cons (aS W so0 false (Fk w) (FB _) (Ex _) 30) (EK _) LOk.nil)
noncomputable def zi  : au:=mkS (pC (pD pF) (pC (pD pA) (pC (pD pS) pN))) pN fun (fs,e,what,_) _ Q E=>grd (Nat.ble what.length 1000) <| onU (av fs 5 e)
 (fun ty bits proto bse first=>Q (.d (.tu [.ss "payload",.ss ty,.ii bits,.ss "big",.tu [.ss proto,.ss bse,.ii first]])) [])
 (fun ty bits ord key=>Q (.d (.tu [.ss "meta",.ss ty,.ii bits,.ss ord,.ss key])) [])
 (fun nm=>grd (Nat.ble nm.length 1000) (E ("unknown field '"++nm++"'") []))
 (Q (.d .nn) [])
 (fun t=>grd (Nat.ble what.length 1000&&Nat.ble t.length 1000) (E ("no "++what++" of its own: "++t) []))
 False
noncomputable abbrev wst (m:Nat) (S:Tab) (P:Params) (a:Addr) (i:Nat) (k:Nat):=o6 (fun U Z Q=>(evN S m).te (ac P a) (FX (ai (ae P a) i)) U Z Q fun _ _=>False) (fun U Z K'=>bm ((evN S m).ex (ac P a)) (FY (ai (ae P a) i)) U Z K' fun _ _=>False) k
noncomputable def U144 (fs:List (Str×D)) (e:D) (what:Str):Mine.Loc:=[("what",.d (.ss what)),("e",.d e),("fields",.d (.di fs))]
theorem DN (fs:List (Str×D)) (e:D) (what:Str) (Q:QV) (E:QE):vcf (SB1 P) 30 P 144 uO false [.d (.di fs),.d e,.d (.ss what)] [] Q E=
 wst 29 (SB1 P) P 144 0 6 (U144 fs e what) [] (cx 30 (SB1 P) P 144 1 (a9 false 0 Q) (bE 0 E)):=by kernel_rfl
theorem rI (fs:List (Str×D)) (a x:D) (what:Str) (k:Nat) (K:QF):wst 29 (SB1 P) P 144 0 (k+1) (U144 fs (.tu [.ss "mask",a,x]) what) [] K=wst 29 (SB1 P) P 144 0 k (U144 fs a what) [] K:=by kernel_rfl
theorem xi (fs:List (Str×D)) (a x:D) (what:Str) (k:Nat) (K:QF):wst 29 (SB1 P) P 144 0 (k+1) (U144 fs (.tu [.ss "or",a,x]) what) [] K=wst 29 (SB1 P) P 144 0 k (U144 fs a what) [] K:=by kernel_rfl
theorem tj (fs:List (Str×D)) (a x:D) (what:Str) (k:Nat) (K:QF):wst 29 (SB1 P) P 144 0 (k+1) (U144 fs (.tu [.ss "xor",a,x]) what) [] K=wst 29 (SB1 P) P 144 0 k (U144 fs a what) [] K:=by kernel_rfl
theorem tm (fs:List (Str×D)) (a x:D) (what:Str) (k:Nat) (K:QF):wst 29 (SB1 P) P 144 0 (k+1) (U144 fs (.tu [.ss "shl",a,x]) what) [] K=wst 29 (SB1 P) P 144 0 k (U144 fs a what) [] K:=by kernel_rfl
theorem tl (fs:List (Str×D)) (a x:D) (what:Str) (k:Nat) (K:QF):wst 29 (SB1 P) P 144 0 (k+1) (U144 fs (.tu [.ss "shr",a,x]) what) [] K=wst 29 (SB1 P) P 144 0 k (U144 fs a what) [] K:=by kernel_rfl
theorem o8 (fs:List (Str×D)) (nm what:Str) (k:Nat) (K:QF):wst 29 (SB1 P) P 144 0 (k+1) (U144 fs (.tu [.ss "field",.ss nm]) what) [] K=K .nx (U144 fs (.tu [.ss "field",.ss nm]) what) []:=by kernel_rfl
theorem rJ (fs:List (Str×D)) (a b c d:D) (what:Str) (k:Nat) (K:QF):wst 29 (SB1 P) P 144 0 (k+1) (U144 fs (.tu [.ss "hash",a,b,c,d]) what) [] K=K .nx (U144 fs (.tu [.ss "hash",a,b,c,d]) what) []:=by kernel_rfl
theorem tp (fs:List (Str×D)) (a b:D) (what:Str) (k:Nat) (K:QF):wst 29 (SB1 P) P 144 0 (k+1) (U144 fs (.tu [.ss "map",a,b]) what) [] K=K .nx (U144 fs (.tu [.ss "map",a,b]) what) []:=by kernel_rfl
theorem p9 (fs:List (Str×D)) (nm what:Str) (Q:QV) (E:QE):cx 30 (SB1 P) P 144 1 (a9 false 0 Q) (bE 0 E) .nx (U144 fs (.tu [.ss "field",.ss nm]) what) []=
 (cnd (!Option.isSome (List.lookup nm fs)) (grd (Nat.ble (Str.length ("unknown field '"++nm)) 16777216) (grd (Nat.ble (Str.length ("unknown field '"++nm++"'")) 16777216) (E ("unknown field '"++nm++"'") []))) (onO (List.lookup nm fs) (fun val=>(Q (V.d val) [])) False)):=by kernel_rfl
theorem sD (fs:List (Str×D)) (a b c d:D) (what:Str) (Q:QV) (E:QE):cx 30 (SB1 P) P 144 1 (a9 false 0 Q) (bE 0 E) .nx (U144 fs (.tu [.ss "hash",a,b,c,d]) what) []=Q (.d .nn) []:=by kernel_rfl
theorem wf (fs:List (Str×D)) (a b:D) (what:Str) (Q:QV) (E:QE):cx 30 (SB1 P) P 144 1 (a9 false 0 Q) (bE 0 E) .nx (U144 fs (.tu [.ss "map",a,b]) what) []=
 (grd (Nat.ble (Str.length ("no "++what)) 16777216) (grd (Nat.ble (Str.length ("no "++what++" of its own: ")) 16777216) (grd (Nat.ble (Str.length ("no "++what++" of its own: "++"map")) 16777216) (E ("no "++what++" of its own: "++"map") [])))):=by kernel_rfl
theorem dD {t:Str} (h:eN t=true):t="mask"\/t="or"\/t="xor"\/t="shl"\/t="shr":=by
 unfold eN qx at h
 simpa using h
theorem mG (a b:Str):(a++b).length=a.length+b.length:=PySem.Str.length_append a b
theorem nR (nm:Str) (h:nm.length<=1000):Nat.ble (Str.length ("unknown field '"++nm)) 16777216=true/\Nat.ble (Str.length ("unknown field '"++nm++"'")) 16777216=true:=by
 have l1:(Str.ofString "unknown field '").length=15:=by decide
 have l2:(Str.ofString "'").length=1:=by decide
 refine ⟨ao ?_,ao ?_⟩
 · rw [mG,l1];omega
 · rw [mG,mG,l1,l2];omega
theorem vB (what:Str) (h:what.length<=1000):Nat.ble (Str.length ("no "++what)) 16777216=true/\Nat.ble (Str.length ("no "++what++" of its own: ")) 16777216=true/\Nat.ble (Str.length ("no "++what++" of its own: "++"map")) 16777216=true:=by
 have l1:(Str.ofString "no ").length=3:=by decide
 have l2:(Str.ofString " of its own: ").length=13:=by decide
 have l3:(Str.ofString "map").length=3:=by decide
 refine ⟨ao ?_,ao ?_,ao ?_⟩
 · rw [mG,l1];omega
 · rw [mG,mG,l1,l2];omega
 · rw [mG,mG,mG,l1,l2,l3];omega
theorem Dc (P:Params) (fs:List (Str×D)) (what:Str) (Q:QV) (E:QE) (hw:what.length<=1000):∀ (k:Nat) (e:D),onU (av fs k e)
   (fun ty bits proto bse first=>Q (.d (.tu [.ss "payload",.ss ty,.ii bits,.ss "big",.tu [.ss proto,.ss bse,.ii first]])) [])
   (fun ty bits ord key=>Q (.d (.tu [.ss "meta",.ss ty,.ii bits,.ss ord,.ss key])) [])
   (fun nm=>grd (Nat.ble nm.length 1000) (E ("unknown field '"++nm++"'") []))
   (Q (.d .nn) [])
   (fun t=>grd (Nat.ble what.length 1000&&Nat.ble t.length 1000) (E ("no "++what++" of its own: "++t) []))
   False->wst 29 (SB1 P) P 144 0 (k+1) (U144 fs e what) [] (cx 30 (SB1 P) P 144 1 (a9 false 0 Q) (bE 0 E)):=by
 exists P,fs,what,Q,E,_ hw
 intro k
 induction k with
 | zero=>exact fun e q=>q.elim
 | succ k ih=>
  intro e q
  refine ie e (fun nm he hv=>?_) (fun t a b ht he hv=>?_) (fun a b he hv=>?_) (fun a b c d he hv=>?_) (fun hv=>?_) <;> unfold av kF at q <;> rw [hv] at q
  · clear hv;subst he
    rw [o8,p9]
    replace q:onU (cL fs nm) _ _ _ _ _ _:=q
    unfold cL at q
    cases hl:fs.lookup nm with
    | none=>
     rw [hl] at q
     obtain ⟨c,q⟩:=ab.mp q
     have c:=Nat.le_of_ble_eq_true c
     obtain ⟨b1,b2⟩:=nR nm c
     exact dP rfl (ad b1 (ad b2 q))
    | some d=>
     rw [hl] at q
     refine bL rfl ?_
     show Q (.d d) []
     clear hl;rcases eS d with ⟨ty,bits,pr,b,f,rfl,e⟩ | ⟨ty,bits,ord,key,rfl,e⟩ | e
     · replace q:onU (kQ (Bo ty bits pr b f)) _ _ _ _ _ _:=q
       rw [e] at q;exact q
     · replace q:onU (kQ (Bx ty bits ord key)) _ _ _ _ _ _:=q
       rw [e] at q;exact q
     · replace q:onU (kQ d) _ _ _ _ _ _:=q
       rw [e] at q;exact q.elim
  · clear hv;subst he
    have q':=ih a q
    clear q ih;rcases dD ht with rfl | rfl | rfl | rfl | rfl
    · rw [rI];exact q'
    · rw [xi];exact q'
    · rw [tj];exact q'
    · rw [tm];exact q'
    · rw [tl];exact q'
  · clear hv;subst he
    rw [tp,wf]
    obtain ⟨c,q⟩:=ab.mp q
    obtain ⟨b1,b2,b3⟩:=vB what hw
    rw [ab,ab,ab]
    exact ⟨b1,b2,b3,q⟩
  · clear hv;subst he
    rw [rJ,sD]
    exact q
  · exact q.elim
theorem HU {w:World} {base:Heap} (W:Wd w base):aU w base 144 2 zi:=by
 refine bD W (LOk.so (fz:=fun _=>[]) (fg:=fun _=>[]) (lB1 W)) false (ID w) (Jq _) (GM _) 30 fun vs Z Q E q=>?_
 replace q:=aB q
 obtain ⟨zz,_,e1,e2,q⟩:=q;obtain ⟨fs,e,what,_⟩:=zz
 obtain rfl:=(show vs=[.d (.di fs),.d e,.d (.ss what)] from e1);obtain rfl:=(show Z=[] from e2)
 dsimp only at q
 obtain ⟨hw,q⟩:=ab.mp q
 refine ⟨rfl,?_⟩
 have:=DN w.params fs e what Q E
 unfold SB1 at this
 rw [this]
 exact Dc w.params fs what Q E (Nat.le_of_ble_eq_true hw) 5 e q
noncomputable def LB2 (P:Params):List (Addr×au):=(144,zi)::LB1 P
noncomputable def SB2 (P:Params):Tab:=aZ (LB2 P)
theorem lB2 {w:World} {base:Heap} (W:Wd w base):LOk w base 2 (LB2 w.params):=LOk.cons (HU W) (Hq _) ((lB1 W).mono (by decide))
end Mine
namespace Mine
open PySem PySem.W PyProof.Rows PySem.SeqAt
noncomputable def v9 (u:Und) (what:Str) (hq:Prop) (E:QE):Prop:=onU u (fun _ _ _ _ _=>False) (fun _ _ _ _=>False)
 (fun nm=>grd (Nat.ble nm.length 1000) (E ("unknown field '"++nm++"'") [])) hq
 (fun t=>grd (Nat.ble t.length 1000) (E ("no "++what++" of its own: "++t) [])) False
noncomputable def t4  : au:=mkS (pC (pD pF) (pC (pD pA) pN)) pN fun (fs,e,_) _ Q E=>cnd (okU (av fs 5 e)) (Q (.d (.ss (si (av fs 5 e)))) []) (v9 (av fs 5 e) "order" (Q (.d (.ss "host")) []) E)
noncomputable def tY  : au:=mkS (pC (pD pF) (pC (pD pA) pN)) pN fun (fs,e,_) _ Q E=>cnd (okU (av fs 5 e)) (Q (.d (.ss (tyU (av fs 5 e)))) []) (v9 (av fs 5 e) "type" (Q (.d (.ss "mark")) []) E)
noncomputable def t6  : au:=mkS (pC (pD pF) (pC (pD pA) pN)) pN fun (fs,e,_) _ Q E=>cnd (okU (av fs 5 e)) (Q (.d (.ii (aP (av fs 5 e)))) []) (v9 (av fs 5 e) "size" (Q (.d (.ii 4)) []) E)
theorem DJ (P:Params) (fs:List (Str×D)) (e:D) (Q:QV) (E:QE):vcf (SB2 P) 30 P 165 uL false [.d (.di fs),.d e] [] Q E=
(onU (av fs 5 e)
(fun ty bits proto bse first=>
 (Q (V.d (D.ss "big")) []))
(fun ty bits ord key=>
 (Q (V.d (D.ss ord)) []))
(fun nm=>
 (grd (Nat.ble (Str.length nm) 1000)
 (E ("unknown field '"++nm++"'") [])))
(Q (V.d (D.ss "host")) [])
(fun t=>
 (grd (Nat.ble (Str.length "order") 1000&&Nat.ble (Str.length t) 1000)
 (E ("no "++"order"++" of its own: "++t) [])))
False):=by kernel_rfl
theorem DI (P:Params) (fs:List (Str×D)) (e:D) (Q:QV) (E:QE):vcf (SB2 P) 30 P 172 uK false [.d (.di fs),.d e] [] Q E=
(onU (av fs 5 e)
(fun ty bits proto bse first=>
 (Q (V.d (D.ss ty)) []))
(fun ty bits ord key=>
 (Q (V.d (D.ss ty)) []))
(fun nm=>
 (grd (Nat.ble (Str.length nm) 1000)
 (E ("unknown field '"++nm++"'") [])))
(Q (V.d (D.ss "mark")) [])
(fun t=>
 (grd (Nat.ble (Str.length "type") 1000&&Nat.ble (Str.length t) 1000)
 (E ("no "++"type"++" of its own: "++t) [])))
False):=by kernel_rfl
theorem DM (P:Params) (fs:List (Str×D)) (e:D) (Q:QV) (E:QE):vcf (SB2 P) 30 P 151 uN false [.d (.di fs),.d e] [] Q E=
(onU (av fs 5 e)
(fun ty bits proto bse first=>
 (Q (V.d (D.ii (Int.fdiv (Int.fmod first 8+bits+7) 8))) []))
(fun ty bits ord key=>
 (Q (V.d (D.ii (Int.fdiv (0+bits+7) 8))) []))
(fun nm=>
 (grd (Nat.ble (Str.length nm) 1000)
 (E ("unknown field '"++nm++"'") [])))
(Q (V.d (D.ii 4)) [])
(fun t=>
 (grd (Nat.ble (Str.length "size") 1000&&Nat.ble (Str.length t) 1000)
 (E ("no "++"size"++" of its own: "++t) [])))
False):=by kernel_rfl
section
variable {w:World} {base:Heap} {n m:Nat}
theorem jH {u:Und} {what:Str} {A hq:Prop} {E:QE} {p:Str->Int->Str->Str->Int->Prop} {mm:Str->Int->Str->Str->Prop} (hw:Nat.ble what.length 1000=true)
  (hp:∀ ty bits pr b f,u=.pay ty bits pr b f->A->p ty bits pr b f) (hm:∀ ty bits o k,u=.met ty bits o k->A->mm ty bits o k)
  (q:cnd (okU u) A (v9 u what hq E)):onU u p mm (fun nm=>grd (Nat.ble nm.length 1000) (E ("unknown field '"++nm++"'") [])) hq (fun t=>grd (Nat.ble what.length 1000&&Nat.ble t.length 1000) (E ("no "++what++" of its own: "++t) [])) False:=by
 cases u with
 | pay ty bits pr b f=>exact hp _ _ _ _ _ rfl (bw q)
 | met ty bits o k=>exact hm _ _ _ _ rfl (bw q)
 | unk nm=>exact aG q
 | hsh=>exact aG q
 | oth t=>
  have q:=aG q
  obtain ⟨c,q⟩:=ab.mp q
  refine ab.mpr ⟨ah hw c,q⟩
 | bad=>exact (aG q).elim
theorem BX (W:Wd w base):aU w base 165 3 t4:=by
 refine bD W (LOk.so (fz:=fun _=>[]) (fg:=fun _=>[]) (lB2 W)) false (IA w) (Jn _) (GJ _) 30 fun vs Z Q E q=>?_
 replace q:=aB q
 obtain ⟨zz,_,e1,e2,q⟩:=q;obtain ⟨fs,e,_⟩:=zz
 obtain rfl:=(show vs=[.d (.di fs),.d e] from e1);obtain rfl:=(show Z=[] from e2)
 dsimp only at q
 refine ⟨rfl,?_⟩
 have:=DJ w.params fs e Q E
 unfold SB2 at this
 rw [this]
 exact jH (by decide) (fun _ _ _ _ _ h a=>by rw [h] at a;exact a) (fun _ _ _ _ h a=>by rw [h] at a;exact a) q
theorem BW (W:Wd w base):aU w base 172 3 tY:=by
 refine bD W (LOk.so (fz:=fun _=>[]) (fg:=fun _=>[]) (lB2 W)) false (Iz w) (Jm _) (GI _) 30 fun vs Z Q E q=>?_
 replace q:=aB q
 obtain ⟨zz,_,e1,e2,q⟩:=q;obtain ⟨fs,e,_⟩:=zz
 obtain rfl:=(show vs=[.d (.di fs),.d e] from e1);obtain rfl:=(show Z=[] from e2)
 dsimp only at q
 refine ⟨rfl,?_⟩
 have:=DI w.params fs e Q E
 unfold SB2 at this
 rw [this]
 exact jH (by decide) (fun _ _ _ _ _ h a=>by rw [h] at a;exact a) (fun _ _ _ _ h a=>by rw [h] at a;exact a) q
theorem BY (W:Wd w base):aU w base 151 3 t6:=by
 refine bD W (LOk.so (fz:=fun _=>[]) (fg:=fun _=>[]) (lB2 W)) false (IC w) (Jp _) (GL _) 30 fun vs Z Q E q=>?_
 replace q:=aB q
 obtain ⟨zz,_,e1,e2,q⟩:=q;obtain ⟨fs,e,_⟩:=zz
 obtain rfl:=(show vs=[.d (.di fs),.d e] from e1);obtain rfl:=(show Z=[] from e2)
 dsimp only at q
 refine ⟨rfl,?_⟩
 have:=DM w.params fs e Q E
 unfold SB2 at this
 rw [this]
 exact jH (by decide) (fun _ _ _ _ _ h a=>by rw [h] at a;exact a) (fun _ _ _ _ h a=>by rw [h] at a;exact a) q
end
noncomputable def LB3 (P:Params):List (Addr×au):=(165,t4)::(172,tY)::(151,t6)::LB2 P
noncomputable def SB3 (P:Params):Tab:=aZ (LB3 P)
theorem lB3 {w:World} {base:Heap} (W:Wd w base):LOk w base 3 (LB3 w.params):=LOk.cons (BX W) (BH _) (LOk.cons (BW W) (BG _) (LOk.cons (BY W) (x9 _) ((lB2 W).mono (by decide))))
end Mine
namespace Mine
open PySem PySem.W PyProof.Rows PySem.SeqAt
variable (P:Params)
theorem xn {fs:List (Str×D)}:∀ {k:Nat} {e:D},av fs k e≠.bad->av fs (k+1) e=av fs k e:=by
 intro k
 induction k with
 | zero=>exact fun h=>absurd rfl h
 | succ k ih=>
  intro e h
  replace h:kF fs (av fs k) e≠.bad:=h
  show kF fs (av fs (k+1)) e=kF fs (av fs k) e
  unfold kF at h ⊢
  cases hv:vwD e with
  | wt t a b=>rw [hv] at h;exact ih h
  | _=>rfl
theorem ji {fs:List (Str×D)} {k:Nat} {e:D} (h:av fs k e≠.bad):∀ j,av fs (k+j) e=av fs k e
 | 0=>rfl
 | j+1=>by
  have ih:=ji h j
  rw [<- ih] at h ⊢
  exact xn h
noncomputable def mM (t:Str):Bool:=decide (t="mask")||decide (t="shr")
noncomputable def fJ (fs:List (Str×D)):Nat->D->Int
 | 0,_=>0
 | k+1,e=>match vwD e with
  | .wt t a _=>cond (mM t) (fJ fs k a) (8*aP (av fs 5 e))
  | _=>rq (av fs 5 e)
theorem kq {fs:List (Str×D)} {k:Nat} {t:Str} {a b:D} (h:eN t=true):fJ fs (k+1) (.tu [.ss t,a,b])=cond (mM t) (fJ fs k a) (8*aP (av fs 5 (.tu [.ss t,a,b]))):=by
 show (match vwD _ with | .wt t a _=>_ | _=>_:Int)=_
 rw [o9 h]
theorem qy {fs:List (Str×D)} {k:Nat} {t:Str} {a b:D} (h:eN t=true):av fs (k+1) (.tu [.ss t,a,b])=av fs k a:=by
 show kF fs (av fs k) _=_
 unfold kF
 rw [o9 h]
noncomputable def zh  : au:=mkS (pC (pD pF) (pC (pD pA) pN)) pN fun (fs,e,_) _ Q E=>grd (leB 0 (aP (av fs 5 e))&&leB (aP (av fs 5 e)) 1000) <| cnd (okU (av fs 5 e)) (Q (.d (.ii (fJ fs 5 e))) []) (onU (av fs 5 e) (fun _ _ _ _ _=>False) (fun _ _ _ _=>False) (fun _=>False) (Q (.d (.ii 32)) [])
 (fun t=>match e with
  | .tu [.ss t',_,_]=>grd (decide (t'="map")) (E ("no "++"bits"++" of its own: "++"map") [])
  | _=>False) False)
noncomputable def U158 (fs:List (Str×D)) (e:D):Mine.Loc:=[("e",.d e),("fields",.d (.di fs))]
noncomputable abbrev jf (P:Params):=wst 29 (SB3 P) P 158 0
noncomputable abbrev A158 (P:Params) (Q:QV) (E:QE):=cx 30 (SB3 P) P 158 1 (a9 false 0 Q) (bE 0 E)
theorem DL (fs:List (Str×D)) (e:D) (Q:QV) (E:QE):vcf (SB3 P) 30 P 158 uM false [.d (.di fs),.d e] [] Q E=jf P 6 (U158 fs e) [] (A158 P Q E):=by kernel_rfl
theorem rG (fs:List (Str×D)) (a x:D) (k:Nat) (K:QF):jf P (k+1) (U158 fs (.tu [.ss "mask",a,x])) [] K=jf P k (U158 fs a) [] K:=by kernel_rfl
theorem tg (fs:List (Str×D)) (a x:D) (k:Nat) (K:QF):jf P (k+1) (U158 fs (.tu [.ss "shr",a,x])) [] K=jf P k (U158 fs a) [] K:=by kernel_rfl
theorem xh (fs:List (Str×D)) (a x:D) (k:Nat) (K:QF):jf P (k+1) (U158 fs (.tu [.ss "or",a,x])) [] K=K .nx (U158 fs (.tu [.ss "or",a,x])) []:=by kernel_rfl
theorem yu (fs:List (Str×D)) (a x:D) (Q:QV) (E:QE):A158 P Q E .nx (U158 fs (.tu [.ss "or",a,x])) []=
 (cnd (okU (av fs 5 (D.tu [D.ss "or",a,x]))) (grd (okB 4096 8&&okB 4096 (aP (av fs 5 (D.tu [D.ss "or",a,x])))) (Q (V.d (D.ii (8*aP (av fs 5 (D.tu [D.ss "or",a,x]))))) [])) (onU (av fs 5 (D.tu [D.ss "or",a,x])) (fun ty bits proto bse first=>False) (fun ty bits ord key=>False) (fun nm=>(grd (Nat.ble (Str.length nm) 1000) (E ("unknown field '"++nm++"'") []))) (Q (V.d (D.ii (8*4))) []) (fun t=>(grd (Nat.ble (Str.length t) 1000) (E ("no "++"size"++" of its own: "++t) []))) False)):=by kernel_rfl
theorem tf (fs:List (Str×D)) (a x:D) (k:Nat) (K:QF):jf P (k+1) (U158 fs (.tu [.ss "xor",a,x])) [] K=K .nx (U158 fs (.tu [.ss "xor",a,x])) []:=by kernel_rfl
theorem wb (fs:List (Str×D)) (a x:D) (Q:QV) (E:QE):A158 P Q E .nx (U158 fs (.tu [.ss "xor",a,x])) []=
 (cnd (okU (av fs 5 (D.tu [D.ss "xor",a,x]))) (grd (okB 4096 8&&okB 4096 (aP (av fs 5 (D.tu [D.ss "xor",a,x])))) (Q (V.d (D.ii (8*aP (av fs 5 (D.tu [D.ss "xor",a,x]))))) [])) (onU (av fs 5 (D.tu [D.ss "xor",a,x])) (fun ty bits proto bse first=>False) (fun ty bits ord key=>False) (fun nm=>(grd (Nat.ble (Str.length nm) 1000) (E ("unknown field '"++nm++"'") []))) (Q (V.d (D.ii (8*4))) []) (fun t=>(grd (Nat.ble (Str.length t) 1000) (E ("no "++"size"++" of its own: "++t) []))) False)):=by kernel_rfl
theorem th (fs:List (Str×D)) (a x:D) (k:Nat) (K:QF):jf P (k+1) (U158 fs (.tu [.ss "shl",a,x])) [] K=K .nx (U158 fs (.tu [.ss "shl",a,x])) []:=by kernel_rfl
theorem wc (fs:List (Str×D)) (a x:D) (Q:QV) (E:QE):A158 P Q E .nx (U158 fs (.tu [.ss "shl",a,x])) []=
 (cnd (okU (av fs 5 (D.tu [D.ss "shl",a,x]))) (grd (okB 4096 8&&okB 4096 (aP (av fs 5 (D.tu [D.ss "shl",a,x])))) (Q (V.d (D.ii (8*aP (av fs 5 (D.tu [D.ss "shl",a,x]))))) [])) (onU (av fs 5 (D.tu [D.ss "shl",a,x])) (fun ty bits proto bse first=>False) (fun ty bits ord key=>False) (fun nm=>(grd (Nat.ble (Str.length nm) 1000) (E ("unknown field '"++nm++"'") []))) (Q (V.d (D.ii (8*4))) []) (fun t=>(grd (Nat.ble (Str.length t) 1000) (E ("no "++"size"++" of its own: "++t) []))) False)):=by kernel_rfl
theorem o7 (fs:List (Str×D)) (nm:Str) (k:Nat) (K:QF):jf P (k+1) (U158 fs (.tu [.ss "field",.ss nm])) [] K=K .nx (U158 fs (.tu [.ss "field",.ss nm])) []:=by kernel_rfl
theorem rH (fs:List (Str×D)) (a b c d:D) (k:Nat) (K:QF):jf P (k+1) (U158 fs (.tu [.ss "hash",a,b,c,d])) [] K=K .nx (U158 fs (.tu [.ss "hash",a,b,c,d])) []:=by kernel_rfl
theorem ti (fs:List (Str×D)) (a b:D) (k:Nat) (K:QF):jf P (k+1) (U158 fs (.tu [.ss "map",a,b])) [] K=K .nx (U158 fs (.tu [.ss "map",a,b])) []:=by kernel_rfl
theorem p8 (fs:List (Str×D)) (nm:Str) (Q:QV) (E:QE):A158 P Q E .nx (U158 fs (.tu [.ss "field",.ss nm])) []=
(onU (av fs 5 (D.tu [D.ss "field",D.ss nm]))
(fun ty bits proto bse first=>
 (Q (V.d (D.ii bits)) []))
(fun ty bits ord key=>
 (Q (V.d (D.ii bits)) []))
(fun nm=>
 (grd (Nat.ble (Str.length nm) 1000)
 (E ("unknown field '"++nm++"'") [])))
(Q (V.d (D.ii 32)) [])
(fun t=>
 (grd (Nat.ble (Str.length "bits") 1000&&Nat.ble (Str.length t) 1000)
 (E ("no "++"bits"++" of its own: "++t) [])))
False):=by kernel_rfl
theorem sC (fs:List (Str×D)) (a b c d:D) (Q:QV) (E:QE):A158 P Q E .nx (U158 fs (.tu [.ss "hash",a,b,c,d])) []=Q (.d (.ii 32)) []:=by kernel_rfl
theorem wd (fs:List (Str×D)) (a b:D) (Q:QV) (E:QE):A158 P Q E .nx (U158 fs (.tu [.ss "map",a,b])) []=E ("no "++"bits"++" of its own: "++"map") []:=by kernel_rfl
noncomputable def lr (fs:List (Str×D)) (k:Nat) (e:D) (Q:QV) (E:QE):Prop:=grd (leB 0 (aP (av fs k e))&&leB (aP (av fs k e)) 1000) <| cnd (okU (av fs k e)) (Q (.d (.ii (fJ fs k e))) []) (onU (av fs k e) (fun _ _ _ _ _=>False) (fun _ _ _ _=>False) (fun _=>False) (Q (.d (.ii 32)) [])
 (fun t=>match e with
  | .tu [.ss t',_,_]=>grd (decide (t'="map")) (E ("no "++"bits"++" of its own: "++"map") [])
  | _=>False) False)
theorem rC {fs:List (Str×D)} {k:Nat} {e:D} {Q:QV} {E:QE} (q:lr fs k e Q E):av fs k e≠.bad:=by
 intro h
 unfold lr at q
 rw [h] at q
 exact (ab.mp q).2.elim
theorem BD {fs:List (Str×D)} {Q:QV} {E:QE} {k:Nat} {t:Str} {a b:D} (h5:av fs 5 (.tu [.ss t,a,b])=av fs (k+1) (.tu [.ss t,a,b])) (ht:eN t=true) (hm:mM t=false) (q:lr fs (k+1) (.tu [.ss t,a,b]) Q E):
  (cnd (okU (av fs 5 (D.tu [D.ss t,a,b]))) (grd (okB 4096 8&&okB 4096 (aP (av fs 5 (D.tu [D.ss t,a,b])))) (Q (V.d (D.ii (8*aP (av fs 5 (D.tu [D.ss t,a,b]))))) [])) (onU (av fs 5 (D.tu [D.ss t,a,b])) (fun ty bits proto bse first=>False) (fun ty bits ord key=>False) (fun nm=>(grd (Nat.ble (Str.length nm) 1000) (E ("unknown field '"++nm++"'") []))) (Q (V.d (D.ii (8*4))) []) (fun t=>(grd (Nat.ble (Str.length t) 1000) (E ("no "++"size"++" of its own: "++t) []))) False)):=by
 exists fs,Q,E,k,t,a,b,_ h5 ht hm q
 unfold lr at q
 rw [<- h5] at q
 obtain ⟨c,q⟩:=ab.mp q
 rw [Bool.and_eq_true] at c
 have c1:=ak.mp c.1
 have c2:=ak.mp c.2
 have hbm:fJ fs (k+1) (.tu [.ss t,a,b])=8*aP (av fs 5 (.tu [.ss t,a,b])):=by rw [kq ht,hm];rfl
 rw [hbm] at q
 refine aO (fun h=>?_) fun h=>?_
 · rw [h] at q
   exact ab.mpr ⟨ah (by decide) (bP 10 (by omega) (by decide)),bw q⟩
 · rw [h] at q
   have q:=aG q
   cases hu:av fs 5 (.tu [.ss t,a,b]) with
   | hsh=>rw [hu] at q;exact q
   | oth t'=>
    rw [hu] at q
    obtain ⟨h1,_⟩:=ab.mp q
    have h1:=of_decide_eq_true h1
    clear hu q h hbm c2 c1 c h5 hm;subst h1
    exact absurd ht (by decide)
   | pay=>rw [hu] at q;exact q.elim
   | met=>rw [hu] at q;exact q.elim
   | unk=>rw [hu] at q;exact q.elim
   | bad=>rw [hu] at q;exact q.elim
theorem Db (fs:List (Str×D)) (Q:QV) (E:QE):∀ (k:Nat) (e:D),k<=5->lr fs k e Q E->jf P (k+1) (U158 fs e) [] (A158 P Q E):=by
 exists P,fs,Q,E
 intro k
 induction k with
 | zero=>exact fun e _ q=>absurd rfl (rC q)
 | succ k ih=>
  intro e hk q
  have nb:=rC q
  have h5:av fs 5 e=av fs (k+1) e:=by
   have:=ji nb (5 - (k+1))
   rw [Nat.add_sub_of_le hk] at this
   exact this
  refine ie e (fun nm he hv=>?_) (fun t a b ht he hv=>?_) (fun a b he hv=>?_) (fun a b c d he hv=>?_) (fun hv=>?_)
  · clear hv nb;subst he
    rw [o7,p8]
    unfold lr at q
    rw [<- h5] at q
    obtain ⟨c,q⟩:=ab.mp q
    have hbm:fJ fs (k+1) (.tu [.ss "field",.ss nm])=rq (av fs 5 (.tu [.ss "field",.ss nm])):=rfl
    rw [hbm] at q
    clear ih h5 hbm c
    cases hu:av fs 5 (.tu [.ss "field",.ss nm]) with
    | pay=>rw [hu] at q;exact q
    | met=>rw [hu] at q;exact q
    | unk=>rw [hu] at q;exact (aG q).elim
    | hsh=>rw [hu] at q;exact (aG q)
    | oth=>rw [hu] at q;exact (aG q).elim
    | bad=>rw [hu] at q;exact (aG q).elim
  · clear hv;subst he
    cases hms:mM t with
    | true=>
     have q':lr fs k a Q E:=by
      unfold lr at q ⊢
      rw [qy ht,kq ht,hms] at q
      obtain ⟨c,q⟩:=ab.mp q
      clear h5 nb ih
      refine ab.mpr ⟨c,aO (fun h=>by rw [h] at q;exact q) fun h=>?_⟩
      rw [h] at q
      have q:=aG q
      cases hu:av fs k a with
      | oth t'=>
       rw [hu] at q
       obtain ⟨h1,_⟩:=ab.mp q
       have h1:=of_decide_eq_true h1
       clear q hms;subst h1
       exact absurd ht (by decide)
      | pay=>rw [hu] at q;exact q.elim
      | met=>rw [hu] at q;exact q.elim
      | unk=>rw [hu] at q;exact q.elim
      | bad=>rw [hu] at q;exact q.elim
      | hsh=>rw [hu] at q;exact q
     have z:=ih a (Nat.le_of_succ_le hk) q'
     have hc:t="mask"\/t="shr":=by
      unfold mM at hms
      simpa using hms
     clear hms ht h5 nb q q' ih;rcases hc with rfl | rfl
     · rw [rG];exact z
     · rw [tg];exact z
    | false=>
     have kk:=BD h5 ht hms q
     clear h5 nb q ih;rcases dD ht with rfl | rfl | rfl | rfl | rfl
     · exact absurd hms (by decide)
     · rw [xh,yu];exact kk
     · rw [tf,wb];exact kk
     · rw [th,wc];exact kk
     · exact absurd hms (by decide)
  · clear hv nb h5 ih;subst he
    rw [ti,wd]
    have hu:av fs (k+1) (.tu [.ss "map",a,b])=.oth "map":=rfl
    unfold lr at q
    rw [hu] at q
    obtain ⟨_,q⟩:=ab.mp q
    have q:grd (decide (Str.ofString "map"=Str.ofString "map")) _:=q
    exact (ab.mp q).2
  · clear hv nb h5 ih;subst he
    rw [rH,sC]
    have hu:∀ a b c d:D,av fs (k+1) (.tu [.ss "hash",a,b,c,d])=.hsh:=fun _ _ _ _=>rfl
    unfold lr at q
    rw [hu] at q
    exact aG (ab.mp q).2
  · exact absurd (by show kF _ _ _=_;rw [kF,hv]) nb
theorem Fc {w:World} {base:Heap} (W:Wd w base):aU w base 158 4 zh:=by
 refine bD W (LOk.so (fz:=fun _=>[]) (fg:=fun _=>[]) (lB3 W)) false (IB w) (Jo _) (GK _) 30 fun vs Z Q E q=>?_
 replace q:=aB q
 obtain ⟨zz,_,e1,e2,q⟩:=q;obtain ⟨fs,e,_⟩:=zz
 obtain rfl:=(show vs=[.d (.di fs),.d e] from e1);obtain rfl:=(show Z=[] from e2)
 dsimp only at q
 refine ⟨rfl,?_⟩
 have:=DL w.params fs e Q E
 unfold SB3 at this
 rw [this]
 exact Db w.params fs Q E 5 e (Nat.le_refl _) q
end Mine
namespace Mine
open PySem PySem.W PyProof.Rows PySem.SeqAt
variable (P:Params)
theorem aU.weaken {w:World} {base:Heap} {a:Addr} {n:Nat} {sp sp':au} (h:aU w base a n sp) (k:∀ vs Z Q E,sp' vs Z Q E->sp vs Z Q E):aU w base a n sp':=
 fun A stk G O Z vs cs s Q E QQ EE h1 h2 h3 h4 h5 h6 h7 h8 q=>h A stk G O Z vs cs s Q E QQ EE h1 h2 h3 h4 h5 h6 h7 h8 (k vs Z Q E q)
noncomputable def gq:List (Nat×List Str)->Nat->List Str
 | [],_=>[]
 | (m,l)::r,n=>match Nat.beq n m with
  | true=>l
  | false=>gq r n
noncomputable def fgH:Nat->List Str:=gq [(107,["field"]),(100,["found","proto"])]
noncomputable def fzH:Nat->List Str:=gq []
noncomputable def okH:Und->Bool
 | .pay ..=>true
 | .met ..=>true
 | .hsh=>true
 | _=>false
theorem mq {u:Und} {what:Str} {A hq:Prop} {E:QE} (h:okH u=true) (h1:okU u=true->A) (h2:u=.hsh->hq):cnd (okU u) A (v9 u what hq E):=by
 cases u with
 | pay=>exact h1 rfl
 | met=>exact h1 rfl
 | hsh=>exact h2 rfl
 | unk=>contradiction
 | oth=>contradiction
 | bad=>contradiction
noncomputable def tZ  : au:=mkS (pC (pD pF) (pC (pD pA) pN)) pN fun (fs,e,_) _ Q E=>grd (okH (av fs 5 e)) (Q (.d (.ss (si (av fs 5 e)))) [])
noncomputable def tX  : au:=mkS (pC (pD pF) (pC (pD pA) pN)) pN fun (fs,e,_) _ Q E=>grd (okH (av fs 5 e)) (Q (.d (.ss (tyU (av fs 5 e)))) [])
noncomputable def pi  : au:=mkS (pC (pD pF) (pC (pD pA) pN)) pN fun (fs,e,_) _ Q E=>grd (okH (av fs 5 e)) (Q (.d (.ii (aP (av fs 5 e)))) [])
noncomputable def oM (fs:List (Str×D)) (e:D):Int:=match av fs 5 e with
 | .hsh=>32
 | _=>fJ fs 5 e
noncomputable def m6 (u:Und):Bool:=leB 0 (aP u)&&leB (aP u) 1000
noncomputable def t5  : au:=mkS (pC (pD pF) (pC (pD pA) pN)) pN fun (fs,e,_) _ Q E=>grd (okH (av fs 5 e)&&m6 (av fs 5 e)) (Q (.d (.ii (oM fs e))) [])
noncomputable def ptL:List D->Option (Str×List D)
 | []=>none
 | h::r=>(ssD h).map fun t=>(t,r)
noncomputable def ptD (e:D):Option (Str×List D):=(tuD e).bind ptL
noncomputable def ctD:List D->Option (List D)
 | []=>none
 | h::_=>tuD h
theorem Be {e:D} {t:Str} {r:List D} (h:ptD e=some (t,r)):e=.tu (.ss t::r):=by
 obtain ⟨l,e1,h⟩:=aD h
 cases l with
 | nil=>exact nS h
 | cons x l=>
  obtain ⟨s,e2,h⟩:=Option.map_eq_some_iff.mp h
  cases h
  rw [ig e1,fi e2]
noncomputable def aQ (e:D):Bool:=(ptD e).elim false fun p=>PyData.strOk p.1&&cond (decide (p.1="concat")) ((ctD p.2).elim false fun l=>Nat.ble (l.length+p.2.length) 1000) (Nat.ble p.2.length 1000)
noncomputable def am (e:D):List D:=(ptD e).elim [] fun p=>cond (decide (p.1="concat")) ((ctD p.2).getD []) [e]
theorem fm {t:Str} {x:List D} (hc:decide (t="concat")=false) (hs:PyData.strOk t=true) (hx:x.length<=10):aQ (.tu (.ss t::x))=true:=by
 show (_&&cond _ _ _)=true
 rw [hc];exact ah hs (ao (Nat.le_trans hx (by decide)))
theorem gm {t:Str} {x:List D} (hc:decide (t="concat")=false):am (.tu (.ss t::x))=[.tu (.ss t::x)]:=by
 show cond _ _ _=_
 rw [hc];rfl
noncomputable def qD  : au:=mkS (pC (pD pA) pN) pN fun (e,_) _ Q E=>grd (aQ e) (Q (.d (.tu (am e))) [])
theorem DH (t:Str) (r:List D) (Q:QV) (E:QE):vcf S0 30 P 179 uJ false [.d (.tu (.ss t::r))] [] Q E=
 (grd (leB 0 0&&ltB 0 ((D.ss t::r).length:Int)&&ltB 0 1048576)
 (grd (PyData.canLay0 (D.py (.ss t))&&PyData.canLay0 (D.py (D.ss "concat"))&&Nat.ble (PyData.depth (D.py (D.ss "concat"))) 64) (cnd (PyData.eqv (D.py (.ss t)) (D.py (D.ss "concat"))) (grd (leB 0 1&&ltB 1 ((D.ss t::r).length:Int)&&ltB 1 1048576) (Q (V.d (List.getD (D.ss t::r) (Int.toNat 1) D.nn)) [])) (Q (V.d (D.tu [D.tu (D.ss t::r)])) [])))):=by kernel_rfl
theorem iD (a b:Str):PyData.eqv (D.py (D.ss a)) (D.py (D.ss b))=decide (a=b):=by
 simp only [D.py,PyData.eqv]
 rw [Bool.eq_iff_iff];simp
section
variable {w:World} {base:Heap} {n m:Nat}
theorem Fa (W:Wd w base):aU w base 165 3 tZ:=(BX W).weaken fun vs Z Q E q=>by
 replace q:=aB q
 obtain ⟨zz,_,e1,e2,q⟩:=q;obtain ⟨fs,e,_⟩:=zz
 obtain rfl:=(show vs=[.d (.di fs),.d e] from e1);obtain rfl:=(show Z=[] from e2)
 dsimp only at q
 obtain ⟨c,q⟩:=ab.mp q
 exact mq c (fun _=>q) (fun h=>by rw [h] at q;exact q)
theorem E9 (W:Wd w base):aU w base 172 3 tX:=(BW W).weaken fun vs Z Q E q=>by
 replace q:=aB q
 obtain ⟨zz,_,e1,e2,q⟩:=q;obtain ⟨fs,e,_⟩:=zz
 obtain rfl:=(show vs=[.d (.di fs),.d e] from e1);obtain rfl:=(show Z=[] from e2)
 dsimp only at q
 obtain ⟨c,q⟩:=ab.mp q
 exact mq c (fun _=>q) (fun h=>by rw [h] at q;exact q)
theorem zG (W:Wd w base):aU w base 151 3 pi:=(BY W).weaken fun vs Z Q E q=>by
 replace q:=aB q
 obtain ⟨zz,_,e1,e2,q⟩:=q;obtain ⟨fs,e,_⟩:=zz
 obtain rfl:=(show vs=[.d (.di fs),.d e] from e1);obtain rfl:=(show Z=[] from e2)
 dsimp only at q
 obtain ⟨c,q⟩:=ab.mp q
 exact mq c (fun _=>q) (fun h=>by rw [h] at q;exact q)
theorem Fb (W:Wd w base):aU w base 158 4 t5:=(Fc W).weaken fun vs Z Q E q=>by
 replace q:=aB q
 obtain ⟨zz,_,e1,e2,q⟩:=q;obtain ⟨fs,e,_⟩:=zz
 obtain rfl:=(show vs=[.d (.di fs),.d e] from e1);obtain rfl:=(show Z=[] from e2)
 dsimp only at q
 obtain ⟨c,q⟩:=ab.mp q
 rw [Bool.and_eq_true] at c
 refine ab.mpr ⟨c.2,?_⟩
 unfold oM at q
 cases hu:av fs 5 e with
 | pay=>rw [hu] at q;exact q
 | met=>rw [hu] at q;exact q
 | hsh=>rw [hu] at q;exact q
 | unk=>rw [hu] at c;cases c.1
 | oth=>rw [hu] at c;cases c.1
 | bad=>rw [hu] at c;cases c.1
theorem BV (W:Wd w base):aU w base 179 1 qD:=by
 refine bD W so0 false (Iy w) (Jl _) (GH _) 30 fun vs Z Q E q=>?_
 replace q:=aB q
 obtain ⟨zz,_,e1,e2,q⟩:=q;obtain ⟨e,_⟩:=zz
 obtain rfl:=(show vs=[.d e] from e1);obtain rfl:=(show Z=[] from e2)
 dsimp only at q
 obtain ⟨c,q⟩:=ab.mp q
 refine ⟨rfl,?_⟩
 cases ep:ptD e with
 | none=>unfold aQ at c;rw [ep] at c;exact aX c
 | some p=>
  obtain ⟨t,r⟩:=p
  unfold aQ at c
  unfold am at q
  rw [ep] at c q
  cases Be ep
  clear ep e1
  replace c:(PyData.strOk t&&cond (decide (t="concat")) _ _)=true:=c
  replace q:Q (.d (.tu (cond (decide (t="concat")) _ _))) []:=q
  have c2:=Bool.and_eq_true_iff.mp c
  rw [DH]
  refine ad (ah (ah (an (by decide)) (bQ (Int.ofNat_lt.mpr (Nat.succ_pos r.length)))) (by decide)) (ad (ah (ah c2.1 (by kernel_rfl)) (by kernel_rfl)) ?_)
  rw [iD]
  cases ht:decide (t="concat") with
  | true=>
   rw [ht] at c2 q
   cases r with
   | nil=>exact aX c2.2
   | cons h r=>cases el:tuD h with
    | none=>replace c2:=c2.2;replace c2:(tuD h).elim false _=true:=c2;rw [el] at c2;exact aX c2
    | some l=>
     cases ig el
     exact dP rfl (ad (ah (ah (an (by decide)) (bQ (Int.ofNat_lt.mpr (Nat.succ_lt_succ (Nat.succ_pos r.length))))) (by decide)) q)
  | false=>
   rw [ht] at q
   exact bL rfl q
end
noncomputable def LB4 (P:Params):List (Addr×au):=[(172,tX),(158,t5),(179,qD)]
noncomputable def SB4 (P:Params):Tab:=aZ (LB4 P) fzH fgH
theorem lB4 {w:World} {base:Heap} (W:Wd w base):LOk w base 4 (LB4 w.params):=LOk.cons ((E9 W).mono (by decide)) (BG _) (LOk.cons (Fb W) (EJ _) (LOk.cons ((BV W).mono (by decide)) (BF _) LOk.nil))
noncomputable def cM (fs:List (Str×D)) (p:D):D:=.tu [.ss (tyU (av fs 5 p)),.ii (oM fs p)]
noncomputable def jm (fs:List (Str×D)) (l:List D):Bool:=l.all fun p=>okH (av fs 5 p)&&m6 (av fs 5 p)
noncomputable def zg  : au:=mkS (pC (pD pF) (pC (pD pA) pN)) pN fun (fs,e,_) _ Q E=>grd (aQ e&&(jm fs (am e)&&Nat.ble (am e).length 1000)) (Q (.d (.tu ((am e).map (cM fs)))) [])
noncomputable def U186 (fs:List (Str×D)) (e:D):Mine.Loc:=[("e",.d e),("fields",.d (.di fs)),("kinds",.ref 0)]
noncomputable def oX (fs:List (Str×D)) (e:D) (x:V):Mine.Loc:=[("e",.d e),("fields",.d (.di fs)),("kinds",.ref 0),("part",x)]
theorem DG (fs:List (Str×D)) (e:D) (Q:QV) (E:QE):vcf (SB4 P) 30 P 186 uH false [.d (.di fs),.d e] [] Q E=
 grd (aQ e) (bq (stp 29 (SB4 P) P 186 1) ((am e).map .d) (U186 fs e) [.oc (.li [])] (cx 30 (SB4 P) P 186 2 (a9 false 0 Q) (bE 0 E))):=by kernel_rfl
theorem AK (fs:List (Str×D)) (e p:D) (l:List D) (K:QF):stp 29 (SB4 P) P 186 1 (.d p) (U186 fs e) [.oc (.li l)] K=
(grd (okH (av fs 5 p))
(grd (okH (av fs 5 p)&&m6 (av fs 5 p))
 (grd (Nat.ble (List.length l) 1048576)
  (K Fl.nx (oX fs e (.d p)) [aa.oc (OC.li (l++[cM fs p]))])))):=by kernel_rfl
theorem AJ (fs:List (Str×D)) (e p:D) (x:V) (l:List D) (K:QF):stp 29 (SB4 P) P 186 1 (.d p) (oX fs e x) [.oc (.li l)] K=
(grd (okH (av fs 5 p))
(grd (okH (av fs 5 p)&&m6 (av fs 5 p))
 (grd (Nat.ble (List.length l) 1048576)
  (K Fl.nx (oX fs e (.d p)) [aa.oc (OC.li (l++[cM fs p]))])))):=by kernel_rfl
theorem Cm (fs:List (Str×D)) (e:D) (l:List D) (Q:QV) (E:QE):(cx 30 (SB4 P) P 186 2 (a9 false 0 Q) (bE 0 E)) .nx (U186 fs e) [.oc (.li l)]=(grd (Nat.ble (List.length l) 1048576) (Q (V.d (D.tu l)) [])):=by kernel_rfl
theorem Cl (fs:List (Str×D)) (e:D) (x:V) (l:List D) (Q:QV) (E:QE):(cx 30 (SB4 P) P 186 2 (a9 false 0 Q) (bE 0 E)) .nx (oX fs e x) [.oc (.li l)]=(grd (Nat.ble (List.length l) 1048576) (Q (V.d (D.tu l)) [])):=by kernel_rfl
theorem HT {w:World} {base:Heap} (W:Wd w base):aU w base 186 5 zg:=by
 refine bD W (LOk.so (fz:=fzH) (fg:=fgH) (lB4 W)) false (Ix w) (Jk _) (GG _) 30 fun vs Z Q E q=>?_
 replace q:=aB q
 obtain ⟨zz,_,e1,e2,q⟩:=q;obtain ⟨fs,e,_⟩:=zz
 obtain rfl:=(show vs=[.d (.di fs),.d e] from e1);obtain rfl:=(show Z=[] from e2)
 dsimp only at q
 obtain ⟨c,q⟩:=ab.mp q
 refine ⟨rfl,?_⟩
 have:=DG w.params fs e Q E
 unfold SB4 at this
 rw [this]
 simp only [Bool.and_eq_true] at c
 obtain ⟨c1,c2,c3⟩:=c
 have c3:=Nat.le_of_ble_eq_true c3
 refine ab.mpr ⟨c1,?_⟩
 show bq (stp 29 (SB4 w.params) w.params 186 1) _ _ _ (cx 30 (SB4 w.params) w.params 186 2 _ _)
 refine gZ (fun k U Z=>Z=[.oc (.li (((am e).take k).map (cM fs)))]/\(U=U186 fs e\/∃ x,U=oX fs e x)) _ 0 (fun j v U Z K' hv hI hn=>?_) ⟨rfl,.inl rfl⟩ fun U' Z' hI=>?_
 · clear q;obtain ⟨rfl,hI⟩:=hI
   rw [Nat.zero_add] at hn ⊢
   rw [List.getElem?_map] at hv
   obtain ⟨p,hp,rfl⟩:=Option.map_eq_some_iff.mp hv
   have hk:=List.all_eq_true.mp c2 p (List.mem_of_getElem? hp)
   have hk1:=(Bool.and_eq_true_iff.mp hk).1
   have hs:((am e).take (j+1)).map (cM fs)=((am e).take j).map (cM fs)++[cM fs p]:=by
    rw [List.take_add_one,hp,List.map_append];rfl
   have hl:Nat.ble (((am e).take j).map (cM fs)).length 1048576=true:=ao (by rw [List.length_map,List.length_take];omega)
   clear c3;rcases hI with rfl | ⟨x,rfl⟩
   · rw [AK]
     exact ab.mpr ⟨hk1,ab.mpr ⟨hk,ab.mpr ⟨hl,hn _ _ ⟨by rw [hs],.inr ⟨_,rfl⟩⟩⟩⟩⟩
   · rw [AJ]
     exact ab.mpr ⟨hk1,ab.mpr ⟨hk,ab.mpr ⟨hl,hn _ _ ⟨by rw [hs],.inr ⟨_,rfl⟩⟩⟩⟩⟩
 · obtain ⟨rfl,hI⟩:=hI
   rw [Nat.zero_add,List.length_map,List.take_length]
   have hl:Nat.ble ((am e).map (cM fs)).length 1048576=true:=ao (by rw [List.length_map];omega)
   clear c3;rcases hI with rfl | ⟨x,rfl⟩
   · rw [Cm];exact ab.mpr ⟨hl,q⟩
   · rw [Cl];exact ab.mpr ⟨hl,q⟩
noncomputable def zj  : au:=mkS (pC (pD pF) (pC (pD pS) pN)) pN fun (fs,nm,_) _ Q E=>onU (cL fs nm)
 (fun ty bits proto bse first=>Q (.d (.tu [.ss "payload",.ss ty,.ii bits,.ss "big",.tu [.ss proto,.ss bse,.ii first]])) [])
 (fun ty bits ord key=>Q (.d (.tu [.ss "meta",.ss ty,.ii bits,.ss ord,.ss key])) [])
 (fun nm=>grd (Nat.ble nm.length 1000) (E ("unknown field '"++nm++"'") [])) False (fun _=>False) False
theorem DO (fs:List (Str×D)) (nm:Str) (Q:QV) (E:QE):vcf S0 30 P 130 qQ false [.d (.di fs),.d (.ss nm)] [] Q E=
 (cnd (!Option.isSome (List.lookup nm fs)) (grd (Nat.ble (Str.length ("unknown field '"++nm)) 16777216) (grd (Nat.ble (Str.length ("unknown field '"++nm++"'")) 16777216) (E ("unknown field '"++nm++"'") []))) (onO (List.lookup nm fs) (fun val=>(Q (V.d val) [])) False)):=by kernel_rfl
theorem vZ {fs:List (Str×D)} {nm ty proto bse:Str} {bits first:Int} (h:cL fs nm=.pay ty bits proto bse first):fs.lookup nm=some (.tu [.ss "payload",.ss ty,.ii bits,.ss "big",.tu [.ss proto,.ss bse,.ii first]]):=by
 exists fs,nm,ty,proto,bse,bits,first,_ h
 unfold cL at h
 cases e:fs.lookup nm with
 | none=>rw [e] at h;contradiction
 | some d=>
  rw [e] at h
  dsimp only at h
  rcases eS d with ⟨ty',bits',pr',b',f',rfl,e2⟩ | ⟨ty',bits',ord',key',rfl,e2⟩ | e2 <;> rw [e2] at h <;> cases h
  rfl
theorem v6 {fs:List (Str×D)} {nm ty ord key:Str} {bits:Int} (h:cL fs nm=.met ty bits ord key):fs.lookup nm=some (.tu [.ss "meta",.ss ty,.ii bits,.ss ord,.ss key]):=by
 exists fs,nm,ty,ord,key,bits,_ h
 unfold cL at h
 cases e:fs.lookup nm with
 | none=>rw [e] at h;contradiction
 | some d=>
  rw [e] at h
  dsimp only at h
  rcases eS d with ⟨ty',bits',pr',b',f',rfl,e2⟩ | ⟨ty',bits',ord',key',rfl,e2⟩ | e2 <;> rw [e2] at h <;> cases h
  rfl
theorem vY {fs:List (Str×D)} {nm nm':Str} (h:cL fs nm=.unk nm'):fs.lookup nm=none/\nm'=nm:=by
 unfold cL at h
 cases e:fs.lookup nm with
 | none=>rw [e] at h;cases h;exact ⟨rfl,rfl⟩
 | some d=>
  rw [e] at h
  dsimp only at h
  rcases eS d with ⟨ty',bits',pr',b',f',rfl,e2⟩ | ⟨ty',bits',ord',key',rfl,e2⟩ | e2 <;> rw [e2] at h <;> contradiction
theorem HV {w:World} {base:Heap} (W:Wd w base):aU w base 130 1 zj:=by
 refine bD W so0 false (Fk w) (FB _) (Ex _) 30 fun vs Z Q E q=>?_
 replace q:=aB q
 obtain ⟨zz,_,e1,e2,q⟩:=q;obtain ⟨fs,nm,_⟩:=zz
 obtain rfl:=(show vs=[.d (.di fs),.d (.ss nm)] from e1);obtain rfl:=(show Z=[] from e2)
 dsimp only at q
 refine ⟨rfl,?_⟩
 rw [DO]
 cases hu:cL fs nm with
 | pay ty bits proto bse first=>
  rw [hu] at q
  rw [vZ hu]
  exact bL rfl q
 | met ty bits ord key=>
  rw [hu] at q
  rw [v6 hu]
  exact bL rfl q
 | unk nm'=>
  rw [hu] at q
  clear e1;obtain ⟨hl,rfl⟩:=vY hu
  rw [hl]
  obtain ⟨c,q⟩:=ab.mp q
  obtain ⟨b1,b2⟩:=nR nm' (Nat.le_of_ble_eq_true c)
  exact dP rfl (ab.mpr ⟨b1,ab.mpr ⟨b2,q⟩⟩)
 | hsh=>rw [hu] at q;exact q.elim
 | oth t=>rw [hu] at q;exact q.elim
 | bad=>rw [hu] at q;exact q.elim
end Mine
namespace Mine
open PySem PySem.W PyProof.Rows PySem.SeqAt
noncomputable def dJ (acc:List Str) (x:Str):List Str:=match acc.any fun y=>decide (y=x) with
 | true=>acc
 | false=>acc++[x]
noncomputable def bR (acc:List Str) (l:List Str):List Str:=l.foldl dJ acc
noncomputable def Bn (u:Und):Option (List Str):=match u with
 | .pay _ _ pr _ _=>some [pr]
 | .met _ _ _ _=>some []
 | _=>none
inductive Pw where
 | fld (nm:Str)
 | num
 | sub (a:D)
 | bad
noncomputable def pwL (t:Str):List D->Pw
 | []=>.bad
 | a::r=>match r with
  | []=>cond (decide (t="field")) ((ssD a).elim .bad .fld) (cond (decide (t="num")) .num .bad)
  | _::r=>match r with
   | []=>cond (eN t||decide (t="map")) (.sub a) .bad
   | _::r=>match r with
    | []=>.bad
    | _::r=>cond (r.isEmpty&&decide (t="hash")) (.sub a) .bad
noncomputable def pwD (e:D):Pw:=match tuD e with
 | some l=>match l with
  | []=>.bad
  | h::r=>(ssD h).elim .bad fun t=>pwL t r
 | none=>.bad
noncomputable def PwR (e:D):Pw->Prop
 | .fld nm=>e=.tu [.ss "field",.ss nm]
 | .num=>∃ a,e=.tu [.ss "num",a]
 | .sub a=>(∃ t b,eN t=true/\e=.tu [.ss t,a,b])\/(∃ b,e=.tu [.ss "map",a,b])\/∃ b c d,e=.tu [.ss "hash",a,b,c,d]
 | .bad=>True
theorem Eh (e:D):PwR e (pwD e):=by
 unfold pwD
 cases et:tuD e with
 | none=>trivial
 | some l=>
  obtain rfl:=ig et;clear et
  cases l with
  | nil=>trivial
  | cons h r=>cases es:ssD h with
   | none=>dsimp only;rw [es];trivial
   | some t=>
    dsimp only
    rw [es,fi es];clear es
    show PwR _ (pwL t r)
    cases r with
    | nil=>trivial
    | cons a r=>cases r with
     | nil=>
      show PwR _ (cond _ _ (cond _ _ _))
      cases hd:decide (t="field") with
      | false=>cases hn:decide (t="num") with
       | false=>trivial
       | true=>exact ⟨a,by rw [of_decide_eq_true hn]⟩
      | true=>cases es:ssD a with
       | none=>trivial
       | some nm=>rw [of_decide_eq_true hd,fi es];rfl
     | cons b r=>cases r with
      | nil=>
       show PwR _ (cond (_||_) _ _)
       cases ht:eN t with
       | true=>exact .inl ⟨t,b,ht,rfl⟩
       | false=>cases hd:decide (t="map") with
        | true=>exact .inr (.inl ⟨b,by rw [of_decide_eq_true hd]⟩)
        | false=>trivial
      | cons c r=>cases r with
       | nil=>trivial
       | cons d r=>cases r with
        | nil=>
         show PwR _ (cond _ _ _)
         cases hd:decide (t="hash") with
         | true=>exact .inr (.inr ⟨b,c,d,by rw [of_decide_eq_true hd]⟩)
         | false=>trivial
        | cons _ _=>trivial
noncomputable def c9 (fs:List (Str×D)) (rec:D->Option (List Str)) (p:D):Option (List Str):=match pwD p with
 | .fld nm=>Bn (cL fs nm)
 | .num=>some []
 | .sub a=>rec a
 | .bad=>none
theorem uW {fs:List (Str×D)} {rec:D->Option (List Str)} {t:Str} {a b:D} (h:eN t=true):c9 fs rec (.tu [.ss t,a,b])=rec a:=by
 rw [c9,show pwD (.tu [.ss t,a,b])=cond (eN t||decide (t="map")) (.sub a) .bad from rfl,h];rfl
noncomputable def okS (acc l:List Str):Bool:=Nat.ble (acc.length+l.length) 1000&&(acc.all PyData.strOk&&l.all PyData.strOk)
noncomputable def cT (f:D->Option (List Str)):List D->List Str->Option (List Str)
 | [],acc=>some acc
 | p::r,acc=>match f p with
  | some l=>match okS acc l with
   | true=>cT f r (bR acc l)
   | false=>none
  | none=>none
noncomputable def ax (fs:List (Str×D)):Nat->D->Option (List Str)
 | 0,_=>none
 | k+1,e=>match aQ e with
  | true=>cT (c9 fs (ax fs k)) (am e) []
  | false=>none
noncomputable def tW (k:Nat):au:=mkS (pC (pD pF) (pC (pD pA) pN)) pN fun (fs,e,_) _ Q E=>grd (ax fs k e).isSome (Q (.d (.li (((ax fs k e).getD []).map .ss))) [])
noncomputable def LP (k:Nat) (P:Params):List (Addr×au):=[(179,qD),(130,zj),(193,tW k)]
noncomputable def SP (k:Nat) (P:Params):Tab:=aZ (LP k P) fzH fgH
noncomputable abbrev cD (P:Params):=n6 (ai (ae P 193) 1)
noncomputable abbrev dh (k:Nat) (P:Params):=(evN (SP k P) 29).ex (ac P 193)
noncomputable abbrev kE (k:Nat) (P:Params):=e7 (evN (SP k P) 28) (ac P 193) (vU (ai (cD P) 2)) (n6 (ai (cD P) 2))
noncomputable def U193 (fs:List (Str×D)) (e:D) (r:Mine.Loc):Mine.Loc:=("e",.d e)::("fields",.d (.di fs))::("protos",.ref 0)::r
theorem DF (k:Nat) (P:Params) (fs:List (Str×D)) (e:D) (Q:QV) (E:QE):vcf (SP k P) 30 P 193 qP false [.d (.di fs),.d e] [] Q E=
 grd (aQ e) (bq (stp 29 (SP k P) P 193 1) ((am e).map .d) (U193 fs e []) [.oc (.li [])] (cx 30 (SP k P) P 193 2 (a9 false 0 Q) (bE 0 E))):=by kernel_rfl
theorem bY {ex:Stmt->Mine.Loc->List aa->QF->QE->Prop} {s:Stmt} {r:List Stmt} {U:Mine.Loc} {Z:List aa} {K:QF} {E:QE}:bm ex (s::r) U Z K E=ex s U Z (aft ex r K E) E:=rfl
theorem jy {J:Ev} {N:aC} {t:Expr} {b:List Stmt} {v:V} {U U':Mine.Loc} {Z:List aa} {K:QF} (h:i0 N t v U=some U') (q:bm (J.ex N) b U' Z K fun _ _=>False):e7 J N t b v U Z K:=by
 unfold e7;rw [h];exact q
theorem CF (P:Params):cD P=[ai (cD P) 0,ai (cD P) 1,ai (cD P) 2]:=by kernel_rfl
noncomputable abbrev CM (P:Params):=vU (ai (ae P 193) 1)
theorem CB (P:Params) (fs:List (Str×D)) (e:D) (v:V):i0 (ac P 193) (CM P) v (U193 fs e [])=some (U193 fs e [("part",v)]):=by kernel_rfl
theorem CA (P:Params) (fs:List (Str×D)) (e:D) (v x y:V):i0 (ac P 193) (CM P) v (U193 fs e [("part",x),("found",y)])=some (U193 fs e [("part",v),("found",y)]):=by kernel_rfl
theorem Cz (P:Params) (fs:List (Str×D)) (e:D) (v x y z:V):i0 (ac P 193) (CM P) v (U193 fs e [("part",x),("found",y),("proto",z)])=some (U193 fs e [("part",v),("found",y),("proto",z)]):=by kernel_rfl
noncomputable abbrev Up (fs:List (Str×D)) (e p:D) (y:V):=U193 fs e [("part",.d p),("found",y)]
theorem Ec (k:Nat) (P:Params) (fs:List (Str×D)) (e p:D) (Z:List aa) (K:QF) (E:QE):dh k P (ai (cD P) 0) (U193 fs e [("part",.d p)]) Z K E=K .nx (Up fs e p (.ref Z.length)) (Z++[.oc (.li [])]):=by kernel_rfl
theorem Eb (k:Nat) (P:Params) (fs:List (Str×D)) (e p:D) (y:V) (Z:List aa) (K:QF) (E:QE):dh k P (ai (cD P) 0) (U193 fs e [("part",.d p),("found",y)]) Z K E=K .nx (Up fs e p (.ref Z.length)) (Z++[.oc (.li [])]):=by kernel_rfl
theorem Ea (k:Nat) (P:Params) (fs:List (Str×D)) (e p:D) (y z:V) (Z:List aa) (K:QF) (E:QE):dh k P (ai (cD P) 0) (U193 fs e [("part",.d p),("found",y),("proto",z)]) Z K E=K .nx (Up fs e p (.ref Z.length)) (Z++[.oc (.li [])]):=by kernel_rfl
theorem pq (k:Nat) (P:Params) (fs:List (Str×D)) (e:D) (nm:Str) (y:V) (Z:List aa) (K:QF) (E:QE):dh k P (ai (cD P) 1) (Up fs e (.tu [.ss "field",.ss nm]) y) Z K E=
 onU (cL fs nm) (fun ty bits pr b f=>K .nx (U193 fs e [("part",.d (.tu [.ss "field",.ss nm])),("found",.ref Z.length),("field",.d (.tu [.ss "payload",.ss ty,.ii bits,.ss "big",.tu [.ss pr,.ss b,.ii f]]))]) (Z++[.oc (.li [.ss pr])]))
  (fun ty bits o key=>K .nx (U193 fs e [("part",.d (.tu [.ss "field",.ss nm])),("found",y),("field",.d (.tu [.ss "meta",.ss ty,.ii bits,.ss o,.ss key]))]) Z)
  (fun nm=>grd (Nat.ble nm.length 1000) (E ("unknown field '"++nm++"'") Z)) False (fun _=>False) False:=by kernel_rfl
theorem u6 (k:Nat) (P:Params) (fs:List (Str×D)) (e a:D) (y:V) (Z:List aa) (K:QF) (E:QE):dh k P (ai (cD P) 1) (Up fs e (.tu [.ss "num",a]) y) Z K E=K .nx (Up fs e (.tu [.ss "num",a]) y) Z:=by kernel_rfl
theorem se (k:Nat) (P:Params) (fs:List (Str×D)) (e a b:D) (y:V) (Z:List aa) (K:QF) (E:QE):dh k P (ai (cD P) 1) (Up fs e (.tu [.ss "mask",a,b]) y) Z K E=
 grd (ax fs k a).isSome (K .nx (Up fs e (.tu [.ss "mask",a,b]) (.d (.li (((ax fs k a).getD []).map .ss)))) Z):=by kernel_rfl
theorem xL (k:Nat) (P:Params) (fs:List (Str×D)) (e a b:D) (y:V) (Z:List aa) (K:QF) (E:QE):dh k P (ai (cD P) 1) (Up fs e (.tu [.ss "or",a,b]) y) Z K E=
 grd (ax fs k a).isSome (K .nx (Up fs e (.tu [.ss "or",a,b]) (.d (.li (((ax fs k a).getD []).map .ss)))) Z):=by kernel_rfl
theorem uX (k:Nat) (P:Params) (fs:List (Str×D)) (e a b:D) (y:V) (Z:List aa) (K:QF) (E:QE):dh k P (ai (cD P) 1) (Up fs e (.tu [.ss "xor",a,b]) y) Z K E=
 grd (ax fs k a).isSome (K .nx (Up fs e (.tu [.ss "xor",a,b]) (.d (.li (((ax fs k a).getD []).map .ss)))) Z):=by kernel_rfl
theorem uZ (k:Nat) (P:Params) (fs:List (Str×D)) (e a b:D) (y:V) (Z:List aa) (K:QF) (E:QE):dh k P (ai (cD P) 1) (Up fs e (.tu [.ss "shl",a,b]) y) Z K E=
 grd (ax fs k a).isSome (K .nx (Up fs e (.tu [.ss "shl",a,b]) (.d (.li (((ax fs k a).getD []).map .ss)))) Z):=by kernel_rfl
theorem uY (k:Nat) (P:Params) (fs:List (Str×D)) (e a b:D) (y:V) (Z:List aa) (K:QF) (E:QE):dh k P (ai (cD P) 1) (Up fs e (.tu [.ss "shr",a,b]) y) Z K E=
 grd (ax fs k a).isSome (K .nx (Up fs e (.tu [.ss "shr",a,b]) (.d (.li (((ax fs k a).getD []).map .ss)))) Z):=by kernel_rfl
theorem u7 (k:Nat) (P:Params) (fs:List (Str×D)) (e a b:D) (y:V) (Z:List aa) (K:QF) (E:QE):dh k P (ai (cD P) 1) (Up fs e (.tu [.ss "map",a,b]) y) Z K E=
 grd (ax fs k a).isSome (K .nx (Up fs e (.tu [.ss "map",a,b]) (.d (.li (((ax fs k a).getD []).map .ss)))) Z):=by kernel_rfl
theorem sg (k:Nat) (P:Params) (fs:List (Str×D)) (e a b c d:D) (y:V) (Z:List aa) (K:QF) (E:QE):dh k P (ai (cD P) 1) (Up fs e (.tu [.ss "hash",a,b,c,d]) y) Z K E=
 grd (ax fs k a).isSome (K .nx (Up fs e (.tu [.ss "hash",a,b,c,d]) (.d (.li (((ax fs k a).getD []).map .ss)))) Z):=by kernel_rfl
theorem zl (k:Nat) (P:Params) (fs:List (Str×D)) (e p:D) (v:V) (Z:List aa) (K:QF) (E:QE):dh k P (ai (cD P) 2) (Up fs e p v) Z K E=
 nX v (Up fs e p v) Z (fun sv U Z=>match bS sv with
  | some items=>bq (kE k P) items U Z K
  | none=>False):=by kernel_rfl
theorem zk (k:Nat) (P:Params) (fs:List (Str×D)) (e p:D) (v w:V) (Z:List aa) (K:QF) (E:QE):dh k P (ai (cD P) 2) (U193 fs e [("part",.d p),("found",v),("field",w)]) Z K E=
 nX v (Up fs e p v) Z (fun sv U Z=>match bS sv with
  | some items=>bq (kE k P) items U Z K
  | none=>False):=by kernel_rfl
theorem EW (k:Nat) (P:Params) (fs:List (Str×D)) (e p:D) (x:Str) (v:V) (l:List D) (J:List aa) (K:QF):kE k P (.d (.ss x)) (Up fs e p v) (.oc (.li l)::J) K=
(grd (PyData.strOk x&&PyData.canLayAll0 (pyL l))
(cnd (!List.any (pyL l) fun y=>PyData.eqv y (PyData.str x))
 (grd (Nat.ble (List.length l) 1048576)
  (K Fl.nx (U193 fs e [("part",.d p),("found",v),("proto",.d (.ss x))]) (aa.oc (OC.li (l++[D.ss x]))::J)))
 (K Fl.nx (U193 fs e [("part",.d p),("found",v),("proto",.d (.ss x))]) (aa.oc (OC.li l)::J)))):=by kernel_rfl
theorem EU (k:Nat) (P:Params) (fs:List (Str×D)) (e p:D) (x:Str) (v z:V) (l:List D) (J:List aa) (K:QF):kE k P (.d (.ss x)) (U193 fs e [("part",.d p),("found",v),("proto",z)]) (.oc (.li l)::J) K=
(grd (PyData.strOk x&&PyData.canLayAll0 (pyL l))
(cnd (!List.any (pyL l) fun y=>PyData.eqv y (PyData.str x))
 (grd (Nat.ble (List.length l) 1048576)
  (K Fl.nx (U193 fs e [("part",.d p),("found",v),("proto",.d (.ss x))]) (aa.oc (OC.li (l++[D.ss x]))::J)))
 (K Fl.nx (U193 fs e [("part",.d p),("found",v),("proto",.d (.ss x))]) (aa.oc (OC.li l)::J)))):=by kernel_rfl
theorem w6 (acc:List Str) (x:Str):((pyL (acc.map .ss)).any fun y=>PyData.eqv y (.str x))=acc.any fun y=>decide (y=x):=by
 induction acc with
 | nil=>rfl
 | cons a r ih=>
  show (PyData.eqv (D.py (.ss a)) (D.py (.ss x))||_)=(decide (a=x)||_)
  rw [iD];congr 1
theorem mJ:∀ {acc:List Str},acc.all PyData.strOk=true->PyData.canLayAll0 (pyL (acc.map .ss))=true
 | [],_=>rfl
 | a::r,h=>by
  rw [List.all_cons,Bool.and_eq_true] at h
  show (PyData.canLay0 (D.py (.ss a))&&PyData.canLayAll0 (pyL (r.map .ss)))=true
  rw [Bool.and_eq_true]
  exact ⟨h.1,mJ h.2⟩
theorem oU (acc:List Str) (x:Str):(dJ acc x).length<=acc.length+1:=by
 unfold dJ;split <;> simp
theorem rA {acc:List Str} {x:Str} (h:acc.all PyData.strOk=true) (hx:PyData.strOk x=true):(dJ acc x).all PyData.strOk=true:=by
 unfold dJ
 split
 · exact h
 · rw [List.all_append,h];simp [hx]
theorem gy:∀ (l acc:List Str),(bR acc l).length<=acc.length+l.length:=by
 intro l
 induction l with
 | nil=>
  intro acc
  exact Nat.le_refl _
 | cons x r ih=>
  intro acc
  have h1:=oU acc x
  have h2:=ih (dJ acc x)
  show (bR (dJ acc x) r).length<=_
  rw [List.length_cons];omega
theorem f6:∀ {l acc:List Str},acc.all PyData.strOk=true->l.all PyData.strOk=true->(bR acc l).all PyData.strOk=true
 | [],acc,h,_=>h
 | x::r,acc,h,hl=>by
  rw [List.all_cons,Bool.and_eq_true] at hl
  exact f6 (l:=r) (rA h hl.1) hl.2
noncomputable def s4 (fs:List (Str×D)) (e:D) (U:Mine.Loc):Prop:=U=U193 fs e []\/(∃ p y,U=U193 fs e [("part",.d p),("found",y)])\/∃ p y z,U=U193 fs e [("part",.d p),("found",y),("proto",z)]
theorem vO (k:Nat) (P:Params) (fs:List (Str×D)) (e p:D) (v:V) (J:List aa) {K:QF}:∀ (l acc:List Str) (U:Mine.Loc),(U=Up fs e p v\/∃ z,U=U193 fs e [("part",.d p),("found",v),("proto",z)])->okS acc l=true->
  (∀ U',s4 fs e U'->K .nx U' (.oc (.li ((bR acc l).map .ss))::J))->bq (kE k P) ((l.map D.ss).map .d) U (.oc (.li (acc.map .ss))::J) K:=by
 intro l
 induction l with
 | nil=>
  intro acc U hU _ hK
  show K .nx U _
  refine hK U ?_
  rcases hU with rfl | ⟨z,rfl⟩
  · exact .inr (.inl ⟨_,_,rfl⟩)
  · exact .inr (.inr ⟨_,_,_,rfl⟩)
 | cons x r ih=>
  intro acc U hU hok hK
  unfold okS at hok
  simp only [Bool.and_eq_true,List.all_cons] at hok
  obtain ⟨h1,h2,h3,h4⟩:=hok
  have h1:=Nat.le_of_ble_eq_true h1
  rw [List.length_cons] at h1
  have ih:bq (kE k P) ((r.map D.ss).map .d) (U193 fs e [("part",.d p),("found",v),("proto",.d (.ss x))]) (.oc (.li ((dJ acc x).map .ss))::J) K:=
   ih (dJ acc x) _ (.inr ⟨_,rfl⟩) (by
    unfold okS
    have:=oU acc x
    exact ah (ao (by omega)) (ah (rA h2 h3) h4)) hK
  have main:(grd (PyData.strOk x&&PyData.canLayAll0 (pyL (acc.map .ss))) (cnd (!List.any (pyL (acc.map .ss)) fun y=>PyData.eqv y (PyData.str x)) (grd (Nat.ble (List.length (acc.map D.ss)) 1048576) (bq (kE k P) ((r.map D.ss).map .d) (U193 fs e [("part",.d p),("found",v),("proto",.d (.ss x))]) (aa.oc (OC.li (acc.map .ss++[D.ss x]))::J) K)) (bq (kE k P) ((r.map D.ss).map .d) (U193 fs e [("part",.d p),("found",v),("proto",.d (.ss x))]) (aa.oc (OC.li (acc.map .ss))::J) K))):=by
   refine ab.mpr ⟨ah h3 (mJ h2),?_⟩
   rw [w6]
   unfold dJ at ih
   cases ha:acc.any fun y=>decide (y=x) with
   | true=>rw [ha] at ih;exact bL rfl ih
   | false=>
    rw [ha] at ih
    refine dP rfl (ab.mpr ⟨ao (by rw [List.length_map];omega),?_⟩)
    have ih:bq (kE k P) ((r.map D.ss).map .d) _ (.oc (.li ((acc++[x]).map .ss))::J) K:=ih
    rw [List.map_append] at ih
    exact ih
  show kE k P (.d (.ss x)) U _ _
  clear h1;rcases hU with rfl | ⟨z,rfl⟩
  · rw [EW];exact main
  · rw [EU];exact main
theorem pV (fs:List (Str×D)) (e p:D) (A:OC) (J:List aa) (i:Nat) (B:List D) (F:V->Mine.Loc->List aa->Prop) (h:J[i]?=some (.oc (.li B))):
  nX (.ref (i+1)) (Up fs e p (.ref (i+1))) (.oc A::J) F=F (.d (.li B)) (Up fs e p (.d (.li B))) (.oc A::J.set i .dead):=by
 have h':(aa.oc A::J)[i+1]?=some (.oc (.li B)):=by simpa using h
 have e0:Nat.beq 0 (i+1)=false:=by clear h' h;cases i <;> rfl
 have e1:Nat.beq (i+1) (i+1)=true:=Nat.beq_refl _
 unfold nX
 rw [show ui (.ref (i+1))=some (i+1) from rfl]
 dsimp only
 rw [xN h']
 show F (.d (ocD (.li B))) (eQ (Up fs e p (.ref (i+1))) (i+1) (ocD (.li B))) ((aa.oc A::J).set (i+1) .dead)=_
 have:eQ (Up fs e p (.ref (i+1))) (i+1) (ocD (.li B))=Up fs e p (.d (.li B)):=by
  show eQ (("e",.d e)::("fields",.d (.di fs))::("protos",.ref 0)::("part",.d p)::("found",.ref (i+1))::[]) _ _=_
  simp only [eQ,e0,e1]
  rfl
 rw [this]
 rfl
theorem fZ (k:Nat) (P:Params) (fs:List (Str×D)) (e p:D) (J:List aa) {K:QF} (l acc:List Str) (hok:okS acc l=true) (F:V->Mine.Loc->List aa->Prop)
  (hF:F=fun sv U Z=>match bS sv with
  | some items=>bq (kE k P) items U Z (aft (dh k P) [] K fun _ _=>False)
  | none=>False) (hK:∀ U' J',s4 fs e U'->K .nx U' (.oc (.li ((bR acc l).map .ss))::J')) (w:V):F (.d (.li (l.map .ss))) (Up fs e p w) (.oc (.li (acc.map .ss))::J):=by
 subst hF
 exact vO k P fs e p w J l acc _ (.inl rfl) hok fun U' h=>hK U' J h
theorem uh (k:Nat) (P:Params) (fs:List (Str×D)) (e p:D) (acc:List Str) (J:List aa) (U:Mine.Loc) {K:QF} {l:List Str} (hU:s4 fs e U) (hp:c9 fs (ax fs k) p=some l) (hok:okS acc l=true)
  (hK:∀ U' J',s4 fs e U'->K .nx U' (.oc (.li ((bR acc l).map .ss))::J')):stp 29 (SP k P) P 193 1 (.d p) U (.oc (.li (acc.map .ss))::J) K:=by
 exists k,P,fs,e,p,acc,J,U,K,l,_ hU hp hok hK
 have hlen:(aa.oc (.li (acc.map .ss))::J).length=J.length+1:=rfl
 have key:bm (dh k P) [ai (cD P) 1,ai (cD P) 2] (Up fs e p (.ref (J.length+1))) ((aa.oc (.li (acc.map .ss))::J)++[.oc (.li [])]) K (fun _ _=>False):=by
  rw [bY]
  have hJ:(J++[aa.oc (.li [])])[J.length]?=some (.oc (.li [])):=by simp
  have given:∀ (a:D),ax fs k a=some l->∀ (p:D),(grd (ax fs k a).isSome ((aft (dh k P) [ai (cD P) 2] K fun _ _=>False) .nx (Up fs e p (.d (.li (((ax fs k a).getD []).map .ss)))) ((aa.oc (.li (acc.map .ss))::J)++[.oc (.li [])]))):=fun a ha p=>by
   rw [ha]
   refine ab.mpr ⟨rfl,?_⟩
   show bm (dh k P) [ai (cD P) 2] _ _ _ _
   rw [bY,zl]
   exact fZ k P fs e p _ l acc hok _ rfl hK _
  unfold c9 at hp
  have z:=Eh p
  cases hv:pwD p with
  | fld nm=>
   rw [hv] at hp z
   obtain rfl:=(show p=.tu [.ss "field",.ss nm] from z)
   clear hv given z
   replace hp:Bn (cL fs nm)=some l:=hp
   rw [pq]
   cases hu:cL fs nm with
   | pay ty bits pr b f=>
    rw [hu] at hp
    cases hp
    show bm (dh k P) [ai (cD P) 2] _ _ _ _
    rw [bY,zk]
    have hl:((aa.oc (.li (acc.map .ss))::J)++[aa.oc (.li [])]).length=(J.length+1)+1:=by simp
    rw [hl]
    have e2:((aa.oc (.li (acc.map .ss))::J)++[aa.oc (.li [])])++[aa.oc (.li [.ss pr])]=aa.oc (.li (acc.map .ss))::(J++[aa.oc (.li []),aa.oc (.li [.ss pr])]):=by simp
    rw [e2,pV fs e _ _ _ (J.length+1) [.ss pr] _ (by simp)]
    exact fZ k P fs e _ _ [pr] acc hok _ rfl hK _
   | met ty bits o key=>
    rw [hu] at hp
    cases hp
    show bm (dh k P) [ai (cD P) 2] _ _ _ _
    rw [bY,zk]
    have e2:((aa.oc (.li (acc.map .ss))::J)++[aa.oc (.li [])])=aa.oc (.li (acc.map .ss))::(J++[aa.oc (.li [])]):=rfl
    rw [e2,pV fs e _ _ _ J.length [] _ hJ]
    exact fZ k P fs e _ _ [] acc hok _ rfl hK _
   | _=>rw [hu] at hp;exact nS hp
  | num=>
   rw [hv] at hp z
   obtain ⟨a,rfl⟩:=z
   clear hv given
   cases (show some []=some l from hp)
   rw [u6]
   show bm (dh k P) [ai (cD P) 2] _ _ _ _
   rw [bY,zl]
   have e2:((aa.oc (.li (acc.map .ss))::J)++[aa.oc (.li [])])=aa.oc (.li (acc.map .ss))::(J++[aa.oc (.li [])]):=rfl
   rw [e2,pV fs e _ _ _ J.length [] _ hJ]
   exact fZ k P fs e _ _ [] acc hok _ rfl hK _
  | sub a=>
   rw [hv] at hp z
   have g:=given a hp
   clear given hp hv
   rcases z with ⟨t,b,ht,rfl⟩ | ⟨b,rfl⟩ | ⟨b,c,d,rfl⟩
   · rcases dD ht with rfl | rfl | rfl | rfl | rfl
     · rw [se];exact g _
     · rw [xL];exact g _
     · rw [uX];exact g _
     · rw [uZ];exact g _
     · rw [uY];exact g _
   · rw [u7];exact g _
   · rw [sg];exact g _
  | bad=>rw [hv] at hp;exact nS hp
 rcases hU with rfl | ⟨p',y,rfl⟩ | ⟨p',y,z,rfl⟩
 · refine jy (CB P fs e (.d p)) ?_
   show bm (dh k P) (cD P) _ _ _ _
   rw [CF,bY,Ec];exact key
 · refine jy (CA P fs e (.d p) _ _) ?_
   show bm (dh k P) (cD P) _ _ _ _
   rw [CF,bY,Eb];exact key
 · refine jy (Cz P fs e (.d p) _ _ _) ?_
   show bm (dh k P) (cD P) _ _ _ _
   rw [CF,bY,Ea];exact key
theorem r7 (k:Nat) (P:Params) (fs:List (Str×D)) (e:D) {K:QF} {L:List Str}:∀ (ps:List D) (acc:List Str) (J:List aa) (U:Mine.Loc),s4 fs e U->cT (c9 fs (ax fs k)) ps acc=some L->
  (∀ U' J',s4 fs e U'->K .nx U' (.oc (.li (L.map .ss))::J'))->bq (stp 29 (SP k P) P 193 1) (ps.map .d) U (.oc (.li (acc.map .ss))::J) K:=by
 intro ps
 induction ps with
 | nil=>
  intro acc J U hU hf hK
  cases hf
  exact hK U J hU
 | cons p r ih=>
  intro acc J U hU hf hK
  unfold cT at hf
  split at hf
  · rename_i l hp
    split at hf
    · rename_i hok
      show stp 29 (SP k P) P 193 1 (.d p) U _ _
      exact uh k P fs e p acc J U hU hp hok fun U' J' h'=>ih _ J' U' h' hf hK
    · contradiction
  · contradiction
theorem Ck (k:Nat) (P:Params) (fs:List (Str×D)) (e:D) (l:List D) (J:List aa) (Q:QV) (E:QE):(cx 30 (SP k P) P 193 2 (a9 false 0 Q) (bE 0 E)) .nx (U193 fs e []) (.oc (.li l)::J)=Q (V.d (D.li l)) []:=by kernel_rfl
theorem Cj (k:Nat) (P:Params) (fs:List (Str×D)) (e:D) (x y:V) (l:List D) (J:List aa) (Q:QV) (E:QE):(cx 30 (SP k P) P 193 2 (a9 false 0 Q) (bE 0 E)) .nx (U193 fs e [("part",x),("found",y)]) (.oc (.li l)::J)=Q (V.d (D.li l)) []:=by kernel_rfl
theorem Ci (k:Nat) (P:Params) (fs:List (Str×D)) (e:D) (x y z:V) (l:List D) (J:List aa) (Q:QV) (E:QE):(cx 30 (SP k P) P 193 2 (a9 false 0 Q) (bE 0 E)) .nx (U193 fs e [("part",x),("found",y),("proto",z)]) (.oc (.li l)::J)=Q (V.d (D.li l)) []:=by kernel_rfl
theorem HS {w:World} {base:Heap} (W:Wd w base):∀ k,aU w base 193 (2+k) (tW k):=by
 intro k
 induction k with
 | zero=>
  refine fun A stk G O Z vs cs s Q E QQ EE h1 h2 h3 h4 h5 h6 h7 h8 q=>?_
  replace q:=aB q
  obtain ⟨zz,_,e1,e2,q⟩:=q;obtain ⟨fs,e,_⟩:=zz
  exact aX (ab.mp q).1
 | succ k ih=>
  have lp:LOk w base (2+k) (LP k w.params):=LOk.cons ((BV W).mono (Nat.le_trans (by decide) (Nat.le_add_right 2 k))) (BF _) (LOk.cons ((HV W).mono (Nat.le_trans (by decide) (Nat.le_add_right 2 k))) (EK _) (LOk.cons ih (EI _) LOk.nil))
  refine bD W (LOk.so (fz:=fzH) (fg:=fgH) lp) false (Iw w) (Jj _) (GF _) 30 fun vs Z Q E q=>?_
  replace q:=aB q
  obtain ⟨zz,_,e1,e2,q⟩:=q;obtain ⟨fs,e,_⟩:=zz
  obtain rfl:=(show vs=[.d (.di fs),.d e] from e1);obtain rfl:=(show Z=[] from e2)
  dsimp only at q
  obtain ⟨c,q⟩:=ab.mp q
  refine ⟨rfl,?_⟩
  show vcf (SP k w.params) 30 w.params 193 qP false _ _ _ _
  rw [DF]
  cases hp:ax fs (k+1) e with
  | none=>rw [hp] at c;exact aX c
  | some L=>
   rw [hp] at q
   unfold ax at hp
   split at hp
   · rename_i hparts
     refine ab.mpr ⟨hparts,?_⟩
     refine r7 k w.params fs e _ [] [] _ (.inl rfl) hp fun U' J' hR=>?_
     rcases hR with rfl | ⟨p',y,rfl⟩ | ⟨p',y,z,rfl⟩
     · rw [Ck];exact q
     · rw [Cj];exact q
     · rw [Ci];exact q
   · exact nS hp
end Mine
namespace Mine
open PySem PySem.W PyProof.Rows PySem.SeqAt
noncomputable def LN1 (P:Params):List (Addr×au):=[(116,inl S0 30 P 116 qR false),(362,inl S0 30 P 362 qK false),(369,inl S0 30 P 369 qJ false)]
noncomputable def SN1 (P:Params):Tab:=aZ (LN1 P)
theorem lN1 {w:World} {base:Heap} (W:Wd w base):LOk w base 1 (LN1 w.params):=LOk.cons (aS W so0 false (Fm w) (FC _) (Ey _) 30) (EL _) (LOk.cons (aS W so0 false (Fh w) (Fy _) (Et _) 30) (ED _) (LOk.cons (aS W so0 false (Fg w) (Fw _) (Es _) 30) (EC _) LOk.nil))
noncomputable def LN2 (P:Params):List (Addr×au):=(123,inl (SN1 P) 30 P 123 uQ false)::LN1 P
noncomputable def SN2 (P:Params):Tab:=aZ (LN2 P)
theorem lN2 {w:World} {base:Heap} (W:Wd w base):LOk w base 2 (LN2 w.params):=LOk.cons (aS W (LOk.so (fz:=fun _=>[]) (fg:=fun _=>[]) (lN1 W)) false (IF w) (Js _) (GO _) 30) (Hs _) ((lN1 W).mono (by decide))
noncomputable def za  : au:=mkS pN pN fun _ _ Q E=>Q (.d (.bb true)) []
theorem DA (P:Params) (Q:QV) (E:QE):vcf (SN2 P) 30 P 374 uu false [] [] Q E=Q (.d (.bb true)) []:=by kernel_rfl
theorem HM {w:World} {base:Heap} (W:Wd w base):aU w base 374 3 za:=by
 refine pW W (LOk.so (fz:=fun _=>[]) (fg:=fun _=>[]) (lN2 W)) false (Ic w) (IZ _) 30 fun vs Z Q E q=>?_
 replace q:=aB q
 obtain ⟨_,_,e1,e2,q⟩:=q
 obtain rfl:=(show vs=[] from e1);obtain rfl:=(show Z=[] from e2)
 try dsimp only at q
 refine ⟨rfl,?_⟩
 have:=DA w.params Q E
 unfold SN2 at this
 rw [this];exact q
end Mine
namespace Mine
open PySem PySem.W PyProof.Rows PySem.SeqAt
structure EV where
 data:Array UInt8
 link:Array UInt8
 kind:Int
 l4:Int
 off:Int
 mark:Int
noncomputable def lH (mark:Int):List (Str×D):=[("mark",.ii mark),("priority",.ii 0),("iif",.ii 0),("oif",.ii 0),("iifname",.ii 0),("oifname",.ii 0),("pkttype",.ii 0),("iiftype",.ii 1),("oiftype",.ii 1)]
noncomputable def pkF (v:EV):List (Str×D):=[("data",.ba v.data),("link",.ba v.link),("kind",.ii v.kind),("place",.ii 0),("l4",.ii v.l4),("off",.ii v.off),("meta",.di (lH v.mark))]
noncomputable def scF (v:EV):List (Str×D):=[("packet",.ob 231 (pkF v)),("now",.ii 5),("hook",.ss "input"),("talk",.nn),("state",.ii 1),("is_reply",.ii 0),("talks",.nn),("sets",.di []),("objects",.di []),("fields",.di FLD),("doers",.di []),("ops",.di []),("tools",.di []),("order",.ss "little"),("replies",.li []),("steps",.nn),("homes",.di []),
 ("readers",.di [("payload",.gl (.ref 435)),("meta",.gl (.ref 442))])]
noncomputable def scC (v:EV) (log:List D):aa:=.inst 274 (scF v) [("log",.li log)]
noncomputable def Lfb (P:Params):List (Addr×au):=[(249,inl S0 30 P 249 uC false),(207,ze)]
noncomputable def Sfb (P:Params):Tab:=aZ (Lfb P)
noncomputable def spF:au:=fun _ _ _ _=>False
theorem fF {w:World} {base:Heap} {a:Addr} {n:Nat}:aU w base a n spF:=fun A stk G O Z vs cs s Q E QQ EE h1 h2 h3 h4 h5 h6 h7 h8 q=>q.elim
end Mine
namespace Mine
open PySem PySem.W PyProof.Rows PySem.SeqAt
noncomputable def qO (o:Option Int) (Q:V->Prop):Prop:=cnd o.isNone (Q (.d .nn)) (Q (.d (.ii (o.getD 0))))
noncomputable def fD (g b bg f m:Int):Option Int:=match decide (bg<0) with
 | true=>none
 | false=>match decide (b<bg+f+m) with
  | true=>none
  | false=>some (fB g b bg f m)
noncomputable def eZ:Str:="link"
noncomputable def rR:Str:="network"
noncomputable def Aw:Str:="transport"
noncomputable def gs (v:EV) (b:Str) (f m:Int):Option Int:=match decide (b=eZ) with
 | true=>fD (df v.link) (8*(v.link.size:Int)) 0 f m
 | false=>match decide (b=rR) with
  | true=>fD (df v.data) (8*(v.data.size:Int)) 0 f m
  | false=>fD (df v.data) (8*(v.data.size:Int)) (8*v.off) f m
noncomputable def vL (b:Str):Bool:=decide (b=eZ)||(decide (b=rR)||decide (b=Aw))
noncomputable def E2 (f m:Int):Bool:=leB 0 f&&(leB f 1000&&(leB 1 m&&leB m 200))
noncomputable def evB (v:EV):Bool:=Nat.ble v.link.size 64&&(Nat.ble v.data.size 64&&(leB v.off 300&&leB (-300) v.off))
noncomputable def B9 (pk:List (Str×D)):EV:=
 ⟨match pk.lookup (Str.ofString "data") with | some (.ba b)=>b | _=>#[],match pk.lookup (Str.ofString "link") with | some (.ba b)=>b | _=>#[],
  match pk.lookup (Str.ofString "kind") with | some (.ii b)=>b | _=>0,match pk.lookup (Str.ofString "l4") with | some (.ii b)=>b | _=>0,
  match pk.lookup (Str.ofString "off") with | some (.ii b)=>b | _=>0,match pk.lookup (Str.ofString "meta") with | some (.di ((_,.ii m)::_))=>m | _=>0⟩
theorem wa (v:EV):B9 (pkF v)=v:=by kernel_rfl
noncomputable def clB (p:Prop):Bool:=@decide p (Classical.propDecidable p)
theorem wO {p:Prop} (h:p):clB p=true:=@decide_eq_true p (Classical.propDecidable p) h
theorem wP {p:Prop} (h:clB p=true):p:=@of_decide_eq_true p (Classical.propDecidable p) h
noncomputable def pkB (pk:List (Str×D)):Bool:=clB (∃ v,pk=pkF v/\evB v=true)
theorem uT {v:EV} (h:evB v=true):pkB (pkF v)=true:=wO ⟨v,rfl,h⟩
theorem Bm {pk:List (Str×D)} (h:pkB pk=true):∃ v,pk=pkF v/\evB v=true:=wP h
noncomputable def zc  : au:=mkS (pC (pD pOb) (pC (pD pS) (pC (pD pI) (pC (pD pI) pN)))) pN fun ((C,pk),b,f,m,_) _ Q E=>grd (Nat.beq C 231&&(pkB pk&&(vL b&&E2 f m))) (qO (gs (B9 pk) b f m) fun x=>Q x [])
theorem Ae (P:Params) (v:EV) (f m:Int) (Q:QV) (E:QE):vcf (Sfb P) 30 P 256 lz false [.d (.ob 231 (pkF v)),.d (.ss "link"),.d (.ii f),.d (.ii m)] [] Q E=
(grd (Nat.ble (Array.size (EV.link v)) 16777216)
(cnd (PyData.eqv (D.py (D.ii ↑(Array.size (EV.link v)))) (D.py (D.ii 0)))
 (Q (V.d D.nn) [])
 (cnd (decide (f<0))
  (Q (V.d D.nn) [])
  (grd (Nat.ble (Array.size (EV.link v)) 64&&(leB 0 (0*8+f)&&(leB (0*8+f) 4096&&(leB 0 m&&leB m 1024))))
   (cnd (decide (8*↑(Array.size (EV.link v))<0+(0*8+f)+m))
    (Q (V.d D.nn) [])
    (Q (V.d (D.ii (fB (df (EV.link v)) (8*↑(Array.size (EV.link v))) 0 (0*8+f) m))) [])))))):=by kernel_rfl
theorem Ad (P:Params) (v:EV) (f m:Int) (Q:QV) (E:QE):vcf (Sfb P) 30 P 256 lz false [.d (.ob 231 (pkF v)),.d (.ss "network"),.d (.ii f),.d (.ii m)] [] Q E=
(cnd (decide (f<0))
(Q (V.d D.nn) [])
(grd (Nat.ble (Array.size (EV.data v)) 64&&(leB 0 (0*8+f)&&(leB (0*8+f) 4096&&(leB 0 m&&leB m 1024))))
 (cnd (decide (8*↑(Array.size (EV.data v))<0+(0*8+f)+m))
  (Q (V.d D.nn) [])
  (Q (V.d (D.ii (fB (df (EV.data v)) (8*↑(Array.size (EV.data v))) 0 (0*8+f) m))) [])))):=by kernel_rfl
theorem Ac (P:Params) (v:EV) (f m:Int) (Q:QV) (E:QE):vcf (Sfb P) 30 P 256 lz false [.d (.ob 231 (pkF v)),.d (.ss "transport"),.d (.ii f),.d (.ii m)] [] Q E=
(cnd (decide (EV.off v<0))
(Q (V.d D.nn) [])
(cnd (decide (f<0))
 (Q (V.d D.nn) [])
 (grd (okB 4096 (EV.off v)&&okB 4096 8)
  (grd (Nat.ble (Array.size (EV.data v)) 64&&
  (leB 0 (EV.off v*8+f)&&(leB (EV.off v*8+f) 4096&&(leB 0 m&&leB m 1024))))
   (cnd (decide (8*↑(Array.size (EV.data v))<0+(EV.off v*8+f)+m))
    (Q (V.d D.nn) [])
    (Q (V.d (D.ii (fB (df (EV.data v)) (8*↑(Array.size (EV.data v))) 0 (EV.off v*8+f) m))) [])))))):=by kernel_rfl
theorem qh (g b o f m:Int):fB g b 0 (o*8+f) m=fB g b (8*o) f m:=by
 unfold fB
 rw [show 0+(o*8+f)+m=8*o+f+m by omega]
theorem wC (g b f m:Int):fB g b 0 (0*8+f) m=fB g b 0 f m:=by
 unfold fB
 rw [show 0+(0*8+f)+m=0+f+m by omega]
theorem HP {w:World} {base:Heap} (W:Wd w base):aU w base 256 3 zc:=by
 exists w,base,_ W
 have Lfb':LOk w base 2 (Lfb w.params):=LOk.cons ((aS W so0 false (Ip w) (Jd _) (GA _) 30:aU w base 249 (0+1) _).mono (by decide)) (Hk _) (LOk.cons (HQ W) (Hn _) LOk.nil)
 refine bD W (LOk.so (fz:=fun _=>[]) (fg:=fun _=>[]) Lfb') false (Io w) (Jc _) (Gz _) 30 fun vs Z Q E q=>?_;exists vs,Z,Q,E,_ q
 replace q:=aB q
 obtain ⟨zz,_,e1,e2,q⟩:=q;obtain ⟨zy,b,f,m,_⟩:=zz;obtain ⟨C,pk⟩:=zy
 obtain rfl:=(show vs=[.d (.ob C pk),.d (.ss b),.d (.ii f),.d (.ii m)] from e1);obtain rfl:=(show Z=[] from e2)
 dsimp only at q
 replace q:=ab.mp q
 obtain ⟨c,q⟩:=q
 simp only [Bool.and_eq_true] at c
 obtain ⟨c1,c2,c3,c4⟩:=c
 obtain rfl:=Nat.eq_of_beq_eq_true c1
 obtain ⟨v,rfl,hv⟩:=Bm c2
 rw [wa] at q
 refine ⟨rfl,?_⟩
 show vcf (Sfb w.params) 30 w.params 256 lz false _ _ _ _
 unfold evB at hv
 simp only [Bool.and_eq_true] at hv
 obtain ⟨v1,v2,v3,v4⟩:=hv
 have v1':=Nat.le_of_ble_eq_true v1
 have v2':=Nat.le_of_ble_eq_true v2
 have v3':=ak.mp v3
 have v4':=ak.mp v4
 unfold E2 at c4
 simp only [Bool.and_eq_true] at c4
 obtain ⟨m1,m2,m3,m4⟩:=c4
 have m1':=ak.mp m1
 have m2':=ak.mp m2
 have m3':=ak.mp m3
 have m4':=ak.mp m4
 unfold vL at c3
 simp only [Bool.or_eq_true,decide_eq_true_eq] at c3
 clear e1;rcases c3 with rfl | rfl | rfl
 · rw [show eZ="link" from rfl,Ae]
   have e:gs v eZ f m=fD (df v.link) (8*(v.link.size:Int)) 0 f m:=rfl
   rw [e] at q
   refine ab.mpr ⟨ao (by omega),?_⟩
   rw [bC]
   unfold fD at q
   simp only [Int.lt_irrefl,decide_false] at q
   refine aO (fun h=>?_) fun h=>bL (decide_eq_false (by omega)) (ab.mpr ⟨ah v1 (ah (an (by omega)) (ah (an (by omega)) (ah (an (by omega)) (an (by omega))))),?_⟩)
   · have h:=of_decide_eq_true h
     rw [decide_eq_true (show 8*(v.link.size:Int)<0+f+m by omega)] at q
     exact q
   · rw [wC,show 0+(0*8+f)+m=0+f+m by omega]
     refine aO (fun h=>by rw [h] at q;exact q) fun h=>by rw [h] at q;exact q
 · rw [show rR="network" from rfl,Ad]
   have e:gs v rR f m=fD (df v.data) (8*(v.data.size:Int)) 0 f m:=rfl
   rw [e] at q
   unfold fD at q
   simp only [Int.lt_irrefl,decide_false] at q
   refine bL (decide_eq_false (by omega)) (ab.mpr ⟨ah v2 (ah (an (by omega)) (ah (an (by omega)) (ah (an (by omega)) (an (by omega))))),?_⟩)
   rw [wC,show 0+(0*8+f)+m=0+f+m by omega]
   refine aO (fun h=>by rw [h] at q;exact q) fun h=>by rw [h] at q;exact q
 · rw [show Aw="transport" from rfl,Ac]
   have e:gs v Aw f m=fD (df v.data) (8*(v.data.size:Int)) (8*v.off) f m:=rfl
   rw [e] at q
   unfold fD at q
   refine aO (fun h=>?_) fun h=>?_
   · have h:=of_decide_eq_true h
     rw [decide_eq_true (show 8*v.off<0 by omega)] at q
     exact q
   · have h:=of_decide_eq_false h
     rw [decide_eq_false (show ¬ 8*v.off<0 by omega)] at q
     refine bL (decide_eq_false (by omega)) (ab.mpr ⟨ah (bP 12 (by omega) (by decide)) (by decide),ab.mpr ⟨ah v2 (ah (an (by omega)) (ah (an (by omega)) (ah (an (by omega)) (an (by omega))))),?_⟩⟩)
     rw [qh,show 0+(v.off*8+f)+m=8*v.off+f+m by omega]
     refine aO (fun h=>?_) fun h=>?_
     · rw [h] at q;exact q
     · rw [h] at q;exact q
end Mine
namespace Mine
open PySem PySem.W PyProof.Rows PySem.SeqAt
structure Row where
 name:Str
 proto:Str
 bse:Str
 first:Int
 many:Int
 ty:Str
noncomputable def s5:List Row:=[
 ⟨"ether saddr","ether","link",48,48,"ether_addr"⟩,
 ⟨"ether type","ether","link",96,16,"ether_type"⟩,
 ⟨"vlan pcp","vlan","link",112,3,"integer"⟩,
 ⟨"vlan type","vlan","link",128,16,"ether_type"⟩,
 ⟨"arp operation","arp","network",48,16,"arp_op"⟩,
 ⟨"arp daddr ether","arp","network",144,48,"ether_addr"⟩,
 ⟨"ip dscp","ip","network",8,6,"dscp"⟩,
 ⟨"ip daddr","ip","network",128,32,"ipv4_addr"⟩,
 ⟨"ip6 flowlabel","ip6","network",12,20,"integer"⟩,
 ⟨"ip6 saddr","ip6","network",64,128,"ipv6_addr"⟩,
 ⟨"tcp doff","tcp","transport",96,4,"integer"⟩,
 ⟨"tcp dport","tcp","transport",16,16,"inet_service"⟩,
 ⟨"udp length","udp","transport",32,16,"integer"⟩,
 ⟨"th sport","th","transport",0,16,"inet_service"⟩,
 ⟨"icmp type","icmp","transport",0,8,"icmp_type"⟩,
 ⟨"icmp gateway","icmp","transport",32,32,"ipv4_addr"⟩,
 ⟨"icmpv6 code","icmpv6","transport",8,8,"icmpv6_code"⟩,
 ⟨"icmpv6 mtu","icmpv6","transport",32,32,"integer"⟩]
noncomputable def yU:List Row:=[
 ⟨"meta mark","","mark",0,32,"mark"⟩,
 ⟨"meta length","","length",0,32,"integer"⟩,
 ⟨"meta nfproto","","nfproto",0,8,"nf_proto"⟩,
 ⟨"meta l4proto","","l4proto",0,8,"inet_proto"⟩,
 ⟨"meta protocol","","protocol",0,16,"ether_type"⟩]
noncomputable def dX:List Row:=s5++yU
theorem po {r:Row} (h:r∈s5):decide (r.proto="")=false:=
 nt (List.all_eq_true.mp (show (s5.all fun r=>!decide (r.proto=""))=true by kernel_rfl) r h)
theorem qs {α β:Type} {f g:α->β} {l:List α} (h:l.map f=l.foldr (fun r x=>g r::x) []):∀ r∈l,f r=g r:=by
 induction l with
 | nil=>exact fun _ h=>nomatch h
 | cons a l ih=>
  have h:f a::l.map f=g a::l.foldr (fun r x=>g r::x) []:=h
  exact List.forall_mem_cons.mpr ⟨(List.cons.inj h).1,ih (List.cons.inj h).2⟩
noncomputable def hH (l:List (Str×D)):EV:=match l.lookup (Str.ofString "packet") with
 | some (.ob _ pk)=>B9 pk
 | _=>⟨#[],#[],0,0,0,0⟩
theorem cU (v:EV):hH (scF v)=v:=by kernel_rfl
noncomputable def scB (C:Addr) (l:List (Str×D)) (lg:Str) (log:List D):Bool:=clB (∃ v,C=274/\l=scF v/\lg="log"/\evB v=true/\log.length<=1000)
theorem jz {v:EV} {log:List D} (h:evB v=true) (hl:log.length<=1000):scB 274 (scF v) "log" log=true:=wO ⟨v,rfl,rfl,rfl,h,hl⟩
theorem gj {C:Addr} {l:List (Str×D)} {lg:Str} {log:List D} (h:scB C l lg log=true):∃ v,C=274/\l=scF v/\lg="log"/\evB v=true/\log.length<=1000:=wP h
noncomputable def scV (v:EV) (log:List D):Bool:=scB 274 (scF v) "log" log
noncomputable def pkV (v:EV):Bool:=pkB (pkF v)
noncomputable def ik:List Str:=["ether","vlan","arp","ip","ip6","tcp","udp","th","icmp","icmpv6"]
noncomputable def cQ (p:Str):Bool:=ik.any fun y=>decide (p=y)
noncomputable def eU:D:=.tu [.ss "ether",.ss "link",.ii 96]
noncomputable def isV (o:Option Int) (x:Int):Bool:=match o with
 | some y=>decide (y=x)
 | none=>false
noncomputable def bx (v:EV) (p:Str):List D×Bool:=
 match decide (p="vlan") with
 | true=>([eU],isV (gs v eZ 96 16) 33024)
 | false=>match decide (p="arp") with
 | true=>([.ss "protocol"],decide (v.kind=2054))
 | false=>match decide (p="ip") with
 | true=>([.ss "nfproto"],decide (ch v.kind=2))
 | false=>match decide (p="ip6") with
 | true=>([.ss "nfproto"],decide (ch v.kind=10))
 | false=>match decide (p="tcp") with
 | true=>([.ss "l4proto"],decide (v.l4=6))
 | false=>match decide (p="udp") with
 | true=>([.ss "l4proto"],decide (v.l4=17))
 | false=>match decide (p="icmp") with
 | true=>match decide (ch v.kind=2) with
  | true=>([.ss "nfproto",.ss "l4proto"],decide (v.l4=1))
  | false=>([.ss "nfproto"],false)
 | false=>match decide (p="icmpv6") with
 | true=>match decide (ch v.kind=10) with
  | true=>([.ss "nfproto",.ss "l4proto"],decide (v.l4=58))
  | false=>([.ss "nfproto"],false)
 | false=>([],true)
noncomputable def lh:List (List D):=[[eU],[.ss "protocol"],[.ss "nfproto"],[.ss "l4proto"],[.ss "nfproto",.ss "l4proto"],[]]
theorem dT {b:Bool} {x y:List D×Bool} (hx:x.1∈lh) (hy:y.1∈lh):(match b with | true=>x | false=>y).1∈lh:=by
 cases b with
 | true=>exact hx
 | false=>exact hy
theorem wX (v:EV) (p:Str):(bx v p).1∈lh:=by
 unfold bx
 have h2:[D.ss "nfproto"]∈lh:=.tail _ (.tail _ (.head _))
 have h3:[D.ss "l4proto"]∈lh:=.tail _ (.tail _ (.tail _ (.head _)))
 have h4:[D.ss "nfproto",.ss "l4proto"]∈lh:=.tail _ (.tail _ (.tail _ (.tail _ (.head _))))
 exact dT (.head _) (dT (.tail _ (.head _)) (dT h2 (dT h2 (dT h3 (dT h3 (dT (dT h4 h2) (dT (dT h4 h2) (.tail _ (.tail _ (.tail _ (.tail _ (.tail _ (.head _)))))))))))))
theorem hV {v:EV} {p:Str} (c:List D->Bool) (h:lh.all c=true):c (bx v p).1=true:=List.all_eq_true.mp h _ (wX v p)
noncomputable def ij  : au:=mkS (pC (pR 0) (pC (pD pS) pN)) (pC (pIn pA (pC (pP pA (pOL pA)) pN)) pN) fun (_,p,_) ((C,l,((lg,log),_)),_) Q E=>grd (scB C l lg log&&(decide (p="ether")||decide (p="th"))) (Q (.d (.bb true)) [.inst C l [(lg,.li log)]])
noncomputable def tT  : au:=mkS (pC (pR 0) (pC (pD pS) pN)) (pC (pIn pA (pC (pP pA (pOL pA)) pN)) pN) fun (_,p,_) ((C,l,((lg,log),_)),_) Q E=>grd (scB C l lg log&&(cQ p&&Nat.ble log.length 900)) (Q (.d (.bb (bx (hH l) p).2)) [.inst C l [(lg,.li (log++(bx (hH l) p).1))]])
noncomputable def dK (v:EV) (nm:Str):Option Int:=match decide (nm="ether type") with
 | true=>gs v eZ 96 16
 | false=>match decide (nm="meta nfproto") with
  | true=>some (ch v.kind)
  | false=>match decide (nm="meta protocol") with
   | true=>some v.kind
   | false=>match decide (v.l4<0) with
    | true=>none
    | false=>some v.l4
noncomputable def dB (nm:Str):List D:=match decide (nm="ether type") with
 | true=>[eU]
 | false=>match decide (nm="meta nfproto") with
  | true=>[.ss "nfproto"]
  | false=>match decide (nm="meta protocol") with
   | true=>[.ss "protocol"]
   | false=>[.ss "l4proto"]
noncomputable def vK (nm:Str):Bool:=decide (nm="ether type")||(decide (nm="meta nfproto")||(decide (nm="meta protocol")||decide (nm="meta l4proto")))
noncomputable def sp4  : au:=mkS (pC (pR 0) (pC (pD (pT (pC pS (pC pS pN)))) pN)) (pC (pIn pA (pC (pP pA (pOL pA)) pN)) pN) fun (_,(t,nm,_),_) ((C,l,((lg,log),_)),_) Q E=>grd (decide (t="field")&&(scB C l lg log&&(vK nm&&Nat.ble log.length 990))) (qO (dK (hH l) nm) fun x=>Q x [.inst C l [(lg,.li (log++dB nm))]])
noncomputable def Lmv (P:Params):List (Addr×au):=[(242,inl S0 30 P 242 uD false)]
noncomputable def Smv (P:Params):Tab:=aZ (Lmv P)
noncomputable def Lrm (P:Params):List (Addr×au):=[(327,inl (Smv P) 30 P 327 uz false)]
noncomputable def Srm (P:Params):Tab:=aZ (Lrm P)
noncomputable def Lnm (P:Params):List (Addr×au):=[(341,inl (Srm P) 30 P 341 ux false)]
noncomputable def Snm (P:Params):Tab:=aZ (Lnm P)
noncomputable def Lme (sv:au) (P:Params):List (Addr×au):=[(313,sv),(116,inl S0 30 P 116 qR false)]
noncomputable def Sme (sv:au) (P:Params):Tab:=aZ (Lme sv P)
noncomputable def Lrp (nm:au):List (Addr×au):=[(285,nm),(256,zc)]
noncomputable def Srp (nm:au):Tab:=aZ (Lrp nm)
noncomputable def Lnp (nm:au) (P:Params):List (Addr×au):=[(334,inl (Srp nm) 30 P 334 uy false)]
noncomputable def Snp (nm:au) (P:Params):Tab:=aZ (Lnp nm P)
noncomputable def Lrb (nm:au) (P:Params):List (Addr×au):=[(435,inl (Snp nm P) 30 P 435 uo false),(442,inl (Snm P) 30 P 442 um false)]
noncomputable def Srb (nm:au) (P:Params):Tab:=aZ (Lrb nm P)
noncomputable def Lvo (nm:au) (P:Params):List (Addr×au):=[(299,inl (Srb nm P) 30 P 299 qM false)]
noncomputable def Svo (nm:au) (P:Params):Tab:=aZ (Lvo nm P)
theorem lvo {w:World} {base:Heap} (W:Wd w base) {nm:au} {n:Nat} (h:aU w base 285 n nm) (hn:3<=n):LOk w base (n+3) (Lvo nm w.params):=by
 have nil2:∀ {l:List (Addr×au)} {k:Nat},LOk w base k l->SOk w base k (aZ l):=fun h=>LOk.so h
 have Lmv':LOk w base 1 (Lmv w.params):=LOk.cons (aS W so0 false (Iq w) (Je _) (GB _) 30) (Hl _) LOk.nil
 have Lrm':LOk w base 2 (Lrm w.params):=LOk.cons (aS W (nil2 Lmv') false (Ii w) (I6 _) (Gu _) 30) (Hf _) LOk.nil
 have Lnm':LOk w base 3 (Lnm w.params):=LOk.cons (aS W (nil2 Lrm') false (Ig w) (I4 _) (Gq _) 30) (Hd _) LOk.nil
 have Lrp':LOk w base n (Lrp nm):=LOk.cons h (EH _) (LOk.cons ((HP W).mono hn) (Hj _) LOk.nil)
 have Lnp':LOk w base (n+1) (Lnp nm w.params):=LOk.cons (aS W (nil2 Lrp') false (Ih w) (I5 _) (Gs _) 30) (He _) LOk.nil
 have Lrb':LOk w base (n+2) (Lrb nm w.params):=LOk.cons (aS W (nil2 Lnp') false (H3 w) (IQ _) (Gg _) 30) (GV _) (LOk.cons ((aS W (nil2 Lnm') false (H0 w) (IP _) (Gf _) 30).mono (by omega)) (GU _) LOk.nil)
 exact LOk.cons (aS W (nil2 Lrb') false (Il w) (I9 _) (Gx _) 30) (EG _) LOk.nil
theorem lme {w:World} {base:Heap} (W:Wd w base) {sv:au} {n:Nat} (h:aU w base 313 n sv) (hn:1<=n):LOk w base n (Lme sv w.params):=LOk.cons h (BE _) (LOk.cons ((aS W so0 false (Fm w) (FC _) (Ey _) 30:aU w base 116 (0+1) _).mono (by omega)) (EL _) LOk.nil)
end Mine
namespace Mine
open PySem PySem.W PyProof.Rows PySem.SeqAt
variable (P:Params)
noncomputable def fe (s:Str):D:=.tu [.ss "field",.ss s]
theorem l9 (v:EV) (log:List D) (Q:QV) (E:QE):vcf (Sme spF P) 30 P 285 c8 false [.ref 0,.d (.ss "ether")] [scC v log] Q E=Q (.d (.bb true)) [scC v log]:=by kernel_rfl
theorem rL (v:EV) (log:List D) (Q:QV) (E:QE):vcf (Sme spF P) 30 P 285 c8 false [.ref 0,.d (.ss "th")] [scC v log] Q E=Q (.d (.bb true)) [scC v log]:=by kernel_rfl
theorem tz (v:EV) (log:List D) (Q:QV) (E:QE):vcf (Svo ij P) 30 P 313 b8 false [.ref 0,.d (fe "ether type")] [scC v log] Q E=
 grd (Nat.ble log.length 1048576) (grd (scV v (log++[eU])&&true) (grd (pkV v&&true) (qO (gs v eZ 96 16) fun x=>Q x [scC v (log++[eU])]))):=by kernel_rfl
theorem tv (v:EV) (log:List D) (Q:QV) (E:QE):vcf (Svo ij P) 30 P 313 b8 false [.ref 0,.d (fe "meta nfproto")] [scC v log] Q E=
 grd (Nat.ble log.length 1048576) (cnd (PyData.eqv (D.py (D.ii v.kind)) (D.py (D.ii 2048))) (Q (.d (.ii 2)) [scC v (log++[.ss "nfproto"])])
  (cnd (PyData.eqv (D.py (D.ii v.kind)) (D.py (D.ii 34525))) (Q (.d (.ii 10)) [scC v (log++[.ss "nfproto"])])
  (cnd (PyData.eqv (D.py (D.ii v.kind)) (D.py (D.ii 2054))) (Q (.d (.ii 3)) [scC v (log++[.ss "nfproto"])]) (Q (.d (.ii 0)) [scC v (log++[.ss "nfproto"])])))):=by kernel_rfl
theorem tx (v:EV) (log:List D) (Q:QV) (E:QE):vcf (Svo ij P) 30 P 313 b8 false [.ref 0,.d (fe "meta l4proto")] [scC v log] Q E=
 grd (Nat.ble log.length 1048576) (cnd (decide (v.l4<0)) (Q (.d .nn) [scC v (log++[.ss "l4proto"])]) (Q (.d (.ii v.l4)) [scC v (log++[.ss "l4proto"])])):=by kernel_rfl
theorem tt (v:EV) (log:List D) (Q:QV) (E:QE):vcf (Svo ij P) 30 P 313 b8 false [.ref 0,.d (fe "meta protocol")] [scC v log] Q E=
 grd (Nat.ble log.length 1048576) (Q (.d (.ii v.kind)) [scC v (log++[.ss "protocol"])]):=by kernel_rfl
noncomputable def mD (v:EV) (log:List D) (nm:Str) (x:Int) (Q:QV):Prop:=grd (scV v log&&Nat.ble log.length 990) (cnd (dK v nm).isNone (Q (.d (.bb false)) [scC v (log++dB nm)]) (cnd (!PyData.eqv (D.py (.ii ((dK v nm).getD 0))) (D.py (.ii x))) (Q (.d (.bb false)) [scC v (log++dB nm)]) (Q (.d (.bb true)) [scC v (log++dB nm)])))
noncomputable def xY (v:EV) (log:List D) (nm:Str) (x:Int) (nm':Str) (x':Int) (Q:QV):Prop:=grd (scV v log&&Nat.ble log.length 990) (cnd (dK v nm).isNone (Q (.d (.bb false)) [scC v (log++dB nm)]) (cnd (!PyData.eqv (D.py (.ii ((dK v nm).getD 0))) (D.py (.ii x))) (Q (.d (.bb false)) [scC v (log++dB nm)]) (mD v (log++dB nm) nm' x' Q)))
theorem pc (v:EV) (log:List D) (Q:QV) (E:QE):vcf (Sme sp4 P) 30 P 285 c8 false [.ref 0,.d (.ss "vlan")] [scC v log] Q E=mD v log "ether type" 33024 Q:=by kernel_rfl
theorem rP (v:EV) (log:List D) (Q:QV) (E:QE):vcf (Sme sp4 P) 30 P 285 c8 false [.ref 0,.d (.ss "arp")] [scC v log] Q E=mD v log "meta protocol" 2054 Q:=by kernel_rfl
theorem tC (v:EV) (log:List D) (Q:QV) (E:QE):vcf (Sme sp4 P) 30 P 285 c8 false [.ref 0,.d (.ss "ip")] [scC v log] Q E=mD v log "meta nfproto" 2 Q:=by kernel_rfl
theorem rO (v:EV) (log:List D) (Q:QV) (E:QE):vcf (Sme sp4 P) 30 P 285 c8 false [.ref 0,.d (.ss "ip6")] [scC v log] Q E=mD v log "meta nfproto" 10 Q:=by kernel_rfl
theorem rN (v:EV) (log:List D) (Q:QV) (E:QE):vcf (Sme sp4 P) 30 P 285 c8 false [.ref 0,.d (.ss "tcp")] [scC v log] Q E=mD v log "meta l4proto" 6 Q:=by kernel_rfl
theorem rM (v:EV) (log:List D) (Q:QV) (E:QE):vcf (Sme sp4 P) 30 P 285 c8 false [.ref 0,.d (.ss "udp")] [scC v log] Q E=mD v log "meta l4proto" 17 Q:=by kernel_rfl
theorem pe (v:EV) (log:List D) (Q:QV) (E:QE):vcf (Sme sp4 P) 30 P 285 c8 false [.ref 0,.d (.ss "icmp")] [scC v log] Q E=xY v log "meta nfproto" 2 "meta l4proto" 1 Q:=by kernel_rfl
theorem ma (v:EV) (log:List D) (Q:QV) (E:QE):vcf (Sme sp4 P) 30 P 285 c8 false [.ref 0,.d (.ss "icmpv6")] [scC v log] Q E=xY v log "meta nfproto" 10 "meta l4proto" 58 Q:=by kernel_rfl
theorem nv (v:EV) (log:List D) (Q:QV) (E:QE):vcf (Sme sp4 P) 30 P 285 c8 false [.ref 0,.d (.ss "ether")] [scC v log] Q E=Q (.d (.bb true)) [scC v log]:=by kernel_rfl
theorem tB (v:EV) (log:List D) (Q:QV) (E:QE):vcf (Sme sp4 P) 30 P 285 c8 false [.ref 0,.d (.ss "th")] [scC v log] Q E=Q (.d (.bb true)) [scC v log]:=by kernel_rfl
theorem lG (nm:Str):(dB nm).length=1:=by
 unfold dB
 split
 · rfl
 · split
   · rfl
   · split <;> rfl
theorem eK {v:EV} {log:List D} {nm:Str} {x:Int} {Q:QV} (h:scV v log=true) (hl:log.length<=990) (q:Q (.d (.bb (isV (dK v nm) x))) [scC v (log++dB nm)]):mD v log nm x Q:=by
 unfold mD
 refine ab.mpr ⟨ah h (ao hl),?_⟩
 cases hn:dK v nm with
 | none=>rw [hn] at q;exact q
 | some y=>
  rw [hn] at q
  refine bL rfl ?_
  rw [Option.getD_some,bC]
  have q:Q (.d (.bb (decide (y=x)))) _:=q
  cases hd:decide (y=x) with
  | true=>rw [hd] at q;exact bL rfl q
  | false=>rw [hd] at q;exact dP rfl q
theorem qX {v:EV} {log:List D} {nm nm':Str} {x x':Int} {Q:QV} (h:scV v log=true) (h':scV v (log++dB nm)=true) (hl:log.length<=900)
  (q0:isV (dK v nm) x=false->Q (.d (.bb false)) [scC v (log++dB nm)]) (q1:isV (dK v nm) x=true->Q (.d (.bb (isV (dK v nm') x'))) [scC v ((log++dB nm)++dB nm')]):xY v log nm x nm' x' Q:=by
 unfold xY
 refine ab.mpr ⟨ah h (ao (by omega)),?_⟩
 cases hn:dK v nm with
 | none=>rw [hn] at q0;exact q0 rfl
 | some y=>
  rw [hn] at q0 q1
  refine bL rfl ?_
  rw [Option.getD_some,bC]
  cases hd:decide (y=x) with
  | true=>exact bL rfl (eK h' (by rw [List.length_append,lG];omega) (q1 hd))
  | false=>exact dP rfl (q0 hd)
theorem mK (v:EV) (x:Int) (hx:0<=x):isV (dK v "meta l4proto") x=decide (v.l4=x):=by
 have e:dK v "meta l4proto"=match decide (v.l4<0) with | true=>none | false=>some v.l4:=rfl
 rw [e]
 cases h:decide (v.l4<0) with
 | true=>
  have h:=of_decide_eq_true h
  exact (decide_eq_false (by omega (config:={}))).symm
 | false=>rfl
section
variable {w:World} {base:Heap}
theorem E7 (W:Wd w base):aU w base 285 3 ij:=by
 exists w,base,_ W
 refine bD W (LOk.so (fz:=fun _=>[]) (fg:=fun _=>[]) (lme W (n:=2) fF (by decide))) false (Fj w) (FA _) (Ew _) 30 fun vs Z Q E q=>?_;exists vs,Z,Q,E,_ q
 replace q:=aB q
 obtain ⟨zz,zy,e1,e2,q⟩:=q;obtain ⟨_,p,_⟩:=zz;obtain ⟨zx,_⟩:=zy;obtain ⟨C,l,zw⟩:=zx;obtain ⟨zv,_⟩:=zw;obtain ⟨lg,log⟩:=zv
 obtain rfl:=(show vs=[.ref 0,.d (.ss p)] from e1);obtain rfl:=(show Z=[.inst C l [(lg,.li log)]] from e2)
 dsimp only at q
 replace q:=ab.mp q
 obtain ⟨c,q⟩:=q
 rw [Bool.and_eq_true,Bool.or_eq_true] at c
 clear e2;obtain ⟨v,rfl,rfl,rfl,hv,hl⟩:=gj c.1
 refine ⟨rfl,?_⟩
 show vcf (Sme spF w.params) 30 w.params 285 c8 false [.ref 0,.d (.ss p)] [scC v log] Q E
 rcases c.2 with h | h
 · have h:=of_decide_eq_true h
   clear c e1;subst h
   rw [l9];exact q
 · have h:=of_decide_eq_true h
   clear c e1;subst h
   rw [rL];exact q
theorem jA {v:EV} {log more:List D} (h:scB 274 (scF v) "log" log=true) (hm:log.length+more.length<=1000):scV v (log++more)=true:=by
 obtain ⟨v',_,e,_,hv,_⟩:=gj h
 have:v=v':=by have:=congrArg hH e;rwa [cU,cU] at this
 clear e;subst this
 exact jz hv (by rw [List.length_append];exact hm)
theorem ue {v:EV} {log:List D} (h:scB 274 (scF v) "log" log=true):evB v=true:=by
 obtain ⟨v',_,e,_,hv,_⟩:=gj h
 have:v=v':=by have:=congrArg hH e;rwa [cU,cU] at this
 clear e;subst this
 exact hv
theorem f4 (W:Wd w base):aU w base 313 7 sp4:=by
 exists w,base,_ W
 refine bD W (LOk.so (fz:=fun _=>[]) (fg:=fun _=>[]) (lvo W (n:=3) (E7 W) (by decide))) false (Fi w) (Fz _) (Eu _) 30 fun vs Z Q E q=>?_;exists vs,Z,Q,E,_ q
 replace q:=aB q
 obtain ⟨zz,zx,e1,e2,q⟩:=q;obtain ⟨_,zy,_⟩:=zz;obtain ⟨t,nm,_⟩:=zy;obtain ⟨zw,_⟩:=zx;obtain ⟨C,l,zv⟩:=zw;obtain ⟨zu,_⟩:=zv;obtain ⟨lg,log⟩:=zu
 obtain rfl:=(show vs=[.ref 0,.d (.tu [.ss t,.ss nm])] from e1);obtain rfl:=(show Z=[.inst C l [(lg,.li log)]] from e2)
 dsimp only at q
 replace q:=ab.mp q
 obtain ⟨c,q⟩:=q
 simp only [Bool.and_eq_true] at c
 obtain ⟨ht,hs,hn,hl⟩:=c
 have hl:=Nat.le_of_ble_eq_true hl
 have ht:=of_decide_eq_true ht
 subst ht
 clear e2;obtain ⟨v,rfl,rfl,rfl,hv,hl'⟩:=gj hs
 rw [cU] at q
 refine ⟨rfl,?_⟩
 show vcf (Svo ij w.params) 30 w.params 313 b8 false [.ref 0,.d (fe nm)] [scC v log] Q E
 have hb:Nat.ble log.length 1048576=true:=ao (by omega)
 unfold vK at hn
 simp only [Bool.or_eq_true,decide_eq_true_eq] at hn
 clear e1;rcases hn with rfl | rfl | rfl | rfl
 · rw [tz]
   refine ab.mpr ⟨hb,ab.mpr ⟨ah (jA hs (by simp;omega)) rfl,ab.mpr ⟨ah (uT hv) rfl,?_⟩⟩⟩
   exact q
 · rw [tv,bC,bC,bC]
   refine ab.mpr ⟨hb,?_⟩
   have q:Q (.d (.ii (ch v.kind))) [scC v (log++[.ss "nfproto"])]:=q
   unfold ch at q
   refine aO (fun h=>by rw [h] at q;exact q) fun h=>?_
   rw [h] at q
   refine aO (fun h=>by rw [h] at q;exact q) fun h=>?_
   rw [h] at q
   refine aO (fun h=>by rw [h] at q;exact q) fun h=>?_
   rw [h] at q
   exact q
 · rw [tt]
   exact ab.mpr ⟨hb,q⟩
 · rw [tx]
   refine ab.mpr ⟨hb,?_⟩
   have e:dK v "meta l4proto"=match decide (v.l4<0) with | true=>none | false=>some v.l4:=rfl
   rw [e] at q
   refine aO (fun h=>by rw [h] at q;exact q) fun h=>by rw [h] at q;exact q
theorem E8 (W:Wd w base):aU w base 285 8 tT:=by
 exists w,base,_ W
 refine bD W (LOk.so (fz:=fun _=>[]) (fg:=fun _=>[]) (lme W (f4 W) (by decide))) false (Fj w) (FA _) (Ew _) 30 fun vs Z Q E q=>?_;exists vs,Z,Q,E,_ q
 replace q:=aB q
 obtain ⟨zz,zy,e1,e2,q⟩:=q;obtain ⟨_,p,_⟩:=zz;obtain ⟨zx,_⟩:=zy;obtain ⟨C,l,zw⟩:=zx;obtain ⟨zv,_⟩:=zw;obtain ⟨lg,log⟩:=zv
 obtain rfl:=(show vs=[.ref 0,.d (.ss p)] from e1);obtain rfl:=(show Z=[.inst C l [(lg,.li log)]] from e2)
 dsimp only at q
 replace q:=ab.mp q
 obtain ⟨c,q⟩:=q
 simp only [Bool.and_eq_true] at c
 obtain ⟨hs,hp,hl⟩:=c
 have hl:=Nat.le_of_ble_eq_true hl
 clear e2;obtain ⟨v,rfl,rfl,rfl,hv,hl'⟩:=gj hs
 rw [cU] at q
 refine ⟨rfl,?_⟩
 show vcf (Sme sp4 w.params) 30 w.params 285 c8 false [.ref 0,.d (.ss p)] [scC v log] Q E
 have h1:∀ nm,scV v (log++dB nm)=true:=fun nm=>jA hs (by rw [lG];omega)
 have hp':p="ether"\/p="vlan"\/p="arp"\/p="ip"\/p="ip6"\/p="tcp"\/p="udp"\/p="th"\/p="icmp"\/p="icmpv6":=by
  unfold cQ ik at hp
  simpa using hp
 clear hp e1;rcases hp' with rfl | rfl | rfl | rfl | rfl | rfl | rfl | rfl | rfl | rfl
 · rw [nv]
   have q:Q (.d (.bb true)) [scC v (log++[])]:=q
   rw [List.append_nil] at q
   exact q
 · rw [pc];exact eK hs (by omega) q
 · rw [rP];exact eK hs (by omega) q
 · rw [tC];exact eK hs (by omega) q
 · rw [rO];exact eK hs (by omega) q
 · rw [rN]
   refine eK hs (by omega) ?_
   rw [mK v 6 (by decide)];exact q
 · rw [rM]
   refine eK hs (by omega) ?_
   rw [mK v 17 (by decide)];exact q
 · rw [tB]
   have q:Q (.d (.bb true)) [scC v (log++[])]:=q
   rw [List.append_nil] at q
   exact q
 · rw [pe]
   have e:bx v "icmp"=match decide (ch v.kind=2) with | true=>([.ss "nfproto",.ss "l4proto"],decide (v.l4=1)) | false=>([.ss "nfproto"],false):=rfl
   rw [e] at q
   refine qX hs (h1 _) hl (fun h=>?_) fun h=>?_
   · have h:decide (ch v.kind=2)=false:=h
     rw [h] at q;exact q
   · have h:decide (ch v.kind=2)=true:=h
     rw [h] at q
     rw [mK v 1 (by decide),List.append_assoc];exact q
 · rw [ma]
   have e:bx v "icmpv6"=match decide (ch v.kind=10) with | true=>([.ss "nfproto",.ss "l4proto"],decide (v.l4=58)) | false=>([.ss "nfproto"],false):=rfl
   rw [e] at q
   refine qX hs (h1 _) hl (fun h=>?_) fun h=>?_
   · have h:decide (ch v.kind=10)=false:=h
     rw [h] at q;exact q
   · have h:decide (ch v.kind=10)=true:=h
     rw [h] at q
     rw [mK v 58 (by decide),List.append_assoc];exact q
end
end Mine
namespace Mine
open PySem PySem.W PyProof.Rows PySem.SeqAt
noncomputable def En (v:EV) (key:Str):Option Int:=match decide (key="mark") with
 | true=>some v.mark
 | false=>match decide (key="length") with
  | true=>some (v.data.size:Int)
  | false=>match decide (key="nfproto") with
   | true=>some (ch v.kind)
   | false=>match decide (key="protocol") with
    | true=>some v.kind
    | false=>match decide (v.l4<0) with
     | true=>none
     | false=>some v.l4
noncomputable def rdN (v:EV) (r:Row):List D:=match decide (r.proto="") with
 | true=>[.ss r.bse]
 | false=>[.tu [.ss r.proto,.ss r.bse,.ii r.first]]++(bx v r.proto).1
noncomputable def rdV (v:EV) (r:Row):Option Int:=match decide (r.proto="") with
 | true=>En v r.bse
 | false=>match (bx v r.proto).2 with
  | true=>gs v r.bse r.first r.many
  | false=>none
noncomputable def jB (nm:Str):Option Row:=dX.find? fun r=>decide (r.name=nm)
noncomputable def Lwi:List (Addr×au):=[(151,pi)]
noncomputable def Swi:Tab:=aZ Lwi
noncomputable def Lmk (sv:au) (P:Params):List (Addr×au):=[(313,sv),(292,inl Swi 30 P 292 uB false)]
noncomputable def Smk (sv:au) (P:Params):Tab:=aZ (Lmk sv P)
noncomputable def Lvw (sv:au) (P:Params):List (Addr×au):=[(299,inl (Srb tT P) 30 P 299 qM false),(306,inl (Smk sv P) 30 P 306 uA false)]
noncomputable def Svw (sv:au) (P:Params):Tab:=aZ (Lvw sv P)
theorem lvw {w:World} {base:Heap} (W:Wd w base) {sv:au} {n:Nat} (h:aU w base 313 n sv) (hn:11<=n):LOk w base (n+1) (Lvw sv w.params):=by
 have l0:=lvo W (n:=8) (E8 W) (by decide)
 have nil2:∀ {l:List (Addr×au)} {k:Nat},LOk w base k l->SOk w base k (aZ l):=fun h=>LOk.so h
 have Lwi':LOk w base 3 Lwi:=LOk.cons (zG W) (x9 _) LOk.nil
 have Lmk':LOk w base n (Lmk sv w.params):=LOk.cons h (BE _) (LOk.cons ((aS W (nil2 Lwi') false (Im w) (Ja _) (Gy _) 30).mono (by omega)) (Hi _) LOk.nil)
 refine LOk.cons ((l0 _ (.head _)).1.mono (by omega)) (EG _) (LOk.cons (aS W (nil2 Lmk') false (Ik w) (I8 _) (Gw _) 30) (Hh _) LOk.nil)
noncomputable def ntD (proto bse:Str) (first:Int):D:=.tu [.ss proto,.ss bse,.ii first]
noncomputable def rdp (v:EV) (log:List D) (proto bse:Str) (first many:Int) (Q:QV):Prop:=grd (Nat.ble log.length 1048576) (grd (scV v (log++[ntD proto bse first])&&(true&&Nat.ble (log++[ntD proto bse first]).length 900))
 (cnd (!(bx v proto).2) (Q (.d .nn) [scC v ((log++[ntD proto bse first])++(bx v proto).1)]) (grd (pkV v&&true) (qO (gs v bse first many) fun x=>Q x [scC v ((log++[ntD proto bse first])++(bx v proto).1)]))))
theorem FZ (sv:au) (P:Params) (v:EV) (log:List D) (Q:QV) (E:QE):∀ r∈s5,vcf (Svw sv P) 30 P 313 b8 false [.ref 0,.d (fe r.name)] [scC v log] Q E=rdp v log r.proto r.bse r.first r.many Q:=qs (by kernel_rfl)
end Mine
namespace Mine
open PySem PySem.W PyProof.Rows PySem.SeqAt
theorem xk (sv:au) (P:Params) (v:EV) (log:List D) (Q:QV) (E:QE):vcf (Svw sv P) 30 P 313 b8 false [.ref 0,.d (fe "meta mark")] [scC v log] Q E=
 grd (Nat.ble log.length 1048576) (Q (.d (.ii v.mark)) [scC v (log++[.ss "mark"])]):=by kernel_rfl
theorem rK (sv:au) (P:Params) (v:EV) (log:List D) (Q:QV) (E:QE):vcf (Svw sv P) 30 P 313 b8 false [.ref 0,.d (fe "meta length")] [scC v log] Q E=
 grd (Nat.ble log.length 1048576) (grd (Nat.ble v.data.size 16777216) (Q (.d (.ii v.data.size)) [scC v (log++[.ss "length"])])):=by kernel_rfl
theorem Dr (sv:au) (P:Params) (v:EV) (log:List D) (Q:QV) (E:QE):vcf (Svw sv P) 30 P 313 b8 false [.ref 0,.d (fe "meta nfproto")] [scC v log] Q E=
 grd (Nat.ble log.length 1048576) (cnd (PyData.eqv (D.py (D.ii v.kind)) (D.py (D.ii 2048))) (Q (.d (.ii 2)) [scC v (log++[.ss "nfproto"])])
  (cnd (PyData.eqv (D.py (D.ii v.kind)) (D.py (D.ii 34525))) (Q (.d (.ii 10)) [scC v (log++[.ss "nfproto"])])
  (cnd (PyData.eqv (D.py (D.ii v.kind)) (D.py (D.ii 2054))) (Q (.d (.ii 3)) [scC v (log++[.ss "nfproto"])]) (Q (.d (.ii 0)) [scC v (log++[.ss "nfproto"])])))):=by kernel_rfl
theorem Ds (sv:au) (P:Params) (v:EV) (log:List D) (Q:QV) (E:QE):vcf (Svw sv P) 30 P 313 b8 false [.ref 0,.d (fe "meta l4proto")] [scC v log] Q E=
 grd (Nat.ble log.length 1048576) (cnd (decide (v.l4<0)) (Q (.d .nn) [scC v (log++[.ss "l4proto"])]) (Q (.d (.ii v.l4)) [scC v (log++[.ss "l4proto"])])):=by kernel_rfl
theorem Dq (sv:au) (P:Params) (v:EV) (log:List D) (Q:QV) (E:QE):vcf (Svw sv P) 30 P 313 b8 false [.ref 0,.d (fe "meta protocol")] [scC v log] Q E=
 grd (Nat.ble log.length 1048576) (Q (.d (.ii v.kind)) [scC v (log++[.ss "protocol"])]):=by kernel_rfl
noncomputable def wkV (t:Str) (n b sz:Int):Int:=match decide (t="mask") with
 | true=>Builtin.bitAnd n b
 | false=>match decide (t="shr") with
  | true=>Int.fdiv n (2 ^ b.toNat)
  | false=>match decide (t="shl") with
   | true=>Builtin.bitAnd (n*2 ^ b.toNat) (1*2 ^ Int.toNat (8*sz) - 1)
   | false=>match decide (t="or") with
    | true=>Builtin.bitAnd (Builtin.bitOr n b) (1*2 ^ Int.toNat (8*sz) - 1)
    | false=>Builtin.bitAnd (Builtin.bitXor n b) (1*2 ^ Int.toNat (8*sz) - 1)
noncomputable def nU (t:Str):Bool:=decide (t="shr")||decide (t="shl")
noncomputable def nOk:Option Int->Bool
 | some n=>leB 0 n&&ltB n (2 ^ 400)
 | none=>true
noncomputable def nu (t:Str) (b:Int) (o:Option Int) (u:Und):Bool:=(!nU t||(leB 0 b&&leB b 300))&&(nOk o&&(okH u&&(leB 0 (aP u)&&leB (aP u) 400)))
noncomputable def wkG (r:Option (Option Int×List D)) (t:Str) (b:Int) (u:Und):Option (Option Int×List D):=r.bind fun p=>cond (nu t b p.1 u) (some (p.1.map fun n=>wkV t n b (aP u),p.2)) none
theorem zY {r:Option (Option Int×List D)} {t:Str} {b:Int} {u:Und} {z:Option Int×List D} (h:wkG r t b u=some z):∃ p,r=some p/\nu t b p.1 u=true/\z=(p.1.map fun n=>wkV t n b (aP u),p.2):=by
 obtain ⟨p,e,h⟩:=aD h
 cases hk:nu t b p.1 u with
 | true=>rw [hk] at h;exact ⟨p,e,hk,(Option.some.inj h).symm⟩
 | false=>rw [hk] at h;exact nS h
noncomputable def evG (v:EV) (f:D->Option (Option Int×List D)) (e:D):Option (Option Int×List D):=match vwD e with
 | .fld nm=>(jB nm).map fun r=>(rdV v r,rdN v r)
 | .wt t a b=>(iiD b).bind fun b=>wkG (f a) t b (av FLD 5 e)
 | _=>none
noncomputable def evE (v:EV):Nat->D->Option (Option Int×List D)
 | 0,_=>none
 | k+1,e=>evG v (evE v k) e
noncomputable def cC (v:EV) (k:Nat) (e:D):Option Int:=match evE v k e with
 | some (o,_)=>o
 | none=>none
noncomputable def bo (v:EV) (k:Nat) (e:D):List D:=match evE v k e with
 | some (_,l)=>l
 | none=>[]
noncomputable def svE (k:Nat):au:=mkS (pC (pR 0) (pC (pD pA) pN)) (pC (pIn pA (pC (pP pA (pOL pA)) pN)) pN) fun (_,e,_) ((C,l,((lg,log),_)),_) Q E=>grd (scB C l lg log&&((evE (hH l) k e).isSome&&Nat.ble log.length 800)) (qO (cC (hH l) k e) fun x=>Q x [.inst C l [(lg,.li (log++bo (hH l) k e))]])
theorem xj (k:Nat) (P:Params) (v:EV) (log:List D) (a:D) (b:Int) (Q:QV) (E:QE):vcf (Svw (svE k) P) 30 P 313 b8 false [.ref 0,.d (.tu [.ss "mask",a,.ii b])] [scC v log] Q E=
 grd (scV v log&&((evE v k a).isSome&&Nat.ble log.length 800)) (cnd (cC v k a).isNone (Q (.d .nn) [scC v (log++bo v k a)]) (Q (.d (.ii (Builtin.bitAnd ((cC v k a).getD 0) b))) [scC v (log++bo v k a)])):=by kernel_rfl
theorem Aa (k:Nat) (P:Params) (v:EV) (log:List D) (a:D) (b:Int) (Q:QV) (E:QE):vcf (Svw (svE k) P) 30 P 313 b8 false [.ref 0,.d (.tu [.ss "shr",a,.ii b])] [scC v log] Q E=
 grd (scV v log&&((evE v k a).isSome&&Nat.ble log.length 800)) (cnd (cC v k a).isNone (Q (.d .nn) [scC v (log++bo v k a)]) (grd (leB 0 b) <| Q (.d (.ii (Int.fdiv ((cC v k a).getD 0) (2 ^ b.toNat)))) [scC v (log++bo v k a)])):=by kernel_rfl
theorem Ab (k:Nat) (P:Params) (v:EV) (log:List D) (a:D) (b:Int) (Q:QV) (E:QE):vcf (Svw (svE k) P) 30 P 313 b8 false [.ref 0,.d (.tu [.ss "shl",a,.ii b])] [scC v log] Q E=
 grd (scV v log&&((evE v k a).isSome&&Nat.ble log.length 800)) (cnd (cC v k a).isNone (Q (.d .nn) [scC v (log++bo v k a)]) (grd (leB 0 b&&leB b 4096&&okB 4096 ((cC v k a).getD 0)) <| grd (okH (av FLD 5 (.tu [.ss "shl",a,.ii b]))) <| grd (okB 4096 8&&okB 4096 (aP (av FLD 5 (.tu [.ss "shl",a,.ii b])))) <| grd (leB 0 (8*aP (av FLD 5 (.tu [.ss "shl",a,.ii b])))&&leB (8*aP (av FLD 5 (.tu [.ss "shl",a,.ii b]))) 4096&&okB 4096 1) <|
  Q (.d (.ii (Builtin.bitAnd (((cC v k a).getD 0)*2 ^ b.toNat) (1*2 ^ Int.toNat (8*aP (av FLD 5 (.tu [.ss "shl",a,.ii b]))) - 1)))) [scC v (log++bo v k a)])):=by kernel_rfl
theorem De (k:Nat) (P:Params) (v:EV) (log:List D) (a:D) (b:Int) (Q:QV) (E:QE):vcf (Svw (svE k) P) 30 P 313 b8 false [.ref 0,.d (.tu [.ss "or",a,.ii b])] [scC v log] Q E=
 grd (scV v log&&((evE v k a).isSome&&Nat.ble log.length 800)) (cnd (cC v k a).isNone (Q (.d .nn) [scC v (log++bo v k a)]) (grd (okH (av FLD 5 (.tu [.ss "or",a,.ii b]))) <| grd (okB 4096 8&&okB 4096 (aP (av FLD 5 (.tu [.ss "or",a,.ii b])))) <| grd (leB 0 (8*aP (av FLD 5 (.tu [.ss "or",a,.ii b])))&&leB (8*aP (av FLD 5 (.tu [.ss "or",a,.ii b]))) 4096&&okB 4096 1) <|
  Q (.d (.ii (Builtin.bitAnd (Builtin.bitOr ((cC v k a).getD 0) b) (1*2 ^ Int.toNat (8*aP (av FLD 5 (.tu [.ss "or",a,.ii b]))) - 1)))) [scC v (log++bo v k a)])):=by kernel_rfl
theorem zZ (k:Nat) (P:Params) (v:EV) (log:List D) (a:D) (b:Int) (Q:QV) (E:QE):vcf (Svw (svE k) P) 30 P 313 b8 false [.ref 0,.d (.tu [.ss "xor",a,.ii b])] [scC v log] Q E=
 grd (scV v log&&((evE v k a).isSome&&Nat.ble log.length 800)) (cnd (cC v k a).isNone (Q (.d .nn) [scC v (log++bo v k a)]) (grd (okH (av FLD 5 (.tu [.ss "xor",a,.ii b]))) <| grd (okB 4096 8&&okB 4096 (aP (av FLD 5 (.tu [.ss "xor",a,.ii b])))) <| grd (leB 0 (8*aP (av FLD 5 (.tu [.ss "xor",a,.ii b])))&&leB (8*aP (av FLD 5 (.tu [.ss "xor",a,.ii b]))) 4096&&okB 4096 1) <|
  Q (.d (.ii (Builtin.bitAnd (Builtin.bitXor ((cC v k a).getD 0) b) (1*2 ^ Int.toNat (8*aP (av FLD 5 (.tu [.ss "xor",a,.ii b]))) - 1)))) [scC v (log++bo v k a)])):=by kernel_rfl
theorem AY {v:EV} {log:List D} {proto bse:Str} {first many:Int} {Q:QV} (hs:scB 274 (scF v) "log" log=true) (hl:log.length<=800)
  (q:qO (match (bx v proto).2 with | true=>gs v bse first many | false=>none) fun x=>Q x [scC v (log++([ntD proto bse first]++(bx v proto).1))]):rdp v log proto bse first many Q:=by
 unfold rdp
 have h1:scV v (log++[ntD proto bse first])=true:=jA hs (by simp;omega)
 refine ab.mpr ⟨ao (by omega),ab.mpr ⟨ah h1 (ah rfl (ao (by simp;omega))),?_⟩⟩
 rw [List.append_assoc]
 cases ha:(bx v proto).2 with
 | true=>rw [ha] at q;exact bL rfl (ab.mpr ⟨ah (uT (ue hs)) rfl,q⟩)
 | false=>rw [ha] at q;exact dP rfl q
theorem nC {nm:Str} {r:Row} (h:jB nm=some r):r∈dX/\r.name=nm:=by
 unfold jB at h
 exact ⟨List.mem_of_find?_eq_some h,of_decide_eq_true (List.find?_some (p:=fun r:Row=>decide (r.name=nm)) h)⟩
section
variable {w:World} {base:Heap}
theorem AU (sv:au) (P:Params) (v:EV) (log:List D) (Q:QV) (E:QE) (hs:scB 274 (scF v) "log" log=true) (hl:log.length<=800) {r:Row} (hr:r∈dX)
  (q:qO (rdV v r) fun x=>Q x [scC v (log++rdN v r)]):vcf (Svw sv P) 30 P 313 b8 false [.ref 0,.d (fe r.name)] [scC v log] Q E:=by
 have hb:Nat.ble log.length 1048576=true:=ao (by omega)
 have hd:v.data.size<=64:=by
  have:=ue hs
  unfold evB at this
  simp only [Bool.and_eq_true] at this
  exact Nat.le_of_ble_eq_true this.2.1
 rcases List.mem_append.mp hr with hr | hr
 · unfold rdV rdN at q
   rw [po hr] at q
   exact Eq.mpr (FZ sv P v log Q E r hr) (AY hs hl q)
 unfold yU at hr
 simp only [List.mem_cons,List.not_mem_nil,or_false] at hr
 rcases hr with rfl | rfl | rfl | rfl | rfl
 · show vcf _ _ _ _ _ _ [.ref 0,.d (fe "meta mark")] _ _ _
   rw [xk];exact ab.mpr ⟨hb,q⟩
 · show vcf _ _ _ _ _ _ [.ref 0,.d (fe "meta length")] _ _ _
   rw [rK];exact ab.mpr ⟨hb,ab.mpr ⟨ao (by omega),q⟩⟩
 · show vcf _ _ _ _ _ _ [.ref 0,.d (fe "meta nfproto")] _ _ _
   rw [Dr,bC,bC,bC]
   refine ab.mpr ⟨hb,?_⟩
   have q:Q (.d (.ii (ch v.kind))) [scC v (log++[.ss "nfproto"])]:=q
   unfold ch at q
   refine aO (fun h=>by rw [h] at q;exact q) fun h=>?_
   rw [h] at q
   refine aO (fun h=>by rw [h] at q;exact q) fun h=>?_
   rw [h] at q
   refine aO (fun h=>by rw [h] at q;exact q) fun h=>?_
   rw [h] at q
   exact q
 · show vcf _ _ _ _ _ _ [.ref 0,.d (fe "meta l4proto")] _ _ _
   rw [Ds]
   refine ab.mpr ⟨hb,?_⟩
   have q:qO (match decide (v.l4<0) with | true=>none | false=>some v.l4) fun x=>Q x [scC v (log++[.ss "l4proto"])]:=q
   refine aO (fun h=>by rw [h] at q;exact q) fun h=>by rw [h] at q;exact q
 · show vcf _ _ _ _ _ _ [.ref 0,.d (fe "meta protocol")] _ _ _
   rw [Dq];exact ab.mpr ⟨hb,q⟩
theorem wI {o:Option Int} {f:Int->Int} {K:V->Prop} {R:Prop} (q:qO (o.map f) K) (h:o=some (o.getD 0)->K (.d (.ii (f (o.getD 0))))->R):cnd o.isNone (K (.d .nn)) R:=by
 cases o with
 | none=>exact q
 | some n=>exact h rfl q
theorem wk3 {u:Und} {X:Prop} (k3:okH u=true) (k4:0<=aP u) (k5:aP u<=400) (q:X):grd (okH u) (grd (okB 4096 8&&okB 4096 (aP u)) (grd (leB 0 (8*aP u)&&leB (8*aP u) 4096&&okB 4096 1) X)):=
 ad k3 (ad (ah (by decide) (bP 10 (nab k4 k5 (by decide)) (by decide))) (ad (ah (ah (an (Int.mul_nonneg (by decide) k4)) (an (Int.le_trans (Int.mul_le_mul_of_nonneg_left k5 (by decide)) (by decide)))) (by decide)) q))
theorem C0 {k:Nat} {P:Params} {v:EV} {log:List D} {t:Str} {a:D} {b:Int} {Q:QV} {E:QE} (ht:eN t=true) (hg:(scV v log&&((evE v k a).isSome&&Nat.ble log.length 800))=true) (ok:nu t b (cC v k a) (av FLD 5 (.tu [.ss t,a,.ii b]))=true)
  (q:qO ((cC v k a).map fun n=>wkV t n b (aP (av FLD 5 (.tu [.ss t,a,.ii b])))) fun x=>Q x [scC v (log++bo v k a)]):vcf (Svw (svE k) P) 30 P 313 b8 false [.ref 0,.d (.tu [.ss t,a,.ii b])] [scC v log] Q E:=by
 unfold nu at ok
 have o1:=Bool.and_eq_true_iff.mp ok
 have o2:=Bool.and_eq_true_iff.mp o1.2
 have o3:=Bool.and_eq_true_iff.mp o2.2
 have o4:=Bool.and_eq_true_iff.mp o3.2
 have k1:=o1.1
 have k2:=o2.1
 have g:=fun {X:Prop}=>wk3 (X:=X) o3.1 (ak.mp o4.1) (ak.mp o4.2)
 clear ok o1 o2 o3 o4
 rcases dD ht with rfl | rfl | rfl | rfl | rfl
 · exact Eq.mpr (xj ..) (ad hg (wI q fun _ q=>q))
 · exact Eq.mpr (De ..) (ad hg (wI q fun _ q=>g q))
 · exact Eq.mpr (zZ ..) (ad hg (wI q fun _ q=>g q))
 · refine Eq.mpr (Ab ..) (ad hg (wI q fun ho q=>?_))
   rw [show nU "shl"=true from by decide] at k1
   have hb:=Bool.and_eq_true_iff.mp k1
   rw [ho] at k2
   have k2:=Bool.and_eq_true_iff.mp k2
   refine ad (ah (ah hb.1 (an (Int.le_trans (ak.mp hb.2) (by decide)))) (bP 400 ?_ (by decide))) (g q)
   exact Int.ofNat_lt.mp (by rw [Int.natAbs_of_nonneg (ak.mp k2.1)];push_cast;exact cH.mp k2.2)
 · refine Eq.mpr (Aa ..) (ad hg (wI q fun _ q=>?_))
   rw [show nU "shr"=true from by decide] at k1
   exact ad (Bool.and_eq_true_iff.mp k1).1 q
theorem xB {k:Nat} {P:Params} {e:D} {v:EV} {log:List D} {Q:QV} {E:QE} (hs:scV v log=true) (he:(evE v (k+1) e).isSome=true) (hl:log.length<=800) (q:qO (cC v (k+1) e) fun x=>Q x [scC v (log++bo v (k+1) e)]):vcf (Svw (svE k) P) 30 P 313 b8 false [.ref 0,.d e] [scC v log] Q E:=by
 unfold cC bo at q
 cases hev:evE v (k+1) e with
 | none=>rw [hev] at he;exact aX he
 | some oz=>
  rw [hev] at q
  clear he
  obtain ⟨o,ln⟩:=oz
  replace q:qO o fun x=>Q x [scC v (log++ln)]:=q
  replace hev:evG v (evE v k) e=some (o,ln):=hev
  unfold evG at hev
  refine ie e (fun nm he hv=>?_) (fun t a b ht he hv=>?_) (fun a b he hv=>?_) (fun a b c d he hv=>?_) (fun hv=>?_) <;> rw [hv] at hev <;> clear hv
  · obtain ⟨r,hr,e2⟩:=Option.map_eq_some_iff.mp hev
    cases e2;clear hev;subst he
    obtain ⟨hm,rfl⟩:=nC hr
    exact AU (svE k) P v log Q E hs hl hm q
  · obtain ⟨b,eb,hw⟩:=aD hev
    clear hev;obtain rfl:=jW eb
    obtain ⟨p,ha,hk,e2⟩:=zY hw
    clear hw eb;cases e2;subst he
    have va:cC v k a=p.1:=by unfold cC;rw [ha]
    have na:bo v k a=p.2:=by unfold bo;rw [ha]
    rw [<- va,<- na] at q
    rw [<- va] at hk
    exact C0 ht (ah hs (ah (by rw [ha];rfl) (ao hl))) hk q
  · exact nS hev
  · exact nS hev
  · exact nS hev
theorem HO (W:Wd w base):∀ k,aU w base 313 (11+2*k) (svE k):=by
 intro k
 induction k with
 | zero=>
  refine fun A stk G O Z vs cs s Q E QQ EE h1 h2 h3 h4 h5 h6 h7 h8 q=>?_
  replace q:=aB q
  obtain ⟨zz,zy,e1,e2,q⟩:=q;obtain ⟨_,e,_⟩:=zz;obtain ⟨zx,_⟩:=zy;obtain ⟨C,l,zw⟩:=zx;obtain ⟨zv,_⟩:=zw;obtain ⟨lg,log⟩:=zv
  have:=Bool.and_eq_true_iff.mp (Bool.and_eq_true_iff.mp (ab.mp q).1).2
  exact aX this.1
 | succ k ih=>
  refine bD W (LOk.so (fz:=fun _=>[]) (fg:=fun _=>[]) (lvw W ih (Nat.le_add_right 11 (2*k)))) false (Fi w) (Fz _) (Eu _) 30 fun vs Z Q E q=>?_
  replace q:=aB q
  obtain ⟨zz,zy,e1,e2,q⟩:=q;obtain ⟨_,e,_⟩:=zz;obtain ⟨zx,_⟩:=zy;obtain ⟨C,l,zw⟩:=zx;obtain ⟨zv,_⟩:=zw;obtain ⟨lg,log⟩:=zv
  obtain rfl:=(show vs=[.ref 0,.d e] from e1);obtain rfl:=(show Z=[.inst C l [(lg,.li log)]] from e2)
  clear e1 e2 ih
  dsimp only at q
  replace q:=ab.mp q
  obtain ⟨c,q⟩:=q
  have c:=Bool.and_eq_true_iff.mp c
  have c2:=Bool.and_eq_true_iff.mp c.2
  obtain ⟨v,rfl,rfl,rfl,hv,hl'⟩:=gj c.1
  rw [cU] at q c2
  exact ⟨rfl,xB c.1 c2.1 (Nat.le_of_ble_eq_true c2.2) q⟩
end
end Mine
namespace Mine
open PySem PySem.W PyProof.Rows PySem.SeqAt
noncomputable def bc (v:EV) (k:Nat):List D->Option (List Int)×List D
 | []=>(some [],[])
 | p::r=>match cC v k p with
  | none=>(none,bo v k p)
  | some x=>match bc v k r with
   | (o,l)=>(o.map (x::·),bo v k p++l)
noncomputable def iV (v:EV) (k:Nat) (ps:List D):Bool:=Nat.ble ps.length 10&&ps.all fun p=>(evE v k p).isSome&&Nat.ble (bo v k p).length 20
noncomputable def tS (k:Nat):au:=mkS (pC (pR 0) (pC (pD pA) pN)) (pC (pIn pA (pC (pP pA (pOL pA)) pN)) pN) fun (_,e,_) ((C,l,((lg,log),_)),_) Q E=>grd (scB C l lg log&&(aQ e&&(iV (hH l) k (am e)&&Nat.ble log.length 500)))
 (cnd (bc (hH l) k (am e)).1.isNone (Q (.d .nn) [.inst C l [(lg,.li (log++(bc (hH l) k (am e)).2))]]) (Q (.d (.tu (((bc (hH l) k (am e)).1.getD []).map .ii))) [.inst C l [(lg,.li (log++(bc (hH l) k (am e)).2))]]))
noncomputable def FP (k:Nat):List (Addr×au):=[(179,qD),(313,svE k)]
noncomputable def jh (k:Nat):Tab:=aZ (FP k)
noncomputable def U320 (e:D) (r:Mine.Loc):Mine.Loc:=("e",.d e)::("scene",.ref 0)::("numbers",.ref 1)::r
theorem DC (k:Nat) (P:Params) (v:EV) (log:List D) (e:D) (Q:QV) (E:QE):vcf (jh k) 30 P 320 qL false [.ref 0,.d e] [scC v log] Q E=
 grd (aQ e) (bq (stp 29 (jh k) P 320 1) ((am e).map .d) (U320 e []) [scC v log,.oc (.li [])] (cx 30 (jh k) P 320 2 (a9 false 1 Q) (bE 1 E))):=by kernel_rfl
theorem AG (k:Nat) (P:Params) (v:EV) (log acc:List D) (e p:D) (K:QF):stp 29 (jh k) P 320 1 (.d p) (U320 e []) [scC v log,.oc (.li acc)] K=
 (grd (scV v log&&(Option.isSome (evE v k p)&&Nat.ble (List.length log) 800)) (cnd (Option.isNone (cC v k p)) (K (Fl.rt (V.d D.nn)) (U320 e [("component",V.d p),("n",V.d D.nn)]) [scC v (log++bo v k p),aa.oc (OC.li acc)]) (grd (Nat.ble (List.length acc) 1048576) (K Fl.nx (U320 e [("component",V.d p),("n",V.d (D.ii (Option.getD (cC v k p) 0)))]) [scC v (log++bo v k p),aa.oc (OC.li (acc++[D.ii (Option.getD (cC v k p) 0)]))])))):=by kernel_rfl
theorem AF (k:Nat) (P:Params) (v:EV) (log acc:List D) (e p:D) (x y:V) (K:QF):stp 29 (jh k) P 320 1 (.d p) (U320 e [("component",x),("n",y)]) [scC v log,.oc (.li acc)] K=
 (grd (scV v log&&(Option.isSome (evE v k p)&&Nat.ble (List.length log) 800)) (cnd (Option.isNone (cC v k p)) (K (Fl.rt (V.d D.nn)) (U320 e [("component",V.d p),("n",V.d D.nn)]) [scC v (log++bo v k p),aa.oc (OC.li acc)]) (grd (Nat.ble (List.length acc) 1048576) (K Fl.nx (U320 e [("component",V.d p),("n",V.d (D.ii (Option.getD (cC v k p) 0)))]) [scC v (log++bo v k p),aa.oc (OC.li (acc++[D.ii (Option.getD (cC v k p) 0)]))])))):=by kernel_rfl
theorem Cf (k:Nat) (P:Params) (v:EV) (log acc:List D) (e:D) (Q:QV) (E:QE):cx 30 (jh k) P 320 2 (a9 false 1 Q) (bE 1 E) .nx (U320 e []) [scC v log,.oc (.li acc)]=grd (Nat.ble acc.length 1048576) (Q (.d (.tu acc)) [scC v log]):=by kernel_rfl
theorem Ce (k:Nat) (P:Params) (v:EV) (log acc:List D) (e:D) (x y:V) (Q:QV) (E:QE):cx 30 (jh k) P 320 2 (a9 false 1 Q) (bE 1 E) .nx (U320 e [("component",x),("n",y)]) [scC v log,.oc (.li acc)]=grd (Nat.ble acc.length 1048576) (Q (.d (.tu acc)) [scC v log]):=by kernel_rfl
theorem Cd (k:Nat) (P:Params) (v:EV) (log acc:List D) (U:Mine.Loc) (Q:QV) (E:QE):cx 30 (jh k) P 320 2 (a9 false 1 Q) (bE 1 E) (.rt (.d .nn)) U [scC v log,.oc (.li acc)]=Q (.d .nn) [scC v log]:=by kernel_rfl
theorem r6 (k:Nat) (P:Params) (v:EV) (e:D) (K:QF) (Q:QV)
  (hnx:∀ U log acc,(U=U320 e []\/∃ x y,U=U320 e [("component",x),("n",y)])->acc.length<=100->Q (.d (.tu acc)) [scC v log]->K .nx U [scC v log,.oc (.li acc)])
  (hrt:∀ U log acc,Q (.d .nn) [scC v log]->K (.rt (.d .nn)) U [scC v log,.oc (.li acc)]) (hv:evB v=true):∀ (ps:List D) (U:Mine.Loc) (log:List D) (is:List Int),(U=U320 e []\/∃ x y,U=U320 e [("component",x),("n",y)])->
  (∀ p∈ps,(evE v k p).isSome=true/\(bo v k p).length<=20)->log.length+20*ps.length<=800->is.length+ps.length<=100->
  (match (bc v k ps).1 with
   | some l=>Q (.d (.tu ((is++l).map .ii))) [scC v (log++(bc v k ps).2)]
   | none=>Q (.d .nn) [scC v (log++(bc v k ps).2)])->
  bq (stp 29 (jh k) P 320 1) (ps.map .d) U [scC v log,.oc (.li (is.map .ii))] K:=by
 intro ps
 induction ps with
 | nil=>
  intro U log is hU hp hl hi q
  show K .nx U _
  refine hnx U log _ hU (by rw [List.length_map];simpa using hi) ?_
  have q:Q (.d (.tu ((is++[]).map .ii))) [scC v (log++[])]:=q
  rw [List.append_nil,List.append_nil] at q
  exact q
 | cons p r ih=>
  intro U log is hU hp hl hi q
  obtain ⟨h1,h2⟩:=hp p (.head _)
  rw [List.length_cons] at hl hi
  have hg:(scV v log&&(Option.isSome (evE v k p)&&Nat.ble (List.length log) 800))=true:=ah (jz hv (by omega)) (ah h1 (ao (by omega)))
  have main:(grd (scV v log&&(Option.isSome (evE v k p)&&Nat.ble (List.length log) 800)) (cnd (Option.isNone (cC v k p)) (K (Fl.rt (V.d D.nn)) (U320 e [("component",V.d p),("n",V.d D.nn)]) [scC v (log++bo v k p),aa.oc (OC.li (is.map .ii))]) (grd (Nat.ble (List.length (is.map D.ii)) 1048576) (bq (stp 29 (jh k) P 320 1) (r.map .d) (U320 e [("component",V.d p),("n",V.d (D.ii (Option.getD (cC v k p) 0)))]) [scC v (log++bo v k p),aa.oc (OC.li (is.map .ii++[D.ii (Option.getD (cC v k p) 0)]))] K)))):=by
   refine ab.mpr ⟨hg,?_⟩
   unfold bc at q
   cases hval:cC v k p with
   | none=>
    rw [hval] at q
    exact hrt _ _ _ q
   | some x=>
    rw [hval] at q
    refine bL rfl (ab.mpr ⟨ao (by rw [List.length_map];omega),?_⟩)
    have e1:is.map D.ii++[D.ii (Option.getD (some x) 0)]=(is++[x]).map D.ii:=by simp
    rw [e1]
    refine ih _ _ (is++[x]) (.inr ⟨_,_,rfl⟩) (fun p' hp'=>hp p' (.tail _ hp')) (by rw [List.length_append];omega) (by rw [List.length_append,List.length_singleton];omega) ?_
    cases hk:bc v k r with
    | mk o l=>
     rw [hk] at q
     cases o with
     | none=>
      have q:Q (.d .nn) [scC v (log++(bo v k p++l))]:=q
      rw [<- List.append_assoc] at q
      exact q
     | some L=>
      have q:Q (.d (.tu ((is++(x::L)).map .ii))) [scC v (log++(bo v k p++l))]:=q
      rw [<- List.append_assoc] at q
      have e2:is++(x::L)=is++[x]++L:=by simp
      rw [e2] at q
      exact q
  show stp 29 (jh k) P 320 1 (.d p) U _ _
  rcases hU with rfl | ⟨x,y,rfl⟩
  · rw [AG];exact main
  · rw [AF];exact main
theorem HN {w:World} {base:Heap} (W:Wd w base) (k:Nat):aU w base 320 (12+2*k) (tS k):=by
 exists w,base,k,_ W
 have lp:LOk w base (11+2*k) (FP k):=LOk.cons ((BV W).mono (by omega)) (BF _) (LOk.cons (HO W k) (BE _) LOk.nil)
 have:=bD W (LOk.so (fz:=fun _=>[]) (fg:=fun _=>[]) lp) false (Ij w) (I7 _) (Gv _) 30 (sp:=tS k) fun vs Z Q E q=>by
  replace q:=aB q
  obtain ⟨zz,zy,e1,e2,q⟩:=q;obtain ⟨_,e,_⟩:=zz;obtain ⟨zx,_⟩:=zy;obtain ⟨C,l,zw⟩:=zx;obtain ⟨zv,_⟩:=zw;obtain ⟨lg,log⟩:=zv
  obtain rfl:=(show vs=[.ref 0,.d e] from e1);obtain rfl:=(show Z=[.inst C l [(lg,.li log)]] from e2)
  dsimp only at q
  replace q:=ab.mp q
  obtain ⟨c,q⟩:=q
  simp only [Bool.and_eq_true] at c
  obtain ⟨hs,hp,hk,hl⟩:=c
  have hl:=Nat.le_of_ble_eq_true hl
  clear e2;obtain ⟨v,rfl,rfl,rfl,hv,hl'⟩:=gj hs
  rw [cU] at q hk
  refine ⟨rfl,?_⟩
  show vcf (jh k) 30 w.params 320 qL false [.ref 0,.d e] [scC v log] Q E
  rw [DC]
  unfold iV at hk
  rw [Bool.and_eq_true] at hk
  have hn:=Nat.le_of_ble_eq_true hk.1
  refine ab.mpr ⟨hp,r6 k w.params v e _ Q (fun U log acc hU ha q=>?_) (fun U log acc q=>by rw [Cd];exact q) hv (am e) _ log [] (.inl rfl) (fun p hp=>?_) (by omega) (by simp;omega) ?_⟩
  · clear hl;rcases hU with rfl | ⟨x,y,rfl⟩
    · rw [Cf];exact ab.mpr ⟨ao (by omega),q⟩
    · rw [Ce];exact ab.mpr ⟨ao (by omega),q⟩
  · have:=List.all_eq_true.mp hk.2 p hp
    rw [Bool.and_eq_true] at this
    exact ⟨this.1,Nat.le_of_ble_eq_true this.2⟩
  · cases hkey:(bc v k (am e)).1 with
    | none=>rw [hkey] at q;exact q
    | some L=>rw [hkey] at q;exact q
 exact this.mono (by omega)
end Mine
namespace Mine
open PySem PySem.W PyProof.Rows PySem.SeqAt
variable (P:Params)
noncomputable def oD:Option Int->D
 | none=>.nn
 | some x=>.ii x
noncomputable def l4O (v:EV):Option Int:=match decide (v.l4<0) with
 | true=>none
 | false=>some v.l4
noncomputable def aL (v:EV):List (Str×D):=[("mark",.ii v.mark),("length",.ii v.data.size),("protocol",.ii v.kind),("nfproto",.ii (ch v.kind)),("l4proto",oD (l4O v)),
 (Str.ofString "link",.tu [.ii (df v.link),.ii (8*(v.link.size:Int)),.ii 0]),("network",.tu [.ii (df v.data),.ii (8*(v.data.size:Int)),.ii 0]),("transport",.tu [.ii (df v.data),.ii (8*(v.data.size:Int)),.ii (8*v.off)])]
noncomputable def tP  : au:=mkS (pC (pD pF) (pC (pD pS) pN)) pN fun (told,p,_) _ Q E=>∃ v,told=aL v/\evB v=true/\cQ p=true/\Q (.d (.tu [.li (bx v p).1,.bb (bx v p).2])) []
noncomputable def FO (P:Params):List (Addr×au):=[(362,inl S0 30 P 362 qK false),(388,tQ)]
noncomputable def kC (P:Params):Tab:=aZ (FO P)
noncomputable def qA (Q:QV) (l:List D) (b:Bool):Prop:=Q (.d (.tu [.li l,.bb b])) []
noncomputable def nD (s:String):D:=.ss (Str.ofString s)
theorem tD (v:EV) (Q:QV) (E:QE):vcf (kC P) 30 P 395 d7 false [.d (.di (aL v)),.d (.ss "ether")] [] Q E=qA Q [] true:=by kernel_rfl
theorem DP (v:EV) (Q:QV) (E:QE):vcf (kC P) 30 P 395 d7 false [.d (.di (aL v)),.d (.ss "th")] [] Q E=qA Q [] true:=by kernel_rfl
theorem xl (v:EV) (Q:QV) (E:QE):vcf (kC P) 30 P 395 d7 false [.d (.di (aL v)),.d (.ss "vlan")] [] Q E=grd (iY (8*(v.link.size:Int)) 96 16) (cnd (decide (8*(v.link.size:Int)<0+96+16)) (qA Q [eU] false) (cnd (!PyData.eqv (D.py (.ii (fB (df v.link) (8*(v.link.size:Int)) 0 96 16))) (D.py (.ii 33024))) (qA Q [eU] false) (qA Q [eU] true))):=by kernel_rfl
theorem Ai (v:EV) (Q:QV) (E:QE):vcf (kC P) 30 P 395 d7 false [.d (.di (aL v)),.d (.ss "arp")] [] Q E=cnd (!PyData.eqv (D.py (.ii (v.kind))) (D.py (.ii 2054))) (qA Q [nD "protocol"] false) (qA Q [nD "protocol"] true):=by kernel_rfl
theorem DQ (v:EV) (Q:QV) (E:QE):vcf (kC P) 30 P 395 d7 false [.d (.di (aL v)),.d (.ss "ip")] [] Q E=cnd (!PyData.eqv (D.py (.ii (ch v.kind))) (D.py (.ii 2))) (qA Q [nD "nfproto"] false) (qA Q [nD "nfproto"] true):=by kernel_rfl
theorem Ah (v:EV) (Q:QV) (E:QE):vcf (kC P) 30 P 395 d7 false [.d (.di (aL v)),.d (.ss "ip6")] [] Q E=cnd (!PyData.eqv (D.py (.ii (ch v.kind))) (D.py (.ii 10))) (qA Q [nD "nfproto"] false) (qA Q [nD "nfproto"] true):=by kernel_rfl
theorem Ag (v:EV) (Q:QV) (E:QE):vcf (kC P) 30 P 395 d7 false [.d (.di (aL v)),.d (.ss "tcp")] [] Q E=grd (PyData.canLay0 (D.py (oD (l4O v)))&&true&&true) (cnd (!PyData.eqv (D.py (oD (l4O v))) (D.py (.ii 6))) (qA Q [nD "l4proto"] false) (qA Q [nD "l4proto"] true)):=by kernel_rfl
theorem Af (v:EV) (Q:QV) (E:QE):vcf (kC P) 30 P 395 d7 false [.d (.di (aL v)),.d (.ss "udp")] [] Q E=grd (PyData.canLay0 (D.py (oD (l4O v)))&&true&&true) (cnd (!PyData.eqv (D.py (oD (l4O v))) (D.py (.ii 17))) (qA Q [nD "l4proto"] false) (qA Q [nD "l4proto"] true)):=by kernel_rfl
theorem xm (v:EV) (Q:QV) (E:QE):vcf (kC P) 30 P 395 d7 false [.d (.di (aL v)),.d (.ss "icmp")] [] Q E=cnd (!PyData.eqv (D.py (.ii (ch v.kind))) (D.py (.ii 2))) (qA Q [nD "nfproto"] false) (grd (PyData.canLay0 (D.py (oD (l4O v)))&&true&&true) (cnd (!PyData.eqv (D.py (oD (l4O v))) (D.py (.ii 1))) (qA Q [nD "nfproto",nD "l4proto"] false) (qA Q [nD "nfproto",nD "l4proto"] true))):=by kernel_rfl
theorem rQ (v:EV) (Q:QV) (E:QE):vcf (kC P) 30 P 395 d7 false [.d (.di (aL v)),.d (.ss "icmpv6")] [] Q E=cnd (!PyData.eqv (D.py (.ii (ch v.kind))) (D.py (.ii 10))) (qA Q [nD "nfproto"] false) (grd (PyData.canLay0 (D.py (oD (l4O v)))&&true&&true) (cnd (!PyData.eqv (D.py (oD (l4O v))) (D.py (.ii 58))) (qA Q [nD "nfproto",nD "l4proto"] false) (qA Q [nD "nfproto",nD "l4proto"] true))):=by kernel_rfl
theorem mx (o:Option Int):PyData.canLay0 (D.py (oD o))=true:=by cases o <;> rfl
theorem my (o:Option Int) (x:Int):PyData.eqv (D.py (oD o)) (D.py (.ii x))=isV o x:=by
 cases o with
 | none=>kernel_rfl
 | some y=>exact bC y x
theorem jn (v:EV) (x:Int) (hx:0<=x):isV (l4O v) x=decide (v.l4=x):=by
 unfold l4O
 cases h:decide (v.l4<0) with
 | true=>
  have h:=of_decide_eq_true h
  exact (decide_eq_false (by omega)).symm
 | false=>rfl
theorem fj {Q:QV} {l:List D} {b:Bool} (q:qA Q l b):cnd (!b) (qA Q l false) (qA Q l true):=by cases b <;> exact q
theorem E4 {w:World} {base:Heap} (W:Wd w base):aU w base 395 2 tP:=by
 exists w,base,_ W
 have lp:LOk w base 1 (FO w.params):=LOk.cons (aS W so0 false (Fh w) (Fy _) (Et _) 30) (ED _) (LOk.cons (E5 W) (EB _) LOk.nil)
 refine bD W (LOk.so (fz:=fun _=>[]) (fg:=fun _=>[]) lp) false (H9 w) (IW _) (Gl _) 30 fun vs Z Q E q=>?_;exists vs,Z,Q,E,_ q
 replace q:=aB q
 obtain ⟨zz,_,e1,e2,q⟩:=q;obtain ⟨told,p,_⟩:=zz
 obtain rfl:=(show vs=[.d (.di told),.d (.ss p)] from e1);obtain rfl:=(show Z=[] from e2)
 dsimp only at q
 obtain ⟨v,rfl,hv,hp,q⟩:=q
 refine ⟨rfl,?_⟩
 show vcf (kC w.params) 30 w.params 395 d7 false [.d (.di (aL v)),.d (.ss p)] [] Q E
 replace q:qA Q (bx v p).1 (bx v p).2:=q
 unfold evB at hv
 simp only [Bool.and_eq_true] at hv
 have v1:=Nat.le_of_ble_eq_true hv.1
 have hp':p="ether"\/p="vlan"\/p="arp"\/p="ip"\/p="ip6"\/p="tcp"\/p="udp"\/p="th"\/p="icmp"\/p="icmpv6":=by
  unfold cQ ik at hp
  simpa using hp
 clear hp e1;rcases hp' with rfl | rfl | rfl | rfl | rfl | rfl | rfl | rfl | rfl | rfl
 · rw [tD];exact q
 · rw [xl]
   refine ab.mpr ⟨?_,?_⟩
   · unfold iY
     exact ah (an (by omega)) (ah (an (by omega)) (ah (by decide) (ah (by decide) (ah (by decide) (by decide)))))
   · have e:bx v "vlan"=([eU],isV (fD (df v.link) (8*(v.link.size:Int)) 0 96 16) 33024):=rfl
     rw [e] at q
     unfold fD at q
     simp only [Int.lt_irrefl,decide_false] at q
     refine aO (fun h=>by rw [h] at q;exact q) fun h=>?_
     rw [h] at q
     rw [bC]
     exact fj q
 · rw [Ai,bC];exact fj q
 · rw [DQ,bC];exact fj q
 · rw [Ah,bC];exact fj q
 · rw [Ag]
   refine ab.mpr ⟨ah (ah (mx _) rfl) rfl,?_⟩
   rw [my,jn v 6 (by decide)];exact fj q
 · rw [Af]
   refine ab.mpr ⟨ah (ah (mx _) rfl) rfl,?_⟩
   rw [my,jn v 17 (by decide)];exact fj q
 · rw [DP];exact q
 · rw [xm,bC]
   have e:bx v "icmp"=match decide (ch v.kind=2) with | true=>([.ss "nfproto",.ss "l4proto"],decide (v.l4=1)) | false=>([.ss "nfproto"],false):=rfl
   rw [e] at q
   cases h:decide (ch v.kind=2) with
   | true=>
    rw [h] at q
    refine bL rfl (ab.mpr ⟨ah (ah (mx _) rfl) rfl,?_⟩)
    rw [my,jn v 1 (by decide)];exact fj q
   | false=>rw [h] at q;exact dP rfl q
 · rw [rQ,bC]
   have e:bx v "icmpv6"=match decide (ch v.kind=10) with | true=>([.ss "nfproto",.ss "l4proto"],decide (v.l4=58)) | false=>([.ss "nfproto"],false):=rfl
   rw [e] at q
   cases h:decide (ch v.kind=10) with
   | true=>
    rw [h] at q
    refine bL rfl (ab.mpr ⟨ah (ah (mx _) rfl) rfl,?_⟩)
    rw [my,jn v 58 (by decide)];exact fj q
   | false=>rw [h] at q;exact dP rfl q
noncomputable def bH (r:Row):D:=.tu [.ss r.name,.ss r.proto,.ss r.bse,.ii r.first,.ii r.many,.ss r.ty]
noncomputable def y8  : au:=mkS (pC (pD pF) (pC (pD pA) pN)) pN fun (told,row,_) _ Q E=>∃ v r,told=aL v/\evB v=true/\r∈dX/\row=bH r/\Q (.d (.tu [.li (rdN v r),oD (rdV v r)])) []
noncomputable def FN:List (Addr×au):=[(395,tP),(388,tQ)]
noncomputable def CN:Tab:=aZ FN
end Mine
namespace Mine
open PySem PySem.W PyProof.Rows PySem.SeqAt
noncomputable def rdl (v1:EV) (p b:Str) (f:Int) (x:D) (Q:QV):Prop:=grd (Nat.ble (([ntD p b f]:List D).length+(bx v1 p).1.length) 16777216) (Q (.d (.tu [.li ([ntD p b f]++(bx v1 p).1),x])) [])
noncomputable def rdq (v:EV) (p b:Str) (f m g bits bg:Int) (Q:QV):Prop:=∃ v1,aL v=aL v1/\evB v1=true/\cQ p=true/\cnd (bx v1 p).2 (grd (iY bits f m) (cnd (decide (bg<0)) (rdl v1 p b f .nn Q) (cnd (decide (bits<bg+f+m)) (rdl v1 p b f .nn Q) (rdl v1 p b f (.ii (fB g bits bg f m)) Q)))) (rdl v1 p b f .nn Q)
noncomputable def gB (v:EV) (b:Str):Int:=cond (decide (b=eZ)) (df v.link) (df v.data)
noncomputable def bB (v:EV) (b:Str):Int:=8*((cond (decide (b=eZ)) v.link.size v.data.size:Nat):Int)
noncomputable def oB (v:EV) (b:Str):Int:=cond (decide (b=eZ)) 0 (cond (decide (b=rR)) 0 (8*v.off))
theorem yL (v:EV) (b:Str) (f m:Int):gs v b f m=fD (gB v b) (bB v b) (oB v b) f m:=by
 unfold gs gB bB oB
 cases decide (b=eZ) with
 | true=>rfl
 | false=>cases decide (b=rR) <;> rfl
theorem F3 (P:Params) (v:EV) (Q:QV) (E:QE):∀ r∈s5,vcf CN 30 P 402 nF false [.d (.di (aL v)),.d (bH r)] [] Q E=rdq v r.proto r.bse r.first r.many (gB v r.bse) (bB v r.bse) (oB v r.bse) Q:=qs (by kernel_rfl)
theorem F4 (P:Params) (v:EV) (Q:QV) (E:QE):∀ r∈yU,vcf CN 30 P 402 nF false [.d (.di (aL v)),.d (bH r)] [] Q E=Q (.d (.tu [.li (rdN v r),oD (rdV v r)])) []:=qs (by kernel_rfl)
theorem wY (v:EV) (p:Str):(bx v p).1.length<=2:=Nat.le_of_ble_eq_true (hV (fun l=>Nat.ble l.length 2) (by kernel_rfl))
theorem AX {v:EV} {p b:Str} {f m g bits bg:Int} {Q:QV} (hv:evB v=true) (hp:cQ p=true) (hc:iY bits f m=true)
  (q:Q (.d (.tu [.li ([ntD p b f]++(bx v p).1),oD (match (bx v p).2 with | true=>fD g bits bg f m | false=>none)])) []):rdq v p b f m g bits bg Q:=by
 refine ⟨v,rfl,hv,hp,?_⟩
 have hl:Nat.ble (([ntD p b f]:List D).length+(bx v p).1.length) 16777216=true:=ao (by have:=wY v p;simp;omega (config:={}))
 have lf:∀ x,Q (.d (.tu [.li ([ntD p b f]++(bx v p).1),x])) []->rdl v p b f x Q:=fun x q=>ab.mpr ⟨hl,q⟩
 cases ha:(bx v p).2 with
 | true=>
  rw [ha] at q
  refine dP rfl (ab.mpr ⟨hc,?_⟩)
  replace q:Q (.d (.tu [.li ([ntD p b f]++(bx v p).1),oD (fD g bits bg f m)])) []:=q
  unfold fD at q
  refine aO (fun h=>?_) fun h=>?_
  · rw [h] at q;exact lf _ q
  · rw [h] at q
    refine aO (fun h=>?_) fun h=>?_
    · rw [h] at q;exact lf _ q
    · rw [h] at q;exact lf _ q
 | false=>rw [ha] at q;exact bL rfl (lf _ q)
theorem wD {n:Nat} (h:n<=64) {f m:Int} (h1:0<=f) (h2:f<=1024) (h3:0<=m) (h4:m<=1024):iY (8*(n:Int)) f m=true:=by
 unfold iY
 exact ah (an (by omega)) (ah (an (by omega)) (ah (an h1) (ah (an h2) (ah (an h3) (an h4)))))
theorem uV:s5.all (fun r=>cQ r.proto&&(leB 0 r.first&&(leB r.first 1024&&(leB 0 r.many&&leB r.many 1024))))=true:=by kernel_rfl
theorem HJ {w:World} {base:Heap} (W:Wd w base):aU w base 402 3 y8:=by
 have lp:LOk w base 2 FN:=LOk.cons (E4 W) (EA _) (LOk.cons ((E5 W).mono (by decide)) (EB _) LOk.nil)
 refine bD W (LOk.so (fz:=fun _=>[]) (fg:=fun _=>[]) lp) false (H8 w) (IV _) (Gk _) 30 fun vs Z Q E q=>?_
 replace q:=aB q
 obtain ⟨zz,_,e1,e2,q⟩:=q;obtain ⟨told,row,_⟩:=zz
 obtain rfl:=(show vs=[.d (.di told),.d row] from e1);obtain rfl:=(show Z=[] from e2)
 dsimp only at q
 obtain ⟨v,r,rfl,hv,hr,rfl,q⟩:=q
 refine ⟨rfl,?_⟩
 show vcf CN 30 w.params 402 nF false [.d (.di (aL v)),.d (bH r)] [] Q E
 have hv':=hv
 unfold evB at hv'
 simp only [Bool.and_eq_true] at hv'
 have v1:=Nat.le_of_ble_eq_true hv'.1
 have v2:=Nat.le_of_ble_eq_true hv'.2.1
 clear e1 hv'
 rcases List.mem_append.mp hr with hr | hr
 · unfold rdV rdN at q
   rw [po hr] at q
   dsimp only at q
   rw [yL] at q
   have z:=List.all_eq_true.mp uV r hr
   have z1:=Bool.and_eq_true_iff.mp z
   have z2:=Bool.and_eq_true_iff.mp z1.2
   have z3:=Bool.and_eq_true_iff.mp z2.2
   have z4:=Bool.and_eq_true_iff.mp z3.2
   refine Eq.mpr (F3 w.params v Q E r hr) (AX hv z1.1 (wD ?_ (ak.mp z2.1) (ak.mp z3.1) (ak.mp z4.1) (ak.mp z4.2)) q)
   cases decide (r.bse=eZ) with
   | true=>exact v1
   | false=>exact v2
 · exact Eq.mpr (F4 w.params v Q E r hr) q
end Mine
namespace Mine
open PySem PyProof.Rows
theorem p2 (k:Nat):(2:Int) ^ k=((2 ^ k:Nat):Int):=by push_cast;rfl
theorem Bq (k:Nat):(2:Int) ^ k - 1=((2 ^ k - 1:Nat):Int):=by
 rw [p2];exact (Int.ofNat_sub (Nat.two_pow_pos k)).symm
theorem p2m (k:Nat):(1:Int)*2 ^ k - 1=((2 ^ k - 1:Nat):Int):=by
 rw [Int.one_mul,Bq]
theorem v7 (a b:Nat):Int.fdiv (a:Int) (b:Int)=((a / b:Nat):Int):=by
 rw [Int.fdiv_eq_ediv_of_nonneg _ (Int.natCast_nonneg _)];norm_cast
theorem vW (a b:Nat):Int.fmod (a:Int) (b:Int)=((a % b:Nat):Int):=by
 rw [Int.fmod_eq_emod_of_nonneg _ (Int.natCast_nonneg _)];norm_cast
theorem vQ (n b:Nat):Builtin.bitAnd (n:Int) (31*2 ^ b)=Int.fmod (Int.fdiv (n:Int) (2 ^ b)) 32*2 ^ b:=by
 rw [p2,show (31:Int)*((2 ^ b:Nat):Int)=((31*2 ^ b:Nat):Int) by push_cast;rfl,bI,CI,v7,show (32:Int)=((32:Nat):Int) from rfl,vW]
 push_cast;rfl
theorem ET (n b k:Nat):Builtin.bitAnd ((n:Int)*2 ^ b) (1*2 ^ k - 1)=Int.fmod ((n:Int)*2 ^ b) (2 ^ k):=by
 rw [p2m,p2,p2,show (n:Int)*((2 ^ b:Nat):Int)=((n*2 ^ b:Nat):Int) by push_cast;rfl,bI,dH,vW]
theorem Hv (n b k:Nat):Builtin.bitAnd (Builtin.bitOr (n:Int) (2 ^ b - 1)) (1*2 ^ k - 1)=Int.fmod (Int.fdiv (n:Int) (2 ^ b)*2 ^ b+2 ^ b - 1) (2 ^ k):=by
 have hp:=Nat.two_pow_pos b
 rw [p2m,Bq,iI,bI,dH,vc,p2 b,p2 k,v7]
 rw [show ((n / 2 ^ b:Nat):Int)*((2 ^ b:Nat):Int)+((2 ^ b:Nat):Int) - 1=((n / 2 ^ b*2 ^ b+(2 ^ b - 1):Nat):Int) by
  rw [<- Int.natCast_mul,Int.add_sub_assoc];exact congrArg _ (Int.ofNat_sub hp).symm]
 rw [vW]
theorem ES (n k:Nat) (h:n<2 ^ k):Builtin.bitAnd (Builtin.bitXor (n:Int) (2 ^ k - 1)) (1*2 ^ k - 1)=2 ^ k - 1 - (n:Int):=by
 have hp:=Nat.two_pow_pos k
 rw [p2m,Bq,qp,ta n k h,bI,dH,Nat.mod_eq_of_lt (Nat.lt_of_le_of_lt (Nat.sub_le _ _) (Nat.sub_lt hp Nat.one_pos))]
 exact Int.ofNat_sub (Nat.le_sub_one_of_lt h)
theorem vP (n b k:Nat) (h:n<2 ^ k):0<=Int.fdiv (n:Int) (2 ^ b)/\Int.fdiv (n:Int) (2 ^ b)<2 ^ k:=by
 rw [p2,p2,v7]
 exact ⟨Int.natCast_nonneg _,Int.ofNat_lt.mpr (Nat.lt_of_le_of_lt (Nat.div_le_self n (2 ^ b)) h)⟩
theorem sw (n b k:Nat) (h:n<2 ^ k):0<=Int.fmod (Int.fdiv (n:Int) (2 ^ b)) 32*2 ^ b/\Int.fmod (Int.fdiv (n:Int) (2 ^ b)) 32*2 ^ b<2 ^ k:=by
 rw [<- vQ,p2,show (31:Int)*((2 ^ b:Nat):Int)=((31*2 ^ b:Nat):Int) by push_cast;rfl,bI,p2]
 exact ⟨Int.natCast_nonneg _,Int.ofNat_lt.mpr (Nat.lt_of_le_of_lt Nat.and_le_left h)⟩
theorem jY (x:Int) (k:Nat):0<=Int.fmod x (2 ^ k)/\Int.fmod x (2 ^ k)<2 ^ k:=
 ⟨Int.fmod_nonneg_of_pos _ (Int.pow_pos (by decide)),Int.fmod_lt_of_pos _ (Int.pow_pos (by decide))⟩
end Mine
namespace Mine
open PySem PySem.W PyProof.Rows PySem.SeqAt
noncomputable def cV (v:EV):Bool:=evB v&&(leB 0 v.mark&&(ltB v.mark (2 ^ 32)&&(ltB v.l4 256&&(leB 0 v.kind&&ltB v.kind 65536))))
noncomputable def szR (r:Row):Int:=Int.fdiv (r.first+r.many - 1) 8 - Int.fdiv r.first 8+1
noncomputable def ml (r:Row):Str:=match decide (r.bse="mark")||decide (r.bse="length") with
 | true=>"host"
 | false=>"big"
noncomputable def eC (r:Row):List Str:=match decide (r.proto="") with
 | true=>[]
 | false=>[r.proto]
structure CP where
 e:D
 val:Option Int
 notes:List D
 ty:Str
 bits:Int
 proto:Str
 ord:Str
 size:Int
noncomputable def cpD (c:CP):D:=.tu [c.e,oD c.val,.li c.notes,.tu [.ss c.ty,.ii c.bits],.ss c.proto,.ss c.ord,.ii c.size]
noncomputable def qG (r:Row):Bool:=(match cL FLD r.name with
 | .pay ty b p bs f=>decide (ty=r.ty)&&(decide (b=r.many)&&(decide (p=r.proto)&&(decide (ml r="big")&&decide (Int.fdiv (Int.fmod f 8+b+7) 8=szR r))))&&!decide (r.proto="")
 | .met ty b o _=>decide (ty=r.ty)&&(decide (b=r.many)&&(decide (o=ml r)&&decide (Int.fdiv (0+b+7) 8=szR r)))&&decide (r.proto="")
 | _=>false)&&(match jB r.name with
 | some r'=>decide (r'.name=r.name)&&(decide (r'.proto=r.proto)&&(decide (r'.bse=r.bse)&&(decide (r'.first=r.first)&&(decide (r'.many=r.many)&&decide (r'.ty=r.ty)))))
 | none=>false)&&(leB 1 (szR r)&&(leB (szR r) 16&&(leB 1 r.many&&(leB r.many (8*szR r)&&(leB 0 r.first&&(PyData.strOk r.proto&&(PyData.strOk r.bse&&(PyData.strOk r.ty&&PyData.strOk r.name))))))))
theorem rY:dX.all qG=true:=by kernel_rfl
theorem xI {r r':Row} (h:(decide (r'.name=r.name)&&(decide (r'.proto=r.proto)&&(decide (r'.bse=r.bse)&&(decide (r'.first=r.first)&&(decide (r'.many=r.many)&&decide (r'.ty=r.ty))))))=true):r'=r:=by
 simp only [Bool.and_eq_true,decide_eq_true_eq] at h
 obtain ⟨h1,h2,h3,h4,h5,h6⟩:=h
 cases r;cases r'
 simp only at h1 h2 h3 h4 h5 h6
 subst h1 h2 h3 h4 h5 h6
 rfl
structure Jx (r:Row):Prop where
 ok:okU (cL FLD r.name)=true
 ty:tyU (cL FLD r.name)=r.ty
 bits:rq (cL FLD r.name)=r.many
 ord:si (cL FLD r.name)=ml r
 size:aP (cL FLD r.name)=szR r
 pay:Bn (cL FLD r.name)=some (eC r)
 row:jB r.name=some r
 s1:1<=szR r
 s2:szR r<=16
 m1:1<=r.many
 m2:r.many<=8*szR r
 sp:PyData.strOk r.proto=true
 sb:PyData.strOk r.bse=true
 st:PyData.strOk r.ty=true
theorem nB {r:Row} (h:r∈dX):Jx r:=by
 have hf:=List.all_eq_true.mp rY r h
 unfold qG at hf
 rw [Bool.and_eq_true,Bool.and_eq_true] at hf
 obtain ⟨zz,h3⟩:=hf;obtain ⟨h1,h2⟩:=zz
 simp only [Bool.and_eq_true] at h3
 obtain ⟨k1,k2,k3,k4,k5,k6,k7,zz⟩:=h3;obtain ⟨k8,k9⟩:=zz
 have hrow:jB r.name=some r:=by
  split at h2
  · rename_i r' e
    rw [e,xI h2]
  · contradiction
 split at h1
 · rename_i ty b p bs f e
   simp only [Bool.and_eq_true,decide_eq_true_eq,Bool.not_eq_true',decide_eq_false_iff_not] at h1
   obtain ⟨zz,a6⟩:=h1;obtain ⟨rfl,rfl,rfl,a4,a5⟩:=zz
   have hp:eC r=[r.proto]:=by unfold eC;rw [decide_eq_false a6]
   exact ⟨by rw [e];rfl,by rw [e];rfl,by rw [e];rfl,by rw [e];exact a4.symm,by rw [e];exact a5,by rw [e,hp];rfl,hrow,ak.mp k1,ak.mp k2,ak.mp k3,ak.mp k4,k6,k7,k8⟩
 · rename_i ty b o k e
   simp only [Bool.and_eq_true,decide_eq_true_eq] at h1
   obtain ⟨zz,a6⟩:=h1;obtain ⟨rfl,rfl,a4,a5⟩:=zz
   have hp:eC r=[]:=by unfold eC;rw [decide_eq_true a6]
   exact ⟨by rw [e];rfl,by rw [e];rfl,by rw [e];rfl,by rw [e];exact a4,by rw [e];exact a5,by rw [e,hp];rfl,hrow,ak.mp k1,ak.mp k2,ak.mp k3,ak.mp k4,k6,k7,k8⟩
 · contradiction
theorem B5 {v:EV} (h:cV v=true):evB v=true:=by
 unfold cV at h
 rw [Bool.and_eq_true] at h
 exact h.1
theorem mZ {g b bg f m x:Int} (h:fD g b bg f m=some x):0<=x/\x<2 ^ m.toNat:=by
 unfold fD at h
 split at h
 · contradiction
 · split at h
   · contradiction
   · cases h
     exact jY _ _
theorem yK {v:EV} {b:Str} {f m x:Int} (h:gs v b f m=some x):0<=x/\x<2 ^ m.toNat:=by
 unfold gs at h
 split at h
 · exact mZ h
 · split at h
   · exact mZ h
   · exact mZ h
theorem yo (k:Int):0<=ch k/\ch k<2 ^ 8:=by
 unfold ch
 split
 · decide
 · split
   · decide
   · split <;> decide
theorem AZ {v:EV} (hv:cV v=true) {r:Row} (hr:r∈dX) {x:Int} (h:rdV v r=some x):0<=x/\x<2 ^ r.many.toNat:=by
 unfold cV at hv
 simp only [Bool.and_eq_true] at hv
 obtain ⟨hb,h1,h2,h3,h4,h5⟩:=hv
 have h1:=ak.mp h1
 have h2:=cH.mp h2
 have h3:=cH.mp h3
 have h4:=ak.mp h4
 have h5:=cH.mp h5
 unfold evB at hb
 simp only [Bool.and_eq_true] at hb
 have hd:=Nat.le_of_ble_eq_true hb.2.1
 have pay:∀ {p b:Str} {f m:Int},(match (bx v p).2 with | true=>gs v b f m | false=>none)=some x->0<=x/\x<2 ^ m.toNat:=fun {p b f m} h=>by
  clear h5 h4 h3 h2 h1;split at h
  · exact yK h
  · contradiction
 have fam:=yo v.kind
 rcases List.mem_append.mp hr with hr | hr
 · unfold rdV at h
   rw [po hr] at h
   exact pay h
 clear pay
 unfold yU at hr
 simp only [List.mem_cons,List.not_mem_nil,or_false] at hr
 rcases hr with rfl | rfl | rfl | rfl | rfl
 · have h:some v.mark=some x:=h
   clear h5 h4 h3;cases h
   exact ⟨h1,h2⟩
 · have h:some (v.data.size:Int)=some x:=h
   clear h5 h4 h3 h2 h1;cases h
   exact ⟨by omega,Int.lt_of_le_of_lt (show (v.data.size:Int)<=64 by omega) (by decide)⟩
 · have h:some (ch v.kind)=some x:=h
   clear h5 h4 h3 h2 h1;cases h
   exact fam
 · have h:(match decide (v.l4<0) with | true=>none | false=>some v.l4)=some x:=h
   clear h5 h4 h2 h1;split at h
   · contradiction
   · rename_i hl
     have hl:=of_decide_eq_false hl
     cases h
     exact ⟨by omega,Int.lt_of_lt_of_le h3 (by decide)⟩
 · have h:some v.kind=some x:=h
   clear h3 h2 h1;cases h
   exact ⟨h4,Int.lt_of_lt_of_le h5 (by decide)⟩
structure WS (v:EV) (r:Row) (j:Nat) (e:D) (n bits:Int):Prop where
 shape:∃ t x,e=.tu (.ss t::x)/\decide (t="concat")=false/\PyData.strOk t=true/\x.length<=10
 und:av FLD (j+1) e=cL FLD r.name
 ev:evE v (j+1) e=some ((rdV v r).map fun _=>n,rdN v r)
 lo:0<=n
 hi:n<2 ^ (8*szR r).toNat
 bit:∀ k,j+1<=k->k<=5->fJ FLD k e=bits
 pr:∀ k,j<=k->c9 FLD (ax FLD k) e=some (eC r)
structure bX (v:EV) (c:CP):Prop where
 shape:∃ t x,c.e=.tu (.ss t::x)/\decide (t="concat")=false/\PyData.strOk t=true/\x.length<=10
 ev:evE v 3 c.e=some (c.val,c.notes)
 nl:c.notes.length<=3
 ok:okU (av FLD 5 c.e)=true
 ty:tyU (av FLD 5 c.e)=c.ty
 ord:si (av FLD 5 c.e)=c.ord
 size:aP (av FLD 5 c.e)=c.size
 s1:1<=c.size
 s2:c.size<=16
 bit:fJ FLD 5 c.e=c.bits
 pr:∀ k,2<=k->c9 FLD (ax FLD k) c.e=some (match decide (c.proto="") with | true=>[] | false=>[c.proto])
 sp:PyData.strOk c.proto=true
 st:PyData.strOk c.ty=true
 so:PyData.strOk c.ord=true
 cl:PyData.canLayAll0 (pyL c.notes)=true
 dp:PyData.depthAll (pyL c.notes)<=8
theorem B6 {v:EV} {k:Nat} {t:Str} {a:D} {b:Int} (ht:eN t=true):evE v (k+1) (.tu [.ss t,a,.ii b])=wkG (evE v k a) t b (av FLD 5 (.tu [.ss t,a,.ii b])):=by
 show evG _ _ _=_
 rw [evG,o9 ht];rfl
theorem B7 {v:EV}:∀ {k:Nat} {e:D} {z:Option Int×List D},evE v k e=some z->evE v (k+1) e=some z:=by
 intro k
 induction k with
 | zero=>exact fun h=>nS h
 | succ k ih=>
  intro e z h
  replace h:evG v (evE v k) e=some z:=h
  show evG v (evE v (k+1)) e=some z
  unfold evG at h ⊢
  cases hv:vwD e with
  | wt t a b=>
   rw [hv] at h
   obtain ⟨b',eb,h⟩:=aD h
   obtain ⟨p,ha,h⟩:=aD h
   show (iiD b).bind _=_
   rw [eb]
   show (evE v (k+1) a).bind _=_
   rw [ih ha];exact h
  | fld nm=>rw [hv] at h;exact h
  | _=>rw [hv] at h;exact nS h
theorem B8 {v:EV} {k:Nat} {e:D} {z:Option Int×List D} (h:evE v k e=some z):∀ i,evE v (k+i) e=some z:=by
 intro i
 induction i with
 | zero=>exact h
 | succ i ih=>exact B7 ih
theorem WS.zero {v:EV} (hv:cV v=true) {r:Row} (hr:r∈dX) {n:Int} (hn:n=(rdV v r).getD 0):WS v r 0 (fe r.name) n r.many:=by
 have R:=nB hr
 have hlt:0<=n/\n<2 ^ (8*szR r).toNat:=by
  cases h:rdV v r with
  | none=>rw [h] at hn;subst hn;exact ⟨Int.le_refl _,Int.pow_pos (by decide)⟩
  | some x=>
   rw [h] at hn
   have hn:n=x:=hn
   subst hn
   obtain ⟨h1,h2⟩:=AZ hv hr h
   refine ⟨h1,Int.lt_of_lt_of_le h2 ?_⟩
   have hm:=R.m2
   have:r.many.toNat<=(8*szR r).toNat:=by omega
   rw [p2,p2]
   exact_mod_cast Nat.pow_le_pow_right (by decide) this
 refine ⟨⟨_,_,rfl,by decide,by kernel_rfl,by simp⟩,rfl,?_,hlt.1,hlt.2,fun k h1 h2=>?_,fun k h=>?_⟩
 · show evE v 1 (.tu [.ss "field",.ss r.name])=_
   have:evE v 1 (.tu [.ss "field",.ss r.name])=(jB r.name).map fun r=>(rdV v r,rdN v r):=rfl
   rw [this,R.row]
   cases h:rdV v r with
   | none=>simp [h]
   | some x=>rw [h] at hn;simp [h,hn]
 · obtain ⟨k,rfl⟩:∃ k',k=k'+1:=⟨k - 1,by omega⟩
   show rq (av FLD 5 (fe r.name))=_
   exact R.bits
 · exact R.pay
theorem jj {u:Und} (h:okU u=true):okH u=true:=by cases u <;> first | rfl | contradiction
theorem ve {u:Und} (h:okU u=true):u≠.bad:=by intro e;subst e;contradiction
theorem WS.step {v:EV} {r:Row} (hr:r∈dX) {j:Nat} (hj:j<=2) {e:D} {n bits:Int} (h:WS v r j e n bits) {t:Str} (ht:eN t=true) {b n' bits':Int}
  (hb:nU t=true->0<=b/\b<=300) (hw:wkV t n b (szR r)=n') (h0:0<=n') (h1:n'<2 ^ (8*szR r).toNat) (hbits:bits'=(match mM t with | true=>bits | false=>8*szR r)):
  WS v r (j+1) (.tu [.ss t,e,.ii b]) n' bits':=by
 have R:=nB hr
 have s1:=R.s1
 have s2:=R.s2
 have hu:av FLD (j+1+1) (.tu [.ss t,e,.ii b])=cL FLD r.name:=by
  rw [<- h.und];exact qy ht
 have hu5:av FLD 5 (.tu [.ss t,e,.ii b])=cL FLD r.name:=by
  have nb:av FLD (j+1+1) (.tu [.ss t,e,.ii b])≠.bad:=by rw [hu];exact ve R.ok
  have:=ji nb (5 - (j+1+1))
  rw [Nat.add_sub_of_le (Nat.le_trans (Nat.succ_le_succ (Nat.succ_le_succ hj)) (by decide)),hu] at this
  exact this
 have tne:decide (t="concat")=false/\PyData.strOk t=true:=by
  clear hu5 hu hbits hw hb;rcases dD ht with rfl | rfl | rfl | rfl | rfl <;> exact ⟨by decide,by kernel_rfl⟩
 have hi400:n<2 ^ 400:=by
  refine Int.lt_of_lt_of_le h.hi ?_
  rw [p2,p2]
  exact_mod_cast Nat.pow_le_pow_right (by decide) (show (8*szR r).toNat<=400 by omega)
 refine ⟨⟨_,_,rfl,tne.1,tne.2,by simp⟩,hu,?_,h0,h1,fun k h3 h4=>?_,fun k hk=>?_⟩
 · have hok:nu t b ((rdV v r).map fun _=>n) (cL FLD r.name)=true:=by
    unfold nu
    rw [R.size]
    refine ah ?_ (ah ?_ (ah (jj R.ok) (ah (an (by omega)) (an (by omega)))))
    · cases hs:nU t with
      | true=>have:=hb hs;exact ah (an this.1) (an this.2)
      | false=>rfl
    · cases rdV v r with
      | none=>rfl
      | some x=>exact ah (an h.lo) (bQ hi400)
   rw [B6 ht,h.ev,hu5]
   show cond (nu t b ((rdV v r).map fun _=>n) (cL FLD r.name)) _ _=_
   rw [hok,R.size]
   cases rdV v r with
   | none=>rfl
   | some x=>rw [<- hw];rfl
 · obtain ⟨k,rfl⟩:∃ k',k=k'+1:=⟨k - 1,by omega⟩
   rw [kq ht,hu5,R.size,hbits]
   cases mM t with
   | true=>exact h.bit k (by omega) (by omega)
   | false=>rfl
 · obtain ⟨k,rfl⟩:∃ k',k=k'+1:=⟨k - 1,by omega⟩
   rw [uW ht]
   clear hu5 hu;obtain ⟨t',x,rfl,hc,hs,hx⟩:=h.shape
   have hpo:=fm hc hs hx
   have hpl:=gm (x:=x) hc
   unfold ax
   rw [hpo,hpl]
   show cT _ [_] []=_
   unfold cT
   rw [h.pr k (by omega)]
   have hoks:okS [] (eC r)=true:=by
    unfold okS eC
    split
    · decide
    · simp [R.sp]
   simp only [hoks]
   unfold cT bR eC
   split
   · rfl
   · rfl
theorem mh {v:EV} {r:Row} (c:List D->Bool) (h1:c [.ss r.bse]=true) (h2:lh.all (fun l=>c ([.tu [.ss r.proto,.ss r.bse,.ii r.first]]++l))=true):c (rdN v r)=true:=by
 unfold rdN
 cases decide (r.proto="") with
 | true=>exact h1
 | false=>exact hV _ h2
theorem WS.comp {v:EV} (hv:cV v=true) {r:Row} (hr:r∈dX) {j:Nat} (hj:j<=2) {e:D} {n bits:Int} (h:WS v r j e n bits):
  bX v ⟨e,(rdV v r).map fun _=>n,rdN v r,r.ty,bits,r.proto,ml r,szR r⟩:=by
 have R:=nB hr
 have hu5:av FLD 5 e=cL FLD r.name:=by
  have nb:av FLD (j+1) e≠.bad:=by rw [h.und];exact ve R.ok
  have:=ji nb (5 - (j+1))
  rw [Nat.add_sub_of_le (Nat.le_trans (Nat.succ_le_succ hj) (by decide)),h.und] at this
  exact this
 have hev:evE v 3 e=some ((rdV v r).map fun _=>n,rdN v r):=by
  have:=B8 h.ev (2 - j)
  rw [Nat.add_right_comm,Nat.add_sub_of_le hj] at this
  exact this
 have hdp:PyData.depthAll (pyL (rdN v r))<=8:=by
  exact Nat.le_of_ble_eq_true (mh (fun l=>Nat.ble (PyData.depthAll (pyL l)) 8) (by kernel_rfl) (by kernel_rfl))
 have hnl:(rdN v r).length<=3/\PyData.canLayAll0 (pyL (rdN v r))=true:=by
  refine ⟨Nat.le_of_ble_eq_true (mh (fun l=>Nat.ble l.length 3) (by kernel_rfl) (by kernel_rfl)),mh (fun l=>PyData.canLayAll0 (pyL l)) ?_ ?_⟩
  · show (PyData.strOk r.bse&&true)=true;rw [R.sb];rfl
  · refine List.all_eq_true.mpr fun l hl=>?_
    show (PyData.strOk r.proto&&(PyData.strOk r.bse&&(true&&true))&&PyData.canLayAll0 (pyL l))=true
    rw [R.sp,R.sb,List.all_eq_true.mp (show (lh.all fun l=>PyData.canLayAll0 (pyL l))=true by kernel_rfl) l hl];rfl
 refine ⟨h.shape,hev,hnl.1,by rw [hu5];exact R.ok,by rw [hu5];exact R.ty,by rw [hu5];exact R.ord,by rw [hu5];exact R.size,R.s1,R.s2,h.bit 5 (by omega) (by decide),fun k hk=>?_,R.sp,R.st,?_,hnl.2,hdp⟩
 · rw [h.pr k (by omega)];rfl
 · show PyData.strOk (ml r)=true
   unfold ml
   split <;> kernel_rfl
end Mine
namespace Mine
open PySem PySem.W PyProof.Rows PySem.SeqAt
variable (P:Params)
noncomputable def zF:Nat->List Str:=gq [(341,["turn","way"]),(337,["way"])]
noncomputable def FM (P:Params):List (Addr×au):=[(355,inl S0 30 P 355 uv false),(348,tR),(402,y8),(409,y7)]
noncomputable def oY (P:Params):Tab:=aZ (FM P) fzH zF
@[irreducible] noncomputable def fL (P:Params):=(evN (oY P) 30).ex (ac P 416)
noncomputable abbrev yR (P:Params):=vU (ai (ae P 416) 5)
noncomputable abbrev fN (P:Params):=n6 (ai (ae P 416) 5)
@[irreducible] noncomputable def oW (P:Params):=(evN (oY P) 29).ex (ac P 416)
noncomputable def aR (sc:List D) (i seed:Int):aa:=.oc (.li [.li sc,.ii i,.ii seed])
noncomputable def oZ:D:=.tu (dX.map bH)
noncomputable def c0 (told:List (Str×D)):Mine.Loc:=[("told",.d (.di told)),("pen",.ref 0)]
noncomputable def c1 (told:List (Str×D)):Mine.Loc:=[("told",.d (.di told)),("pen",.ref 0),("rows",.d oZ)]
noncomputable def c2 (told:List (Str×D)) (row:D):Mine.Loc:=[("told",.d (.di told)),("pen",.ref 0),("rows",.d oZ),("row",.d row)]
noncomputable def c3 (told:List (Str×D)) (row n v:D):Mine.Loc:=[("told",.d (.di told)),("pen",.ref 0),("rows",.d oZ),("row",.d row),("notes",.d n),("value",.d v)]
noncomputable def c4 (told:List (Str×D)) (row n v:D) (bits sz:Int):Mine.Loc:=[("told",.d (.di told)),("pen",.ref 0),("rows",.d oZ),("row",.d row),("notes",.d n),("value",.d v),("bits",.d (.ii bits)),("size",.d (.ii sz))]
noncomputable def c5 (told:List (Str×D)) (row n v:D) (bits sz m:Int) (e:D) (r:Mine.Loc):Mine.Loc:=("told",.d (.di told))::("pen",.ref 0)::("rows",.d oZ)::("row",.d row)::("notes",.d n)::("value",.d v)::("bits",.d (.ii bits))::("size",.d (.ii sz))::("n",.d (.ii m))::("e",.d e)::r
noncomputable abbrev tn (x:V):Str×V:=("turn",x)
noncomputable abbrev wy (x:V):Str×V:=("way",x)
theorem AT (told:List (Str×D)) (Z:List aa) (K:QF) (E:QE):fL P (ai (ae P 416) 0) (c0 told) Z K E=K .nx (c1 told) Z:=by kernel_rfl
theorem AS (told:List (Str×D)) (sc:List D) (i seed:Int) (K:QF) (E:QE):fL P (ai (ae P 416) 1) (c1 told) [aR sc i seed] K E=
 grd (b6 sc i seed 23) (grd (leB 0 (aF sc i seed 23)&&ltB (aF sc i seed 23) 23&&ltB (aF sc i seed 23) 1048576) (K .nx (c2 told ((dX.map bH).getD (aF sc i seed 23).toNat .nn)) [aR sc (i+1) seed])):=by kernel_rfl
theorem AR (told:List (Str×D)) (row:D) (Z:List aa) (K:QF) (E:QE):fL P (ai (ae P 416) 2) (c2 told row) Z K E=
 ∃ v r,told=aL v/\evB v=true/\r∈dX/\row=bH r/\K .nx (c3 told row (.li (rdN v r)) (oD (rdV v r))) Z:=by kernel_rfl
theorem AQ (told:List (Str×D)) (r:Row) (n v:D) (Z:List aa) (K:QF) (E:QE):fL P (ai (ae P 416) 3) (c3 told (bH r) n v) Z K E=K .nx (c4 told (bH r) n v r.many (szR r)) Z:=by kernel_rfl
theorem xH (told:List (Str×D)) (r:Row) (n:D) (bits sz:Int) (Z:List aa) (K:QF) (E:QE):fL P (ai (ae P 416) 4) (c4 told (bH r) n .nn bits sz) Z K E=K .nx (c5 told (bH r) n .nn bits sz 0 (fe r.name) []) Z:=by kernel_rfl
theorem xG (told:List (Str×D)) (r:Row) (n:D) (x bits sz:Int) (Z:List aa) (K:QF) (E:QE):fL P (ai (ae P 416) 4) (c4 told (bH r) n (.ii x) bits sz) Z K E=K .nx (c5 told (bH r) n (.ii x) bits sz x (fe r.name) []) Z:=by kernel_rfl
theorem AP (told:List (Str×D)) (row n v e:D) (bits sz m:Int) (sc:List D) (i seed:Int) (K:QF) (E:QE):fL P (ai (ae P 416) 5) (c5 told row n v bits sz m e []) [aR sc i seed] K E=
 grd (b6 sc i seed 3) (grd (leB (aF sc i seed 3) 1048576) (match bS (.rng 0 (aF sc i seed 3)) with
  | some items=>bq (e7 (evN (oY P) 29) (ac P 416) (yR P) (fN P)) items (c5 told row n v bits sz m e []) [aR sc (i+1) seed] K
  | none=>False)):=by kernel_rfl
theorem Dw (told:List (Str×D)) (sc:List D) (i seed:Int) (Q:QV) (E:QE):vcf (oY P) 30 P 416 qI false [.ref 0,.d (.di told)] [aR sc i seed] Q E=bm (fL P) (ae P 416) (c0 told) [aR sc i seed] (a9 false 1 Q) (bE 1 E):=by kernel_rfl
theorem Er (told:List (Str×D)) (row n v e:D) (bits sz m:Int) (x:V) (Z:List aa) (K:QF):e7 (evN (oY P) 29) (ac P 416) (yR P) (fN P) x (c5 told row n v bits sz m e []) Z K=bm (oW P) (fN P) (c5 told row n v bits sz m e [tn x]) Z K (fun _ _=>False):=by kernel_rfl
theorem Ep (told:List (Str×D)) (row n v e:D) (bits sz m:Int) (x y z:V) (Z:List aa) (K:QF):e7 (evN (oY P) 29) (ac P 416) (yR P) (fN P) x (c5 told row n v bits sz m e [tn y,wy z]) Z K=bm (oW P) (fN P) (c5 told row n v bits sz m e [tn x,wy z]) Z K (fun _ _=>False):=by kernel_rfl
theorem FE:fN P=[ai (fN P) 0,ai (fN P) 1,ai (fN P) 2]:=by kernel_rfl
theorem xe (told:List (Str×D)) (row n v e:D) (bits sz m:Int) (x:V) (sc:List D) (i seed:Int) (K:QF) (E:QE):oW P (ai (fN P) 0) (c5 told row n v bits sz m e [tn x]) [aR sc i seed] K E=
 grd (b6 sc i seed 5) (K .nx (c5 told row n v bits sz m e [tn x,wy (.d (.ii (aF sc i seed 5)))]) [aR sc (i+1) seed]):=by kernel_rfl
theorem xd (told:List (Str×D)) (row n v e:D) (bits sz m:Int) (x z:V) (sc:List D) (i seed:Int) (K:QF) (E:QE):oW P (ai (fN P) 0) (c5 told row n v bits sz m e [tn x,wy z]) [aR sc i seed] K E=
 grd (b6 sc i seed 5) (K .nx (c5 told row n v bits sz m e [tn x,wy (.d (.ii (aF sc i seed 5)))]) [aR sc (i+1) seed]):=by kernel_rfl
theorem zN (told:List (Str×D)) (row n v e:D) (bits sz m:Int) (x:V) (way:Int) (sc:List D) (i seed:Int) (K:QF) (E:QE):oW P (ai (fN P) 1) (c5 told row n v bits sz m e [tn x,wy (.d (.ii way))]) [aR sc i seed] K E=
(grd (okB 4096 8&&okB 4096 sz)
(grd (b6 sc i seed (8*sz+2))
 (grd (leB 0 (aF sc i seed (8*sz+2))&&
  (leB (aF sc i seed (8*sz+2)) 200&&(leB 0 sz&&(leB sz 20&&(leB 0 m&&ltB m (2 ^ 400))))))
  (cnd (decide (way=0)) (K Fl.nx (c5 told row n v bits sz (Int.fdiv m (2 ^ Int.toNat (aF sc i seed (8*sz+2)))) (D.tu [D.ss "shr",e,D.ii (aF sc i seed (8*sz+2))]) [tn x,wy (.d (.ii way))]) [aR sc (i+1) seed])
  (cnd (decide (way=1)) (K Fl.nx (c5 told row n v bits sz (Int.fmod (Int.fdiv m (2 ^ Int.toNat (aF sc i seed (8*sz+2)))) 32*2 ^ Int.toNat (aF sc i seed (8*sz+2))) (D.tu [D.ss "mask",e,D.ii (31*2 ^ Int.toNat (aF sc i seed (8*sz+2)))]) [tn x,wy (.d (.ii way))]) [aR sc (i+1) seed])
  (cnd (decide (way=2)) (K Fl.nx (c5 told row n v bits sz (Int.fmod (m*2 ^ Int.toNat (aF sc i seed (8*sz+2))) (2 ^ Int.toNat (8*sz))) (D.tu [D.ss "shl",e,D.ii (aF sc i seed (8*sz+2))]) [tn x,wy (.d (.ii way))]) [aR sc (i+1) seed])
  (cnd (decide (way=3)) (K Fl.nx (c5 told row n v bits sz (Int.fmod (Int.fdiv m (2 ^ Int.toNat (aF sc i seed (8*sz+2)))*2 ^ Int.toNat (aF sc i seed (8*sz+2))+2 ^ Int.toNat (aF sc i seed (8*sz+2)) - 1) (2 ^ Int.toNat (8*sz))) (D.tu [D.ss "or",e,D.ii (2 ^ Int.toNat (aF sc i seed (8*sz+2)) - 1)]) [tn x,wy (.d (.ii way))]) [aR sc (i+1) seed])
  (K Fl.nx (c5 told row n v bits sz (2 ^ Int.toNat (8*sz) - 1 - m) (D.tu [D.ss "xor",e,D.ii (2 ^ Int.toNat (8*sz) - 1)]) [tn x,wy (.d (.ii way))]) [aR sc (i+1) seed])))))))):=by kernel_rfl
theorem zM (told:List (Str×D)) (row n v e:D) (bits sz m:Int) (x:V) (way:Int) (Z:List aa) (K:QF) (E:QE):oW P (ai (fN P) 2) (c5 told row n v bits sz m e [tn x,wy (.d (.ii way))]) Z K E=
 cnd (decide (1<way)) (grd (okB 4096 8&&okB 4096 sz) (K .nx (c5 told row n v (8*sz) sz m e [tn x,wy (.d (.ii way))]) Z)) (K .nx (c5 told row n v bits sz m e [tn x,wy (.d (.ii way))]) Z):=by kernel_rfl
theorem xF (told:List (Str×D)) (r:Row) (n v e:D) (bits sz m:Int) (x z:V) (Z:List aa) (K:QF) (E:QE):fL P (ai (ae P 416) 6) (c5 told (bH r) n v bits sz m e []) Z K E=
 grd (PyData.strOk r.bse&&true) (cnd ((pyL [D.ss "mark",D.ss "length"]).any fun y=>PyData.eqv y (.str r.bse)) (K .nx (c5 told (bH r) n v bits sz m e [("order",.d (.ss "host"))]) Z) (K .nx (c5 told (bH r) n v bits sz m e [("order",.d (.ss "big"))]) Z)):=by kernel_rfl
theorem xE (told:List (Str×D)) (r:Row) (n v e:D) (bits sz m:Int) (x z:V) (Z:List aa) (K:QF) (E:QE):fL P (ai (ae P 416) 6) (c5 told (bH r) n v bits sz m e [tn x,wy z]) Z K E=
 grd (PyData.strOk r.bse&&true) (cnd ((pyL [D.ss "mark",D.ss "length"]).any fun y=>PyData.eqv y (.str r.bse)) (K .nx (c5 told (bH r) n v bits sz m e [("order",.d (.ss "host"))]) Z) (K .nx (c5 told (bH r) n v bits sz m e [("order",.d (.ss "big"))]) Z)):=by kernel_rfl
theorem xD (told:List (Str×D)) (r:Row) (n:List D) (e:D) (bits sz m:Int) (o:Str) (c:aa) (Q:QV) (E:QE):bm (fL P) [ai (ae P 416) 7] (c5 told (bH r) (.li n) .nn bits sz m e [("order",.d (.ss o))]) [c] (a9 false 1 Q) (bE 1 E)=
 Q (.d (.tu [e,.nn,.li n,.tu [.ss r.ty,.ii bits],.ss r.proto,.ss o,.ii sz])) [c]:=by kernel_rfl
theorem xC (told:List (Str×D)) (r:Row) (n:List D) (e:D) (x bits sz m:Int) (o:Str) (c:aa) (Q:QV) (E:QE):bm (fL P) [ai (ae P 416) 7] (c5 told (bH r) (.li n) (.ii x) bits sz m e [("order",.d (.ss o))]) [c] (a9 false 1 Q) (bE 1 E)=
 Q (.d (.tu [e,.ii m,.li n,.tu [.ss r.ty,.ii bits],.ss r.proto,.ss o,.ii sz])) [c]:=by kernel_rfl
theorem FD:ae P 416=[ai (ae P 416) 0,ai (ae P 416) 1,ai (ae P 416) 2,ai (ae P 416) 3,ai (ae P 416) 4,ai (ae P 416) 5,ai (ae P 416) 6,ai (ae P 416) 7]:=by kernel_rfl
noncomputable def tO  : au:=mkS (pC (pR 0) (pC (pD pF) pN)) (pC (pOC (pOL (pC (pL pA) (pC pI (pC pI pN))))) pN) fun (_,told,_) ((sc,i,seed,_),_) Q E=>∃ v,told=aL v/\cV v=true/\b6 sc i seed 1=true/\i<=900000/\∀ c i',bX v c->i<=i'->i'<=i+10->Q (.d (cpD c)) [aR sc i' seed]
theorem aT {sc:List D} {i seed m:Int} (h:b6 sc i seed m=true) {i' m':Int} (h1:i<=i') (h2:i'<=1000000) (h3:0<m'):b6 sc i' seed m'=true:=by
 unfold b6 at h ⊢
 simp only [Bool.and_eq_true] at h
 obtain ⟨a1,a2,a3,a4,a5,a6,a7⟩:=h
 have a3:=ak.mp a3
 exact ah a1 (ah a2 (ah (an (by omega)) (ah (an h2) (ah a5 (ah a6 (bQ h3))))))
theorem bK {sc:List D} {i seed m:Int} (h:0<m):0<=aF sc i seed m/\aF sc i seed m<m:=by
 unfold aF
 split
 · exact ⟨Int.fmod_nonneg_of_pos _ h,Int.fmod_lt_of_pos _ h⟩
 · exact ⟨Int.fmod_nonneg_of_pos _ h,Int.fmod_lt_of_pos _ h⟩
theorem ug {k:Nat} (h:k<23):∃ r∈dX,(dX.map bH).getD k .nn=bH r:=by
 have hl:k<dX.length:=by
  have:dX.length=23:=rfl
  omega
 refine ⟨dX[k],List.getElem_mem hl,?_⟩
 rw [List.getD_eq_getElem?_getD,List.getElem?_map,List.getElem?_eq_getElem hl]
 rfl
theorem WS.worked {v:EV} {r:Row} (hr:r∈dX) {j:Nat} (hj:j<=2) {e:D} {n bits:Int} (h:WS v r j e n bits) {b way:Int} (hb0:0<=b) (hb:b<=200) {P:Int->D->Int->Prop}
  (q:∀ t b' n',eN t=true->(nU t=true->0<=b'/\b'<=300)->wkV t n b' (szR r)=n'->0<=n'->n'<2 ^ (8*szR r).toNat->mM t=!decide (1<way)->P n' (.tu [.ss t,e,.ii b']) 0) (hway:0<=way/\way<5):
  cnd (decide (way=0)) (P (Int.fdiv n (2 ^ b.toNat)) (.tu [.ss "shr",e,.ii b]) 0)
  (cnd (decide (way=1)) (P (Int.fmod (Int.fdiv n (2 ^ b.toNat)) 32*2 ^ b.toNat) (.tu [.ss "mask",e,.ii (31*2 ^ b.toNat)]) 0)
  (cnd (decide (way=2)) (P (Int.fmod (n*2 ^ b.toNat) (2 ^ (8*szR r).toNat)) (.tu [.ss "shl",e,.ii b]) 0)
  (cnd (decide (way=3)) (P (Int.fmod (Int.fdiv n (2 ^ b.toNat)*2 ^ b.toNat+2 ^ b.toNat - 1) (2 ^ (8*szR r).toNat)) (.tu [.ss "or",e,.ii (2 ^ b.toNat - 1)]) 0)
  (P (2 ^ (8*szR r).toNat - 1 - n) (.tu [.ss "xor",e,.ii (2 ^ (8*szR r).toNat - 1)]) 0)))):=by
 obtain ⟨N,hN⟩:=Int.eq_ofNat_of_zero_le h.lo
 subst hN
 have hi:N<2 ^ (8*szR r).toNat:=by
  have:=h.hi
  rw [p2] at this
  exact_mod_cast this
 have nsh:∀ t,nU t=false->(nU t=true->0<=(0:Int)/\(0:Int)<=300):=fun t h h'=>by rw [h] at h';contradiction
 refine aO (fun hw=>?_) fun hw=>aO (fun hw1=>?_) fun hw1=>aO (fun hw2=>?_) fun hw2=>aO (fun hw3=>?_) fun hw3=>?_
 · have hw:=of_decide_eq_true hw
   have:=vP N b.toNat _ hi
   exact q _ _ _ (by decide) (fun _=>⟨hb0,by omega⟩) rfl this.1 this.2 (by rw [decide_eq_false (show ¬ 1<way by omega)];rfl)
 · have hw1:=of_decide_eq_true hw1
   have:=sw N b.toNat _ hi
   exact q _ _ _ (by decide) (fun h=>absurd h (by decide)) (vQ N b.toNat) this.1 this.2 (by rw [decide_eq_false (show ¬ 1<way by omega)];rfl)
 · have hw2:=of_decide_eq_true hw2
   have:=jY ((N:Int)*2 ^ b.toNat) (8*szR r).toNat
   exact q _ _ _ (by decide) (fun _=>⟨hb0,by omega⟩) (ET N b.toNat _) this.1 this.2 (by rw [decide_eq_true (show 1<way by omega)];rfl)
 · have hw3:=of_decide_eq_true hw3
   have:=jY (Int.fdiv (N:Int) (2 ^ b.toNat)*2 ^ b.toNat+2 ^ b.toNat - 1) (8*szR r).toNat
   exact q _ _ _ (by decide) (fun h=>absurd h (by decide)) (Hv N b.toNat _) this.1 this.2 (by rw [decide_eq_true (show 1<way by omega)];rfl)
 · have g:=of_decide_eq_false hw
   have g1:=of_decide_eq_false hw1
   have hlt:(N:Int)<2 ^ (8*szR r).toNat:=h.hi
   exact q _ _ _ (by decide) (fun h=>absurd h (by decide)) (ES N _ hi) (by omega) (by omega) (by rw [decide_eq_true (show 1<way by omega)];rfl)
end Mine
namespace Mine
open PySem PySem.W PyProof.Rows PySem.SeqAt
theorem bW {ex:Stmt->Mine.Loc->List aa->QF->QE->Prop} {s:Stmt} {r:List Stmt} {U:Mine.Loc} {Z:List aa} {K:QF} {E:QE} {R:Prop} (h:ex s U Z (aft ex r K E) E=R) (q:R):bm ex (s::r) U Z K E:=by
 rw [bY,h];exact q
theorem bd {ex:Stmt->Mine.Loc->List aa->QF->QE->Prop} {s:Stmt} {r:List Stmt} {U:Mine.Loc} {Z:List aa} {K:QF} {E:QE} {R:Prop} (h:ex s U Z (aft ex r K E) E=R) (q:R):aft ex (s::r) K E .nx U Z:=bW h q
theorem nh {ex:Stmt->Mine.Loc->List aa->QF->QE->Prop} {r:List Stmt} {U:Mine.Loc} {Z:List aa} {K:QF} {E:QE} (q:bm ex r U Z K E):aft ex r K E .nx U Z:=q
theorem hW {ex:Stmt->Mine.Loc->List aa->QF->QE->Prop} {U:Mine.Loc} {Z:List aa} {K:QF} {E:QE} (q:K .nx U Z):aft ex [] K E .nx U Z:=q
noncomputable def yV (v:EV) (told:List (Str×D)) (r:Row) (n w:D) (sc:List D) (seed i1:Int) (j:Nat) (U:Mine.Loc) (Z:List aa):Prop:=
 ∃ e m bits i' R,WS v r j e m bits/\i1<=i'/\i'<=i1+2*(j:Int)/\Z=[aR sc i' seed]/\U=c5 told (bH r) n w bits (szR r) m e R/\(R=[]\/∃ y z,R=[tn y,wy z])
theorem xA (P:Params) {v:EV} {told:List (Str×D)} {r:Row} (hr:r∈dX) {n w:D} {sc:List D} {seed i1:Int} (hi1:i1<=900010) (hd:b6 sc i1 seed 1=true) {j:Nat} (hj:j<=1) {x:V} {U:Mine.Loc} {Z:List aa} {K:QF}
  (hI:yV v told r n w sc seed i1 j U Z) (hK:∀ U' Z',yV v told r n w sc seed i1 (j+1) U' Z'->K .nx U' Z'):e7 (evN (oY P) 29) (ac P 416) (yR P) (fN P) x U Z K:=by
 obtain ⟨e,m,bits,i',R,h,hi0,zz⟩:=hI;obtain ⟨hi2,rfl,rfl,hR⟩:=zz
 have RP:=nB hr
 have s1:=RP.s1
 have s2:=RP.s2
 have m400:m<2 ^ 400:=by
  refine Int.lt_of_lt_of_le h.hi ?_
  rw [p2,p2]
  exact_mod_cast Nat.pow_le_pow_right (by decide) (show (8*szR r).toNat<=400 by omega)
 have d5:=bK (sc:=sc) (i:=i') (seed:=seed) (m:=5) (by decide)
 have d8:=bK (sc:=sc) (i:=i'+1) (seed:=seed) (m:=8*szR r+2) (by omega)
 have tail:∀ (E:QE),aft (oW P) [ai (fN P) 1,ai (fN P) 2] K E .nx (c5 told (bH r) n w bits (szR r) m e [tn x,wy (.d (.ii (aF sc i' seed 5)))]) [aR sc (i'+1) seed]:=fun E=>by
  refine bd (zN P told (bH r) n w e bits (szR r) m x _ sc _ seed _ _) ?_
  refine ad (ah (by decide) (bP 10 (by omega) (by decide))) (ad (aT hd (by omega) (by omega) (by omega)) (ad (ah (an d8.1) (ah (an (by omega)) (ah (an (by omega)) (ah (an (by omega)) (ah (an h.lo) (bQ m400)))))) ?_))
  refine WS.worked hr (by omega) h d8.1 (by omega) (P:=fun n' e' _=>aft (oW P) [ai (fN P) 2] K E Fl.nx (c5 told (bH r) n w bits (szR r) n' e' [tn x,wy (.d (.ii (aF sc i' seed 5)))]) [aR sc (i'+1+1) seed]) (fun t b' n' ht hb' hw h0 h1 hms=>?_) d5
  refine bd (zM P told (bH r) n w _ bits (szR r) n' x _ _ _ _) ?_
  have fin:∀ bits',bits'=(match mM t with | true=>bits | false=>8*szR r)->K .nx (c5 told (bH r) n w bits' (szR r) n' (.tu [.ss t,e,.ii b']) [tn x,wy (.d (.ii (aF sc i' seed 5)))]) [aR sc (i'+1+1) seed]:=fun bits' hb=>
   hK _ _ ⟨_,n',bits',i'+1+1,_,WS.step hr (by omega) h ht hb' hw h0 h1 hb,by omega,by omega,rfl,rfl,.inr ⟨_,_,rfl⟩⟩
  refine aO (fun hw1=>ad (ah (by decide) (bP 10 (by omega) (by decide))) (hW ?_)) fun hw1=>hW ?_
  · exact fin _ (by rw [hms,hw1];rfl)
  · exact fin _ (by rw [hms,hw1];rfl)
 have hdd:b6 sc i' seed 5=true:=aT hd hi0 (by omega) (by decide)
 rcases hR with rfl | ⟨y,z,rfl⟩
 · rw [Er,FE]
   refine bW (xe P told (bH r) n w e bits (szR r) m x sc _ seed _ _) ?_
   exact ad hdd (tail _)
 · rw [Ep,FE]
   refine bW (xd P told (bH r) n w e bits (szR r) m x z sc _ seed _ _) ?_
   exact ad hdd (tail _)
theorem u9 (r:Row):((pyL [D.ss "mark",D.ss "length"]).any fun y=>PyData.eqv y (.str r.bse))=(decide (r.bse="mark")||decide (r.bse="length")):=by
 show (PyData.eqv (D.py (.ss "mark")) (D.py (.ss r.bse))||(PyData.eqv (D.py (.ss "length")) (D.py (.ss r.bse))||false))=_
 rw [iD,iD,Bool.or_false]
 congr 1 <;> (congr 1;exact propext eq_comm)
theorem BU (P:Params) {v:EV} (hv:cV v=true) {told:List (Str×D)} {r:Row} (hr:r∈dX) {sc:List D} {seed i1:Int} {j:Nat} (hj:j<=2) {U:Mine.Loc} {Z:List aa} {Q:QV} {E:QE}
  (hI:yV v told r (.li (rdN v r)) (oD (rdV v r)) sc seed i1 j U Z) (hQ:∀ c i',bX v c->i1<=i'->i'<=i1+4->Q (.d (cpD c)) [aR sc i' seed]):
  bm (fL P) [ai (ae P 416) 6,ai (ae P 416) 7] U Z (a9 false 1 Q) (bE 1 E):=by
 obtain ⟨e,m,bits,i',R,h,hi0,zz⟩:=hI;obtain ⟨hi2,rfl,rfl,hR⟩:=zz
 have RP:=nB hr
 have hc:=WS.comp hv hr hj h
 have fin:∀ o,o=ml r->bm (fL P) [ai (ae P 416) 7] (c5 told (bH r) (.li (rdN v r)) (oD (rdV v r)) bits (szR r) m e [("order",.d (.ss o))]) [aR sc i' seed] (a9 false 1 Q) (bE 1 E):=fun o ho=>by
  subst ho
  have q:=hQ _ i' hc hi0 (by omega)
  cases hval:rdV v r with
  | none=>
   rw [hval] at q
   show bm _ _ (c5 told (bH r) (.li (rdN v r)) .nn bits (szR r) m e _) _ _ _
   rw [xD];exact q
  | some x=>
   rw [hval] at q
   show bm _ _ (c5 told (bH r) (.li (rdN v r)) (.ii x) bits (szR r) m e _) _ _ _
   rw [xC];exact q
 have both:grd (PyData.strOk r.bse&&true) (cnd ((pyL [D.ss "mark",D.ss "length"]).any fun y=>PyData.eqv y (.str r.bse))
   (aft (fL P) [ai (ae P 416) 7] (a9 false 1 Q) (bE 1 E) .nx (c5 told (bH r) (.li (rdN v r)) (oD (rdV v r)) bits (szR r) m e [("order",.d (.ss "host"))]) [aR sc i' seed])
   (aft (fL P) [ai (ae P 416) 7] (a9 false 1 Q) (bE 1 E) .nx (c5 told (bH r) (.li (rdN v r)) (oD (rdV v r)) bits (szR r) m e [("order",.d (.ss "big"))]) [aR sc i' seed])):=by
  refine ad (ah RP.sb rfl) ?_
  rw [u9]
  refine aO (fun hb=>nh (fin _ ?_)) fun hb=>nh (fin _ ?_)
  · unfold ml;rw [hb]
  · unfold ml;rw [hb]
 rcases hR with rfl | ⟨y,z,rfl⟩
 · exact bW (xF P told r (.li (rdN v r)) (oD (rdV v r)) e bits (szR r) m (.d .nn) (.d .nn) _ _ _) both
 · exact bW (xE P told r (.li (rdN v r)) (oD (rdV v r)) e bits (szR r) m y z _ _ _) both
theorem ly (k:Nat) (h:k<=1048576):bS (.rng 0 (k:Int))=some ((List.range k).map fun (i:Nat)=>.d (.ii (0+(i:Int)))):=by
 show (match iQ 0 (k:Int) with | true=>some ((List.range ((k:Int) - 0).toNat).map fun (i:Nat)=>V.d (.ii (0+(i:Int)))) | false=>none)=_
 have:iQ 0 (k:Int)=true:=by unfold iQ;exact ah (ah (ah (by decide) (by decide)) (an (by omega))) (an (by omega))
 rw [this]
 simp
theorem HH {w:World} {base:Heap} (W:Wd w base):aU w base 416 4 tO:=by
 exists w,base,_ W
 have lp:LOk w base 3 (FM w.params):=LOk.cons (aU.mono (n:=0+1) (aS W so0 false (Id w) (I0 _) (Go _) 30) (by decide)) (Hc _) (LOk.cons ((E6 W).mono (by omega)) (EF _) (LOk.cons (HJ W) (GZ _) (LOk.cons ((HI W).mono (by omega)) (GY _) LOk.nil)))
 refine bD W (LOk.so (fz:=fzH) (fg:=zF) lp) false (H6 w) (IT _) (Gi _) 30 fun vs Z Q E q=>?_;exists vs,Z,Q,E,_ q
 replace q:=aB q
 obtain ⟨zz,zy,e1,e2,q⟩:=q;obtain ⟨_,told,_⟩:=zz;obtain ⟨zx,_⟩:=zy;obtain ⟨sc,i,seed,_⟩:=zx
 obtain rfl:=(show vs=[.ref 0,.d (.di told)] from e1);obtain rfl:=(show Z=[.oc (.li [.li sc,.ii i,.ii seed])] from e2)
 dsimp only at q
 clear e1;obtain ⟨v,rfl,hv,hd,hi,q⟩:=q
 refine ⟨rfl,?_⟩
 show vcf (oY w.params) 30 w.params 416 qI false [.ref 0,.d (.di (aL v))] [aR sc i seed] Q E
 rw [Dw]
 have hi0:0<=i:=by
  unfold b6 at hd
  simp only [Bool.and_eq_true] at hd
  exact ak.mp hd.2.2.1
 rw [FD]
 refine bW (AT w.params (aL v) _ _ _) ?_
 refine bd (AS w.params (aL v) sc i seed _ _) ?_
 have d23:=bK (sc:=sc) (i:=i) (seed:=seed) (m:=23) (by decide)
 refine ad (aT hd (by omega) (by omega) (by decide)) (ad (ah (ah (an d23.1) (bQ d23.2)) (bQ (by omega))) ?_)
 obtain ⟨r,hr,e⟩:=ug (k:=(aF sc i seed 23).toNat) (by omega)
 rw [e]
 refine bd (AR w.params (aL v) (bH r) _ _ _) ?_
 refine ⟨v,r,rfl,B5 hv,hr,rfl,?_⟩
 refine bd (AQ w.params (aL v) r _ _ _ _ _) ?_
 have hd1:b6 sc (i+2) seed 1=true:=aT hd (by omega) (by omega) (by decide)
 have d3:=bK (sc:=sc) (i:=i+1) (seed:=seed) (m:=3) (by decide)
 have loop:∀ m,m=(rdV v r).getD 0->aft (fL w.params) [ai (ae w.params 416) 5,ai (ae w.params 416) 6,ai (ae w.params 416) 7] (a9 false 1 Q) (bE 1 E) .nx (c5 (aL v) (bH r) (.li (rdN v r)) (oD (rdV v r)) r.many (szR r) m (fe r.name) []) [aR sc (i+1) seed]:=fun m hm=>by
  refine bd (AP w.params (aL v) (bH r) _ _ (fe r.name) r.many (szR r) m sc (i+1) seed _ _) ?_
  refine ad (aT hd (by omega) (by omega) (by decide)) (ad (an (by omega)) ?_)
  obtain ⟨k,hk⟩:=Int.eq_ofNat_of_zero_le d3.1
  rw [hk,ly k (by omega)]
  have hk3:k<3:=by omega
  refine gZ (yV v (aL v) r (.li (rdN v r)) (oD (rdV v r)) sc seed (i+2)) _ 0 (fun j x U Z K' hx hI hn=>?_) ⟨_,_,_,i+2,[],WS.zero hv hr hm,by omega,by omega,by rw [show i+1+1=i+2 by omega],rfl,.inl rfl⟩ fun U' Z' hI=>?_
  · have hj:j<k:=by
     have:=(List.getElem?_eq_some_iff.mp hx).1
     simpa using this
    rw [Nat.zero_add] at hI hn
    exact xA w.params hr (by omega) hd1 (by omega) hI hn
  · rw [Nat.zero_add,List.length_map,List.length_range] at hI
    refine nh ?_
    exact BU w.params hv hr (by omega) hI fun c i' hc h1 h2=>q c i' hc (by omega) (by omega)
 cases hval:rdV v r with
 | none=>
  rw [hval] at loop
  exact bd (xH w.params (aL v) r _ r.many (szR r) _ _ _) (loop _ rfl)
 | some x=>
  rw [hval] at loop
  exact bd (xG w.params (aL v) r _ x r.many (szR r) _ _ _) (loop _ rfl)
end Mine
namespace Mine
open PySem PySem.W PyProof.Rows PySem.SeqAt
variable (P:Params)
noncomputable def x8:List CP->Option (List Int)×List D
 | []=>(some [],[])
 | c::r=>match c.val with
  | none=>(none,c.notes)
  | some x=>match x8 r with
   | (o,l)=>(o.map (x::·),c.notes++l)
theorem vG {v:EV}:∀ {cs:List CP},(∀ c∈cs,evE v 3 c.e=some (c.val,c.notes))->bc v 3 (cs.map (·.e))=x8 cs
 | [],_=>rfl
 | c::r,h=>by
  have h1:=h c (.head _)
  have h2:=vG (cs:=r) fun x hx=>h x (.tail _ hx)
  show bc v 3 (c.e::r.map (·.e))=_
  unfold bc x8 cC bo
  rw [h1,h2]
  first | done | (cases c.val <;> rfl)
noncomputable def zA:Nat->List Str:=gq [(395,["key","notes"])]
noncomputable def FJ:List (Addr×au):=[(320,tS 3)]
noncomputable def eY:Tab:=aZ FJ zA
noncomputable def iW (v:EV) (e:D) (notes:List D) (Q:QV):Prop:=grd (scV v []&&(aQ e&&(iV v 3 (am e)&&true)))
 (cnd (bc v 3 (am e)).1.isNone
  (grd (PyData.canLayAll0 (pyL (bc v 3 (am e)).2)&&PyData.canLay0 (D.py (.li notes))&&Nat.ble (PyData.depth (D.py (.li notes))) 64)
   (Q (.d (.bb (PyData.eqv (D.py (.li (bc v 3 (am e)).2)) (D.py (.li notes))))) [scC v (bc v 3 (am e)).2]))
  (grd (PyData.canLay0 (D.py (.tu (((bc v 3 (am e)).1.getD []).map .ii)))&&PyData.canLay0 (D.py .nn)&&Nat.ble (PyData.depth (D.py .nn)) 64)
   (Q (.d (.bb (PyData.eqv (D.py (.tu (((bc v 3 (am e)).1.getD []).map .ii))) (D.py .nn)))) [scC v (bc v 3 (am e)).2])))
noncomputable def n8 (v:EV) (e:D) (notes:List D) (kd:D) (Q:QV):Prop:=grd (scV v []&&(aQ e&&(iV v 3 (am e)&&true)))
 (cnd (bc v 3 (am e)).1.isNone
  (Q (.d (.bb (PyData.eqv (D.py .nn) (D.py kd)))) [scC v (bc v 3 (am e)).2])
  (grd (PyData.canLay0 (D.py (.tu (((bc v 3 (am e)).1.getD []).map .ii)))&&PyData.canLay0 (D.py kd)&&Nat.ble (PyData.depth (D.py kd)) 64)
   (cnd (PyData.eqv (D.py (.tu (((bc v 3 (am e)).1.getD []).map .ii))) (D.py kd))
    (grd (PyData.canLayAll0 (pyL (bc v 3 (am e)).2)&&PyData.canLay0 (D.py (.li notes))&&Nat.ble (PyData.depth (D.py (.li notes))) 64)
     (Q (.d (.bb (PyData.eqv (D.py (.li (bc v 3 (am e)).2)) (D.py (.li notes))))) [scC v (bc v 3 (am e)).2]))
    (Q (.d (.bb (PyData.eqv (D.py (.tu (((bc v 3 (am e)).1.getD []).map .ii))) (D.py kd)))) [scC v (bc v 3 (am e)).2]))))
theorem vE:∀ is:List Int,PyData.canLayAll0 (pyL (is.map .ii))=true
 | []=>rfl
 | _::r=>vE r
theorem wj:∀ is:List Int,PyData.depthAll (pyL (is.map .ii))<=8
 | []=>by decide
 | x::r=>by
  show max (PyData.depth (.int x)) (PyData.depthAll (pyL (r.map .ii)))<=8
  have:=wj r
  have h:PyData.depth (.int x)<=8:=by unfold PyData.depth;decide
  omega
theorem qc {l:List D} (h:PyData.depthAll (pyL l)<=8):Nat.ble (PyData.depth (D.py (.li l))) 64=true:=by
 refine ao ?_
 have:PyData.depth (D.py (.li l))=PyData.depthAll (pyL l)+1:=rfl
 omega
theorem qb {l:List D} (h:PyData.depthAll (pyL l)<=8):Nat.ble (PyData.depth (D.py (.tu l))) 64=true:=by
 refine ao ?_
 have:PyData.depth (D.py (.tu l))=PyData.depthAll (pyL l)+1:=rfl
 omega
theorem dM:∀ {l m:List D},PyData.canLayAll0 (pyL l)=true->PyData.canLayAll0 (pyL m)=true->PyData.canLayAll0 (pyL (l++m))=true
 | [],m,_,h=>h
 | d::l,m,h,h'=>by
  have h:(PyData.canLay0 d.py&&PyData.canLayAll0 (pyL l))=true:=h
  rw [Bool.and_eq_true] at h
  show (PyData.canLay0 d.py&&PyData.canLayAll0 (pyL (l++m)))=true
  exact ah h.1 (dM h.2 h')
theorem eV:∀ {l m:List D},PyData.depthAll (pyL l)<=8->PyData.depthAll (pyL m)<=8->PyData.depthAll (pyL (l++m))<=8:=by
 intro l
 induction l with
 | nil=>
  intro m _ h
  exact h
 | cons d l ih=>
  intro m h h'
  have h:=Nat.max_le.mp h
  exact Nat.max_le.mpr ⟨h.1,ih h.2 h'⟩
theorem ef {v:EV} {e:D} {notes:List D} {Q:QV} (hv:evB v=true) (hp:aQ e=true) (hk:iV v 3 (am e)=true) (hkey:bc v 3 (am e)=(none,notes)) (hl:PyData.canLayAll0 (pyL notes)=true) (hd:PyData.depthAll (pyL notes)<=8)
  (q:Q (.d (.bb true)) [scC v notes]):iW v e notes Q:=by
 unfold iW
 rw [hkey]
 refine ad (ah (jz hv (by simp)) (ah hp (ah hk rfl))) (dP rfl (ad (ah (ah hl hl) (qc hd)) ?_))
 rw [PySem.SeqAt.eqv_refl _ (show PyData.canLay0 (D.py (.li notes))=true from hl)]
 exact q
theorem j5 {v:EV} {e:D} {notes:List D} {is:List Int} {kd:D} {Q:QV} (hkd:kd=.tu (is.map .ii)) (hv:evB v=true) (hp:aQ e=true) (hk:iV v 3 (am e)=true) (hkey:bc v 3 (am e)=(some is,notes)) (hl:PyData.canLayAll0 (pyL notes)=true) (hd:PyData.depthAll (pyL notes)<=8)
  (q:Q (.d (.bb true)) [scC v notes]):n8 v e notes kd Q:=by
 subst hkd
 unfold n8
 rw [hkey]
 have hi:PyData.canLay0 (D.py (.tu (is.map .ii)))=true:=vE is
 have e1:(some is).getD []=is:=rfl
 simp only [e1]
 refine ad (ah (jz hv (by simp)) (ah hp (ah hk rfl))) (bL rfl (ad (ah (ah hi hi) (qb (wj is))) ?_))
 rw [PySem.SeqAt.eqv_refl _ hi,PySem.SeqAt.eqv_refl _ (show PyData.canLay0 (D.py (.li notes))=true from hl)]
 exact dP rfl (ad (ah (ah hl hl) (qc hd)) q)
theorem Dp (v:EV) (log:List D) (e:D) (a1:D) (n1:List D) (t1:Str) (b1:Int) (p1 o1:Str) (s1:Int) (Q:QV) (E:QE):vcf eY 30 P 461 b7 false [.ref 0,.d e,.d (.li [cpD ⟨a1,none,n1,t1,b1,p1,o1,s1⟩])] [scC v log] Q E=(grd (Nat.ble (List.length ([]:List D)+List.length n1) 16777216) (iW v e (n1) Q)):=by kernel_rfl
theorem Do (v:EV) (log:List D) (e:D) (x1:Int) (a1:D) (n1:List D) (t1:Str) (b1:Int) (p1 o1:Str) (s1:Int) (Q:QV) (E:QE):vcf eY 30 P 461 b7 false [.ref 0,.d e,.d (.li [cpD ⟨a1,some x1,n1,t1,b1,p1,o1,s1⟩])] [scC v log] Q E=(grd (Nat.ble (List.length ([]:List D)+List.length n1) 16777216) (n8 v e (n1) (.tu [.ii x1]) Q)):=by kernel_rfl
theorem Dn (v:EV) (log:List D) (e:D) (a1:D) (n1:List D) (t1:Str) (b1:Int) (p1 o1:Str) (s1:Int) (y2:Option Int) (a2:D) (n2:List D) (t2:Str) (b2:Int) (p2 o2:Str) (s2:Int) (Q:QV) (E:QE):vcf eY 30 P 461 b7 false [.ref 0,.d e,.d (.li [cpD ⟨a1,none,n1,t1,b1,p1,o1,s1⟩,cpD ⟨a2,y2,n2,t2,b2,p2,o2,s2⟩])] [scC v log] Q E=(grd (Nat.ble (List.length ([]:List D)+List.length n1) 16777216) (iW v e (n1) Q)):=by kernel_rfl
theorem Dm (v:EV) (log:List D) (e:D) (x1:Int) (a1:D) (n1:List D) (t1:Str) (b1:Int) (p1 o1:Str) (s1:Int) (a2:D) (n2:List D) (t2:Str) (b2:Int) (p2 o2:Str) (s2:Int) (Q:QV) (E:QE):vcf eY 30 P 461 b7 false [.ref 0,.d e,.d (.li [cpD ⟨a1,some x1,n1,t1,b1,p1,o1,s1⟩,cpD ⟨a2,none,n2,t2,b2,p2,o2,s2⟩])] [scC v log] Q E=(grd (Nat.ble (List.length ([]:List D)+List.length n1) 16777216) (grd (Nat.ble (List.length (n1)+List.length n2) 16777216) (iW v e (n1++n2) Q))):=by kernel_rfl
theorem Dl (v:EV) (log:List D) (e:D) (x1:Int) (a1:D) (n1:List D) (t1:Str) (b1:Int) (p1 o1:Str) (s1:Int) (x2:Int) (a2:D) (n2:List D) (t2:Str) (b2:Int) (p2 o2:Str) (s2:Int) (Q:QV) (E:QE):vcf eY 30 P 461 b7 false [.ref 0,.d e,.d (.li [cpD ⟨a1,some x1,n1,t1,b1,p1,o1,s1⟩,cpD ⟨a2,some x2,n2,t2,b2,p2,o2,s2⟩])] [scC v log] Q E=(grd (Nat.ble (List.length ([]:List D)+List.length n1) 16777216) (grd (Nat.ble (List.length (n1)+List.length n2) 16777216) (n8 v e (n1++n2) (.tu [.ii x1,.ii x2]) Q))):=by kernel_rfl
theorem Dk (v:EV) (log:List D) (e:D) (a1:D) (n1:List D) (t1:Str) (b1:Int) (p1 o1:Str) (s1:Int) (y2:Option Int) (a2:D) (n2:List D) (t2:Str) (b2:Int) (p2 o2:Str) (s2:Int) (y3:Option Int) (a3:D) (n3:List D) (t3:Str) (b3:Int) (p3 o3:Str) (s3:Int) (Q:QV) (E:QE):vcf eY 30 P 461 b7 false [.ref 0,.d e,.d (.li [cpD ⟨a1,none,n1,t1,b1,p1,o1,s1⟩,cpD ⟨a2,y2,n2,t2,b2,p2,o2,s2⟩,cpD ⟨a3,y3,n3,t3,b3,p3,o3,s3⟩])] [scC v log] Q E=(grd (Nat.ble (List.length ([]:List D)+List.length n1) 16777216) (iW v e (n1) Q)):=by kernel_rfl
theorem Dj (v:EV) (log:List D) (e:D) (x1:Int) (a1:D) (n1:List D) (t1:Str) (b1:Int) (p1 o1:Str) (s1:Int) (a2:D) (n2:List D) (t2:Str) (b2:Int) (p2 o2:Str) (s2:Int) (y3:Option Int) (a3:D) (n3:List D) (t3:Str) (b3:Int) (p3 o3:Str) (s3:Int) (Q:QV) (E:QE):vcf eY 30 P 461 b7 false [.ref 0,.d e,.d (.li [cpD ⟨a1,some x1,n1,t1,b1,p1,o1,s1⟩,cpD ⟨a2,none,n2,t2,b2,p2,o2,s2⟩,cpD ⟨a3,y3,n3,t3,b3,p3,o3,s3⟩])] [scC v log] Q E=(grd (Nat.ble (List.length ([]:List D)+List.length n1) 16777216) (grd (Nat.ble (List.length (n1)+List.length n2) 16777216) (iW v e (n1++n2) Q))):=by kernel_rfl
theorem Di (v:EV) (log:List D) (e:D) (x1:Int) (a1:D) (n1:List D) (t1:Str) (b1:Int) (p1 o1:Str) (s1:Int) (x2:Int) (a2:D) (n2:List D) (t2:Str) (b2:Int) (p2 o2:Str) (s2:Int) (a3:D) (n3:List D) (t3:Str) (b3:Int) (p3 o3:Str) (s3:Int) (Q:QV) (E:QE):vcf eY 30 P 461 b7 false [.ref 0,.d e,.d (.li [cpD ⟨a1,some x1,n1,t1,b1,p1,o1,s1⟩,cpD ⟨a2,some x2,n2,t2,b2,p2,o2,s2⟩,cpD ⟨a3,none,n3,t3,b3,p3,o3,s3⟩])] [scC v log] Q E=(grd (Nat.ble (List.length ([]:List D)+List.length n1) 16777216) (grd (Nat.ble (List.length (n1)+List.length n2) 16777216) (grd (Nat.ble (List.length (n1++n2)+List.length n3) 16777216) (iW v e (n1++n2++n3) Q)))):=by kernel_rfl
theorem Dh (v:EV) (log:List D) (e:D) (x1:Int) (a1:D) (n1:List D) (t1:Str) (b1:Int) (p1 o1:Str) (s1:Int) (x2:Int) (a2:D) (n2:List D) (t2:Str) (b2:Int) (p2 o2:Str) (s2:Int) (x3:Int) (a3:D) (n3:List D) (t3:Str) (b3:Int) (p3 o3:Str) (s3:Int) (Q:QV) (E:QE):vcf eY 30 P 461 b7 false [.ref 0,.d e,.d (.li [cpD ⟨a1,some x1,n1,t1,b1,p1,o1,s1⟩,cpD ⟨a2,some x2,n2,t2,b2,p2,o2,s2⟩,cpD ⟨a3,some x3,n3,t3,b3,p3,o3,s3⟩])] [scC v log] Q E=(grd (Nat.ble (List.length ([]:List D)+List.length n1) 16777216) (grd (Nat.ble (List.length (n1)+List.length n2) 16777216) (grd (Nat.ble (List.length (n1++n2)+List.length n3) 16777216) (n8 v e (n1++n2++n3) (.tu [.ii x1,.ii x2,.ii x3]) Q)))):=by kernel_rfl
noncomputable def y1  : au:=mkS (pC (pR 0) (pC (pD pA) (pC (pD (pL pA)) pN))) (pC (pIn pA (pC (pP pA (pOL pA)) pN)) pN) fun (_,e,ms,_) ((C,l,((lg,log),_)),_) Q E=>∃ (v:EV) (cs:List CP),C=274/\l=scF v/\lg="log"/\ms=cs.map cpD/\evB v=true/\1<=cs.length/\cs.length<=3/\(∀ c∈cs,bX v c)/\aQ e=true/\am e=cs.map (·.e)/\
 ∀ log',log'.length<=100->Q (.d (.bb true)) [scC v log']
theorem dw {v:EV} {c:CP} (h:bX v c):c.notes.length<=3/\PyData.canLayAll0 (pyL c.notes)=true/\PyData.depthAll (pyL c.notes)<=8:=by
 exact ⟨h.nl,h.cl,h.dp⟩
theorem vF {v:EV} {cs:List CP} {e:D} (hc:∀ c∈cs,bX v c) (hl:cs.length<=3) (he:am e=cs.map (·.e)):iV v 3 (am e)=true:=by
 unfold iV
 rw [he]
 refine ah (ao (by rw [List.length_map];omega)) (List.all_eq_true.mpr fun p hp=>?_)
 obtain ⟨c,hc',rfl⟩:=List.mem_map.mp hp
 have h:=hc c hc'
 have h2:=h.ev
 unfold bo
 rw [h2]
 exact ah rfl (ao (by have:=(dw h).1;simp only;omega))
theorem xZ (P:Params) {v:EV} {log:List D} {e:D} {cs:List CP} {Q:QV} {E:QE} (hv:evB v=true) (h1:1<=cs.length) (h3:cs.length<=3) (hc:∀ c∈cs,bX v c) (hp:aQ e=true) (he:am e=cs.map (·.e))
  (q:∀ log',log'.length<=100->Q (.d (.bb true)) [scC v log']):vcf eY 30 P 461 b7 false [.ref 0,.d e,.d (.li (cs.map cpD))] [scC v log] Q E:=by
 have hk:=vF hc h3 he
 have hkey:bc v 3 (am e)=x8 cs:=by rw [he];exact vG fun c hx=>(hc c hx).ev
 rcases cs with _ | ⟨⟨a1,v1,n1,t1,b1,p1,o1,s1⟩,_ | ⟨⟨a2,v2,n2,t2,b2,p2,o2,s2⟩,_ | ⟨⟨a3,v3,n3,t3,b3,p3,o3,s3⟩,_ | ⟨c4,r⟩⟩⟩⟩
 · exact absurd h1 (by decide)
 · have k1:=dw (hc ⟨a1,v1,n1,t1,b1,p1,o1,s1⟩ (by simp))
   have m1:n1.length<=3:=k1.1
   cases v1 with
   | none=>
    show vcf eY 30 P 461 b7 false [.ref 0,.d e,.d (.li [cpD ⟨a1,none,n1,t1,b1,p1,o1,s1⟩])] [scC v log] Q E
    rw [Dp]
    have hkey:bc v 3 (am e)=(none,n1):=hkey
    have hkey:bc v 3 (am e)=(none,n1):=hkey.trans (by simp)
    exact ad (ao (by (try simp only [List.length_append,List.length_nil]);omega)) (ef hv hp hk hkey k1.2.1 k1.2.2 (q _ (by (try simp only [List.length_append]);omega)))
   | some x1=>
    show vcf eY 30 P 461 b7 false [.ref 0,.d e,.d (.li [cpD ⟨a1,some x1,n1,t1,b1,p1,o1,s1⟩])] [scC v log] Q E
    rw [Do]
    have hkey:bc v 3 (am e)=(some [x1],n1++[]):=hkey
    have hkey:bc v 3 (am e)=(some [x1],n1):=hkey.trans (by simp)
    exact ad (ao (by (try simp only [List.length_append,List.length_nil]);omega)) (j5 rfl hv hp hk hkey k1.2.1 k1.2.2 (q _ (by (try simp only [List.length_append]);omega)))
 · have k1:=dw (hc ⟨a1,v1,n1,t1,b1,p1,o1,s1⟩ (by simp))
   have m1:n1.length<=3:=k1.1
   have k2:=dw (hc ⟨a2,v2,n2,t2,b2,p2,o2,s2⟩ (by simp))
   have m2:n2.length<=3:=k2.1
   cases v1 with
   | none=>
    show vcf eY 30 P 461 b7 false [.ref 0,.d e,.d (.li [cpD ⟨a1,none,n1,t1,b1,p1,o1,s1⟩,cpD ⟨a2,v2,n2,t2,b2,p2,o2,s2⟩])] [scC v log] Q E
    rw [Dn]
    have hkey:bc v 3 (am e)=(none,n1):=hkey
    have hkey:bc v 3 (am e)=(none,n1):=hkey.trans (by simp)
    exact ad (ao (by (try simp only [List.length_append,List.length_nil]);omega)) (ef hv hp hk hkey k1.2.1 k1.2.2 (q _ (by (try simp only [List.length_append]);omega)))
   | some x1=>
    cases v2 with
    | none=>
     show vcf eY 30 P 461 b7 false [.ref 0,.d e,.d (.li [cpD ⟨a1,some x1,n1,t1,b1,p1,o1,s1⟩,cpD ⟨a2,none,n2,t2,b2,p2,o2,s2⟩])] [scC v log] Q E
     rw [Dm]
     have hkey:bc v 3 (am e)=(none,n1++(n2)):=hkey
     have hkey:bc v 3 (am e)=(none,n1++n2):=hkey.trans (by simp)
     exact ad (ao (by (try simp only [List.length_append,List.length_nil]);omega)) (ad (ao (by (try simp only [List.length_append,List.length_nil]);omega)) (ef hv hp hk hkey (dM k1.2.1 k2.2.1) (eV k1.2.2 k2.2.2) (q _ (by (try simp only [List.length_append]);omega))))
    | some x2=>
     show vcf eY 30 P 461 b7 false [.ref 0,.d e,.d (.li [cpD ⟨a1,some x1,n1,t1,b1,p1,o1,s1⟩,cpD ⟨a2,some x2,n2,t2,b2,p2,o2,s2⟩])] [scC v log] Q E
     rw [Dl]
     have hkey:bc v 3 (am e)=(some [x1,x2],n1++(n2++[])):=hkey
     have hkey:bc v 3 (am e)=(some [x1,x2],n1++n2):=hkey.trans (by simp)
     exact ad (ao (by (try simp only [List.length_append,List.length_nil]);omega)) (ad (ao (by (try simp only [List.length_append,List.length_nil]);omega)) (j5 rfl hv hp hk hkey (dM k1.2.1 k2.2.1) (eV k1.2.2 k2.2.2) (q _ (by (try simp only [List.length_append]);omega))))
 · have k1:=dw (hc ⟨a1,v1,n1,t1,b1,p1,o1,s1⟩ (by simp))
   have m1:n1.length<=3:=k1.1
   have k2:=dw (hc ⟨a2,v2,n2,t2,b2,p2,o2,s2⟩ (by simp))
   have m2:n2.length<=3:=k2.1
   have k3:=dw (hc ⟨a3,v3,n3,t3,b3,p3,o3,s3⟩ (by simp))
   have m3:n3.length<=3:=k3.1
   cases v1 with
   | none=>
    show vcf eY 30 P 461 b7 false [.ref 0,.d e,.d (.li [cpD ⟨a1,none,n1,t1,b1,p1,o1,s1⟩,cpD ⟨a2,v2,n2,t2,b2,p2,o2,s2⟩,cpD ⟨a3,v3,n3,t3,b3,p3,o3,s3⟩])] [scC v log] Q E
    rw [Dk]
    have hkey:bc v 3 (am e)=(none,n1):=hkey
    have hkey:bc v 3 (am e)=(none,n1):=hkey.trans (by simp)
    exact ad (ao (by (try simp only [List.length_append,List.length_nil]);omega)) (ef hv hp hk hkey k1.2.1 k1.2.2 (q _ (by (try simp only [List.length_append]);omega)))
   | some x1=>
    cases v2 with
    | none=>
     show vcf eY 30 P 461 b7 false [.ref 0,.d e,.d (.li [cpD ⟨a1,some x1,n1,t1,b1,p1,o1,s1⟩,cpD ⟨a2,none,n2,t2,b2,p2,o2,s2⟩,cpD ⟨a3,v3,n3,t3,b3,p3,o3,s3⟩])] [scC v log] Q E
     rw [Dj]
     have hkey:bc v 3 (am e)=(none,n1++(n2)):=hkey
     have hkey:bc v 3 (am e)=(none,n1++n2):=hkey.trans (by simp)
     exact ad (ao (by (try simp only [List.length_append,List.length_nil]);omega)) (ad (ao (by (try simp only [List.length_append,List.length_nil]);omega)) (ef hv hp hk hkey (dM k1.2.1 k2.2.1) (eV k1.2.2 k2.2.2) (q _ (by (try simp only [List.length_append]);omega))))
    | some x2=>
     cases v3 with
     | none=>
      show vcf eY 30 P 461 b7 false [.ref 0,.d e,.d (.li [cpD ⟨a1,some x1,n1,t1,b1,p1,o1,s1⟩,cpD ⟨a2,some x2,n2,t2,b2,p2,o2,s2⟩,cpD ⟨a3,none,n3,t3,b3,p3,o3,s3⟩])] [scC v log] Q E
      rw [Di]
      have hkey:bc v 3 (am e)=(none,n1++(n2++(n3))):=hkey
      have hkey:bc v 3 (am e)=(none,n1++n2++n3):=hkey.trans (by simp)
      exact ad (ao (by (try simp only [List.length_append,List.length_nil]);omega)) (ad (ao (by (try simp only [List.length_append,List.length_nil]);omega)) (ad (ao (by (try simp only [List.length_append,List.length_nil]);omega)) (ef hv hp hk hkey (dM (dM k1.2.1 k2.2.1) k3.2.1) (eV (eV k1.2.2 k2.2.2) k3.2.2) (q _ (by (try simp only [List.length_append]);omega)))))
     | some x3=>
      show vcf eY 30 P 461 b7 false [.ref 0,.d e,.d (.li [cpD ⟨a1,some x1,n1,t1,b1,p1,o1,s1⟩,cpD ⟨a2,some x2,n2,t2,b2,p2,o2,s2⟩,cpD ⟨a3,some x3,n3,t3,b3,p3,o3,s3⟩])] [scC v log] Q E
      rw [Dh]
      have hkey:bc v 3 (am e)=(some [x1,x2,x3],n1++(n2++(n3++[]))):=hkey
      have hkey:bc v 3 (am e)=(some [x1,x2,x3],n1++n2++n3):=hkey.trans (by simp)
      exact ad (ao (by (try simp only [List.length_append,List.length_nil]);omega)) (ad (ao (by (try simp only [List.length_append,List.length_nil]);omega)) (ad (ao (by (try simp only [List.length_append,List.length_nil]);omega)) (j5 rfl hv hp hk hkey (dM (dM k1.2.1 k2.2.1) k3.2.1) (eV (eV k1.2.2 k2.2.2) k3.2.2) (q _ (by (try simp only [List.length_append]);omega)))))
 · exact absurd h3 (by simp only [List.length_cons];omega)
theorem HD {w:World} {base:Heap} (W:Wd w base):aU w base 461 19 y1:=by
 exists w,base,_ W
 have lp:LOk w base 18 FJ:=LOk.cons (HN W 3) (Hg _) LOk.nil
 refine bD W (LOk.so (fz:=zA) (fg:=fun _=>[]) lp) false (HX w) (IM _) (Gd _) 30 fun vs Z Q E q=>?_;exists vs,Z,Q,E,_ q
 replace q:=aB q
 obtain ⟨zz,zy,e1,e2,q⟩:=q;obtain ⟨_,e,ms,_⟩:=zz;obtain ⟨zx,_⟩:=zy;obtain ⟨C,l,zw⟩:=zx;obtain ⟨zv,_⟩:=zw;obtain ⟨lg,log⟩:=zv
 obtain rfl:=(show vs=[.ref 0,.d e,.d (.li ms)] from e1);obtain rfl:=(show Z=[.inst C l [(lg,.li log)]] from e2)
 dsimp only at q
 clear e2 e1;obtain ⟨v,cs,rfl,rfl,rfl,rfl,hv,zz⟩:=q;obtain ⟨h1,h3,hc,hp,he,q⟩:=zz
 exact ⟨rfl,xZ w.params hv h1 h3 hc hp he q⟩
end Mine
namespace Mine
open PySem PySem.W PyProof.Rows PySem.SeqAt
variable (P:Params)
noncomputable def FL (P:Params):List (Addr×au):=(151,t6)::(158,zh)::(165,t4)::(172,tY)::LN2 P
noncomputable def kB (P:Params):Tab:=aZ (FL P)
noncomputable def tN:au:=mkS (pC (pD pI) (pC (pD pF) (pC (pD pA) pN))) pN fun (way,fs,d,_) _ Q E=>
 onP (pT (pC pS (pC pA (pC pA pN)))) d (fun (t,a,b,_)=>grd (decide (t="map"))
  (cnd (decide (way=0)) (Q (.d (.ss "no size of its own: map")) [])
  (cnd (decide (way=1)) (Q (.d (.ss "no bits of its own: map")) [])
  (cnd (decide (way=2)) (Q (.d (.ss "no order of its own: map")) [])
  (grd (decide (way=3)) (Q (.d (.ss "no type of its own: map")) []))))))
 (onP (pT (pC pS (pC pS pN))) d (fun (t,nm,_)=>grd (decide (t="field")&&(decide (nm="ip none")&&decide (way=3))) (fs=FLD/\Q (.d (.ss "unknown field 'ip none'")) []))
 (onP pS d (fun s=>grd (decide (s="sctp")&&(decide (way=4)||decide (way=5))) (Q (.d (.ss "unknown protocol 'sctp'")) [])) False))
theorem Ap (fs:List (Str×D)) (a b:D) (Q:QV) (E:QE):vcf (kB P) 30 P 423 d6 false [.d (.ii 0),.d (.di fs),.d (.tu [.ss "map",a,b])] [] Q E=Q (.d (.ss "no size of its own: map")) []:=by kernel_rfl
theorem Ao (fs:List (Str×D)) (a b:D) (Q:QV) (E:QE):vcf (kB P) 30 P 423 d6 false [.d (.ii 1),.d (.di fs),.d (.tu [.ss "map",a,b])] [] Q E=Q (.d (.ss "no bits of its own: map")) []:=by kernel_rfl
theorem An (fs:List (Str×D)) (a b:D) (Q:QV) (E:QE):vcf (kB P) 30 P 423 d6 false [.d (.ii 2),.d (.di fs),.d (.tu [.ss "map",a,b])] [] Q E=Q (.d (.ss "no order of its own: map")) []:=by kernel_rfl
theorem Am (fs:List (Str×D)) (a b:D) (Q:QV) (E:QE):vcf (kB P) 30 P 423 d6 false [.d (.ii 3),.d (.di fs),.d (.tu [.ss "map",a,b])] [] Q E=Q (.d (.ss "no type of its own: map")) []:=by kernel_rfl
theorem Aj (Q:QV) (E:QE):vcf (kB P) 30 P 423 d6 false [.d (.ii 3),.d (.di FLD),.d (.tu [.ss "field",.ss "ip none"])] [] Q E=Q (.d (.ss "unknown field 'ip none'")) []:=by kernel_rfl
theorem Al (fs:List (Str×D)) (Q:QV) (E:QE):vcf (kB P) 30 P 423 d6 false [.d (.ii 4),.d (.di fs),.d (.ss "sctp")] [] Q E=Q (.d (.ss "unknown protocol 'sctp'")) []:=by kernel_rfl
theorem Ak (fs:List (Str×D)) (Q:QV) (E:QE):vcf (kB P) 30 P 423 d6 false [.d (.ii 5),.d (.di fs),.d (.ss "sctp")] [] Q E=Q (.d (.ss "unknown protocol 'sctp'")) []:=by kernel_rfl
theorem E3 {w:World} {base:Heap} (W:Wd w base):aU w base 423 5 tN:=by
 exists w,base,_ W
 have lp:LOk w base 4 (FL w.params):=LOk.cons ((BY W).mono (by decide)) (x9 _) (LOk.cons (Fc W) (EJ _) (LOk.cons ((BX W).mono (by decide)) (BH _) (LOk.cons ((BW W).mono (by decide)) (BG _) ((lN2 W).mono (by decide)))))
 refine bD W (LOk.so (fz:=fun _=>[]) (fg:=fun _=>[]) lp) false (H5 w) (IS _) (Gh _) 30 fun vs Z Q E q=>?_;exists vs,Z,Q,E,_ q
 replace q:=aB q
 obtain ⟨zz,_,e1,e2,q⟩:=q;obtain ⟨way,fs,d,_⟩:=zz
 obtain rfl:=(show vs=[.d (.ii way),.d (.di fs),.d d] from e1);obtain rfl:=(show Z=[] from e2)
 rcases mr q with ⟨⟨t,a,b,_⟩,e,q2⟩ | q2
 · clear q
   obtain rfl:=(show d=.tu [.ss t,a,b] from e)
   replace q:grd _ _:=q2
   obtain ⟨c,q⟩:=ab.mp q
   have c:=of_decide_eq_true c
   clear e;subst c
   refine ⟨rfl,?_⟩
   show vcf (kB w.params) 30 w.params 423 d6 false _ _ _ _
   cases h0:decide (way=0) with
   | true=>have h:=of_decide_eq_true h0;clear h0 e1 q2;subst h;rw [Ap];exact q
   | false=>
   rw [h0] at q
   cases h1:decide (way=1) with
   | true=>have h:=of_decide_eq_true h1;clear h1 h0 e1 q2;subst h;rw [Ao];exact q
   | false=>
   rw [h1] at q
   cases h2:decide (way=2) with
   | true=>have h:=of_decide_eq_true h2;clear h2 h1 h0 e1 q2;subst h;rw [An];exact q
   | false=>
   rw [h2] at q
   have q3:grd (decide (way=3)) (Q (.d (.ss "no type of its own: map")) []):=q
   obtain ⟨h3,q4⟩:=ab.mp q3
   have h:=of_decide_eq_true h3
   clear h3 q3 h2 h1 h0 q e1 q2;subst h;rw [Am];exact q4
 rcases mr q2 with ⟨⟨t,nm,_⟩,e,q3⟩ | q3
 · clear q q2
   obtain rfl:=(show d=.tu [.ss t,.ss nm] from e)
   replace q:grd _ _:=q3
   obtain ⟨c,q⟩:=ab.mp q
   simp only [Bool.and_eq_true,decide_eq_true_eq] at c
   clear e;obtain ⟨rfl,rfl,rfl⟩:=c
   obtain ⟨e,q2⟩:=q
   clear e1 q3;subst e
   refine ⟨rfl,?_⟩
   show vcf (kB w.params) 30 w.params 423 d6 false _ _ _ _
   rw [Aj];exact q2
 rcases mr q3 with ⟨s,e,q4⟩ | q4
 · clear q q2 q3
   obtain rfl:=(show d=.ss s from e)
   replace q:grd _ _:=q4
   obtain ⟨c,q⟩:=ab.mp q
   simp only [Bool.and_eq_true,Bool.or_eq_true,decide_eq_true_eq] at c
   clear e e1 q4;obtain ⟨rfl,rfl | rfl⟩:=c
   · refine ⟨rfl,?_⟩
     show vcf (kB w.params) 30 w.params 423 d6 false _ _ _ _
     rw [Al];exact q
   · refine ⟨rfl,?_⟩
     show vcf (kB w.params) 30 w.params 423 d6 false _ _ _ _
     rw [Ak];exact q
 · exact q4.elim
end Mine
namespace Mine
open PySem PySem.W PyProof.Rows PySem.SeqAt
variable (P:Params)
noncomputable def FK:List (Addr×au):=[(165,tZ),(151,pi),(193,tW 8),(186,zg),(423,tN)]
noncomputable def f8:Tab:=aZ FK
noncomputable def U428 (e:D) (ms:List D) (r:Mine.Loc):Mine.Loc:=("made",.d (.li ms))::("e",.d e)::("fields",.d (.di FLD))::("protos",.ref 0)::r
theorem Dv (e:D) (ms:List D) (Q:QV) (E:QE):vcf f8 30 P 428 qH false [.d (.di FLD),.d e,.d (.li ms)] [] Q E=
 bq (stp 29 f8 P 428 1) (ms.map .d) (U428 e ms []) [.oc (.li [])] (cx 30 f8 P 428 2 (a9 false 0 Q) (bE 0 E)):=by kernel_rfl
noncomputable def nw (c:CP) (acc:List D) (U':Mine.Loc) (K:QF):Prop:=grd (okH (av FLD 5 c.e))
 (grd (PyData.canLay0 (D.py (.ss (si (av FLD 5 c.e))))&&PyData.canLay0 (D.py (.ss c.ord))&&Nat.ble (PyData.depth (D.py (.ss c.ord))) 64)
 (cnd (!PyData.eqv (D.py (.ss (si (av FLD 5 c.e)))) (D.py (.ss c.ord))) (K (.rt (.d (.bb false))) U' [.oc (.li acc)])
 (grd (okH (av FLD 5 c.e))
 (cnd (!PyData.eqv (D.py (.ii (aP (av FLD 5 c.e)))) (D.py (.ii c.size))) (K (.rt (.d (.bb false))) U' [.oc (.li acc)]) (K .nx U' [.oc (.li acc)])))))
noncomputable def qC (c:CP) (acc:List D) (U':Mine.Loc) (K:QF):Prop:=grd (PyData.canLay0 (D.py (.ss c.proto))&&PyData.canLay0 (D.py (.ss ""))&&Nat.ble (PyData.depth (D.py (.ss ""))) 64)
 (cnd (!PyData.eqv (D.py (.ss c.proto)) (D.py (.ss "")))
  (grd (PyData.strOk c.proto&&PyData.canLayAll0 (pyL acc)) (cnd (!(pyL acc).any fun y=>PyData.eqv y (PyData.str c.proto)) (grd (Nat.ble acc.length 1048576) (nw c (acc++[.ss c.proto]) U' K)) (nw c acc U' K)))
  (nw c acc U' K))
theorem AC (e:D) (ms:List D) (c:CP) (acc:List D) (K:QF):stp 29 f8 P 428 1 (.d (cpD c)) (U428 e ms []) [.oc (.li acc)] K=qC c acc (U428 e ms [("one",.d (cpD c))]) K:=by kernel_rfl
theorem AB (e:D) (ms:List D) (c:CP) (acc:List D) (y:V) (K:QF):stp 29 f8 P 428 1 (.d (cpD c)) (U428 e ms [("one",y)]) [.oc (.li acc)] K=qC c acc (U428 e ms [("one",.d (cpD c))]) K:=by kernel_rfl
noncomputable def e6 (e:D):D:=.tu [.ss "or",.tu [.ss "mask",.tu [.ss "hash",e,.ii 8,.ii 5,.ii 0],.ii 7],.ii 64]
noncomputable def nz (e x:D):D:=.tu [.ss "concat",.tu [e6 e,x]]
noncomputable def AM (e:D):D:=.tu [.ss "map",e,.tu [.ss "map",.tu []]]
noncomputable def pL5 (e:D):D:=.li (((ax FLD 8 e).getD []).map .ss)
noncomputable def kD (c:CP):D:=.tu [.ss c.ty,.ii c.bits]
noncomputable def gt (a b:D) (no yes:Prop):Prop:=grd (PyData.canLay0 a.py&&PyData.canLay0 b.py&&Nat.ble (PyData.depth b.py) 64) (cnd (!PyData.eqv a.py b.py) no yes)
noncomputable def l6:List D:=[.ss "no size of its own: map",.ss "no bits of its own: map",.ss "no order of its own: map",.ss "no type of its own: map"]
noncomputable def tI (e:D) (acc kl:List D) (x k0:D) (Q:QV):Prop:=grd (ax FLD 8 e).isSome <| gt (pL5 e) (.li acc) (Q (.d (.bb false)) []) <|
 grd (aQ e&&(jm FLD (am e)&&Nat.ble (am e).length 1000)) <| gt (.tu ((am e).map (cM FLD))) (.tu kl) (Q (.d (.bb false)) []) <|
 grd (ax FLD 8 (nz e x)).isSome <| gt (pL5 (nz e x)) (.li acc) (Q (.d (.bb false)) []) <|
 grd (aQ (nz e x)&&(jm FLD [e6 e,x]&&Nat.ble [e6 e,x].length 1000)) <| gt (.tu ((am (nz e x)).map (cM FLD))) (.tu [.tu [.ss "mark",.ii 32],k0]) (Q (.d (.bb false)) []) <|
 grd (ax FLD 8 (AM e)).isSome <| gt (pL5 (AM e)) (.li acc) (Q (.d (.bb false)) []) <| Q (.d (.bb (PyData.eqv (D.py (.li l6)) (D.py (.li l6))))) []
theorem yt (e:D) (c1:CP) (acc:List D) (y:V) (Q:QV) (E:QE):cx 30 f8 P 428 2 (a9 false 0 Q) (bE 0 E) .nx (U428 e [cpD c1] [("one",y)]) [.oc (.li acc)]=tI e acc [kD c1] c1.e (kD c1) Q:=by kernel_rfl
theorem yr (e:D) (c1 c2:CP) (acc:List D) (y:V) (Q:QV) (E:QE):cx 30 f8 P 428 2 (a9 false 0 Q) (bE 0 E) .nx (U428 e [cpD c1,cpD c2] [("one",y)]) [.oc (.li acc)]=tI e acc [kD c1,kD c2] c1.e (kD c1) Q:=by kernel_rfl
theorem yq (e:D) (c1 c2 c3:CP) (acc:List D) (y:V) (Q:QV) (E:QE):cx 30 f8 P 428 2 (a9 false 0 Q) (bE 0 E) .nx (U428 e [cpD c1,cpD c2,cpD c3] [("one",y)]) [.oc (.li acc)]=tI e acc [kD c1,kD c2,kD c3] c1.e (kD c1) Q:=by kernel_rfl
noncomputable def prC (c:CP):List Str:=match decide (c.proto="") with
 | true=>[]
 | false=>[c.proto]
noncomputable def a8 (cs:List CP) (acc:List Str):List Str:=cs.foldl (fun a c=>bR a (prC c)) acc
theorem gL (c:CP):(prC c).length<=1:=by unfold prC;split <;> simp
theorem qu {acc:List Str} {x:Str} (h:acc.Nodup):(dJ acc x).Nodup:=by
 unfold dJ
 split
 · exact h
 · rename_i hn
   refine List.nodup_append.mpr ⟨h,by simp,fun a ha b hb e=>?_⟩
   rw [List.mem_singleton] at hb
   subst hb;subst e
   have:=List.any_eq_false.mp hn a ha
   simp at this
theorem ia:∀ {l acc:List Str},acc.Nodup->(bR acc l).Nodup
 | [],_,h=>h
 | x::r,acc,h=>ia (l:=r) (qu h)
theorem eX:∀ {l acc:List Str},(acc++l).Nodup->bR acc l=acc++l
 | [],acc,_=>(List.append_nil acc).symm
 | x::r,acc,h=>by
  have hx:(acc.any fun y=>decide (y=x))=false:=by
   rw [List.any_eq_false]
   intro y hy e
   have e:=of_decide_eq_true e
   subst e
   rw [List.nodup_append] at h
   exact h.2.2 y hy y (.head _) rfl
  show bR (dJ acc x) r=_
  have e1:dJ acc x=acc++[x]:=by unfold dJ;rw [hx]
  rw [e1,eX (by rw [List.append_assoc];exact h),List.append_assoc]
  rfl
theorem w9 {acc:List Str} {x:Str} (h:x∈acc):dJ acc x=acc:=by
 have:(acc.any fun y=>decide (y=x))=true:=List.any_eq_true.mpr ⟨x,h,by simp⟩
 unfold dJ;rw [this]
theorem vt {acc:List Str} {x:Str}:x∈dJ acc x:=by
 unfold dJ
 split
 · rename_i h
   obtain ⟨y,hy,e⟩:=List.any_eq_true.mp h
   have e:=of_decide_eq_true e
   clear h;subst e;exact hy
 · simp
theorem w8 {acc:List Str} {x y:Str} (h:y∈acc):y∈dJ acc x:=by
 unfold dJ;split
 · exact h
 · exact List.mem_append_left _ h
theorem gw:∀ {l acc:List Str} {y:Str},y∈acc->y∈bR acc l
 | [],_,_,h=>h
 | x::r,acc,y,h=>gw (l:=r) (w8 h)
theorem f7:∀ {l acc:List Str} {y:Str},y∈l->y∈bR acc l
 | x::r,acc,y,h=>by
  rcases List.mem_cons.mp h with rfl | h
  · exact gw (l:=r) vt
  · exact f7 (l:=r) h
theorem eD:∀ {cs:List CP} {acc:List Str} {y:Str},y∈acc->y∈a8 cs acc
 | [],_,_,h=>h
 | c::r,acc,y,h=>eD (cs:=r) (gw h)
theorem gK:∀ {cs:List CP} {acc:List Str},acc.Nodup->(a8 cs acc).Nodup
 | [],_,h=>h
 | c::r,acc,h=>gK (cs:=r) (ia h)
theorem lC:∀ {cs:List CP} {acc:List Str},(∀ c∈cs,PyData.strOk c.proto=true)->acc.all PyData.strOk=true->(a8 cs acc).all PyData.strOk=true
 | [],_,_,h=>h
 | c::r,acc,hc,h=>by
  refine lC (cs:=r) (fun x hx=>hc x (.tail _ hx)) (f6 h ?_)
  unfold prC
  split
  · rfl
  · simp [hc c (.head _)]
theorem pn:∀ {cs:List CP} {acc:List Str},(a8 cs acc).length<=acc.length+cs.length:=by
 intro cs
 induction cs with
 | nil=>
  intro acc
  simp [a8]
 | cons c r ih=>
  intro acc
  have h1:=ih (acc:=bR acc (prC c))
  have h2:=gy (prC c) acc
  have h3:=gL c
  show (a8 r (bR acc (prC c))).length<=_
  rw [List.length_cons];omega
theorem yl {v:EV} {k:Nat} (hk:2<=k):∀ {cs:List CP} {acc:List Str},(∀ c∈cs,bX v c)->acc.length+cs.length<=1000->acc.all PyData.strOk=true->cT (c9 FLD (ax FLD k)) (cs.map (·.e)) acc=some (a8 cs acc):=by
 intro cs
 induction cs with
 | nil=>
  intro _ _ _ _
  exact rfl
 | cons c r ih=>
  intro acc hc hl ho
  have h:=hc c (.head _)
  have hs:=h.sp
  rw [List.length_cons] at hl
  have hp':c9 FLD (ax FLD k) c.e=some (prC c):=h.pr k hk
  show cT _ (c.e::r.map (·.e)) acc=_
  unfold cT
  rw [hp']
  have hok:okS acc (prC c)=true:=by
   unfold okS
   have:=gL c
   refine ah (ao (by omega)) (ah ho ?_)
   unfold prC
   split
   · rfl
   · simp [hs]
  simp only [hok]
  have h2:=gy (prC c) acc
  have h3:=gL c
  refine ih (fun x hx=>hc x (.tail _ hx)) (by omega) (f6 ho ?_)
  unfold prC
  split
  · rfl
  · simp [hs]
theorem sA {f:D->Option (List Str)} {p:D} {l:List Str} (h:f p=some l) (hn:l.Nodup) (hl:l.length<=1000) (ho:l.all PyData.strOk=true):cT f [p] []=some l:=by
 unfold cT
 rw [h]
 have hok:okS [] l=true:=by unfold okS;exact ah (ao (by simpa using hl)) (ah rfl ho)
 simp only [hok]
 unfold cT
 rw [eX (by simpa using hn)]
 rfl
theorem fk {k:Nat} {t:Str} {x:List D} {l:List Str} (ht:decide (t="concat")=false) (hs:PyData.strOk t=true) (hx:x.length<=10) (h:c9 FLD (ax FLD k) (.tu (.ss t::x))=some l) (hn:l.Nodup) (hl:l.length<=1000) (ho:l.all PyData.strOk=true):ax FLD (k+1) (.tu (.ss t::x))=some l:=by
 have hpo:=fm ht hs hx
 have hpl:=gm (x:=x) ht
 unfold ax
 rw [hpo,hpl]
 exact sA h hn hl ho
structure dj (v:EV) (cs:List CP) (e:D):Prop where
 h1:1<=cs.length
 h3:cs.length<=3
 hc:∀ c∈cs,bX v c
 hp:aQ e=true
 he:am e=cs.map (·.e)
section
variable {v:EV} {cs:List CP} {e:D}
theorem dj.strs (T:dj v cs e):(a8 cs []).all PyData.strOk=true:=lC (fun c hc=>(T.hc c hc).sp) rfl
theorem dj.nd:(a8 cs []).Nodup:=gK List.nodup_nil
theorem dj.len (T:dj v cs e):(a8 cs []).length<=3:=by have:=pn (cs:=cs) (acc:=[]);have:=T.h3;simp at *;omega
theorem dj.protos (T:dj v cs e) {k:Nat} (hk:2<=k):ax FLD (k+1) e=some (a8 cs []):=by
 unfold ax
 rw [T.hp,T.he]
 exact yl hk T.hc (by have:=T.h3;simp;omega) rfl
theorem dj.sou (T:dj v cs e):ax FLD 8 (AM e)=some (a8 cs []):=by
 have l:=T.len
 exact fk (by decide) (by kernel_rfl) (by simp) (show c9 FLD (ax FLD 7) _=_ from T.protos (k:=6) (by decide)) dj.nd (by omega) T.strs
theorem dj.stir (T:dj v cs e):c9 FLD (ax FLD 7) (e6 e)=some (a8 cs []):=by
 have l:=T.len
 have a:ax FLD 6 (.tu [.ss "hash",e,.ii 8,.ii 5,.ii 0])=some (a8 cs []):=fk (by decide) (by kernel_rfl) (by simp) (show c9 FLD (ax FLD 5) _=_ from T.protos (k:=4) (by decide)) dj.nd (by omega) T.strs
 have b:ax FLD 7 (.tu [.ss "mask",.tu [.ss "hash",e,.ii 8,.ii 5,.ii 0],.ii 7])=some (a8 cs []):=fk (by decide) (by kernel_rfl) (by simp) (show c9 FLD (ax FLD 6) _=_ from a) dj.nd (by omega) T.strs
 exact b
theorem dj.sev (T:dj v cs e) {c:CP} (hc:c∈cs) (hin:∀ y∈prC c,y∈a8 cs []):ax FLD 8 (nz e c.e)=some (a8 cs []):=by
 have l:=T.len
 have hpo:aQ (nz e c.e)=true:=by
  show (PyData.strOk "concat"&&Nat.ble _ 1000)=true
  exact ah (by kernel_rfl) rfl
 have hpl:am (nz e c.e)=[e6 e,c.e]:=rfl
 have hs:=T.stir
 have hx:c9 FLD (ax FLD 7) c.e=some (prC c):=(T.hc c hc).pr 7 (by decide)
 unfold ax
 rw [hpo,hpl]
 show cT _ [e6 e,c.e] []=_
 unfold cT
 rw [hs]
 have hok:okS [] (a8 cs [])=true:=by unfold okS;exact ah (ao (by simp;omega)) (ah rfl T.strs)
 simp only [hok]
 rw [eX (by simpa using dj.nd)]
 unfold cT
 rw [hx]
 have hpl1:=gL c
 have hok2:okS ([]++a8 cs []) (prC c)=true:=by
  unfold okS
  refine ah (ao (by simp;omega)) (ah T.strs ?_)
  have:=(T.hc c hc).sp
  unfold prC
  split
  · rfl
  · simp [this]
 simp only [hok2]
 unfold cT
 congr 1
 unfold prC at hin ⊢
 split
 · rfl
 · rename_i hd
   rw [hd] at hin
   exact w9 (hin _ (.head _))
theorem jJ {c:CP} (h:bX v c):cM FLD c.e=kD c/\okH (av FLD 5 c.e)=true/\m6 (av FLD 5 c.e)=true:=by
 have ho:=h.ok
 have hbk:oM FLD c.e=fJ FLD 5 c.e:=by
  unfold oM
  split
  · rename_i q;rw [q] at ho;contradiction
  · rfl
 refine ⟨?_,jj ho,?_⟩
 · unfold cM kD
   rw [h.ty,hbk,h.bit]
 · unfold m6
   rw [h.size]
   exact ah (an (Int.le_trans (by decide) h.s1)) (an (Int.le_trans h.s2 (by decide)))
theorem dj.kinds (T:dj v cs e):jm FLD (am e)=true:=by
 rw [T.he]
 refine List.all_eq_true.mpr fun p hp=>?_
 obtain ⟨c,hc,rfl⟩:=List.mem_map.mp hp
 have:=jJ (T.hc c hc)
 exact ah this.2.1 this.2.2
theorem dj.kindL (T:dj v cs e):(am e).map (cM FLD)=cs.map kD:=by
 rw [T.he,List.map_map]
 refine List.map_congr_left fun c hc=>?_
 exact (jJ (T.hc c hc)).1
theorem pJ:∀ {cs:List CP},(∀ c∈cs,PyData.strOk c.ty=true)->PyData.canLayAll0 (pyL (cs.map kD))=true
 | [],_=>rfl
 | c::r,h=>by
  show ((PyData.strOk c.ty&&(true&&true))&&PyData.canLayAll0 (pyL (r.map kD)))=true
  rw [h c (.head _)]
  exact ah rfl (pJ fun x hx=>h x (.tail _ hx))
theorem jp (x:Str):PyData.depth (.str x)<=1:=by unfold PyData.depth;decide
theorem rn (x:Int):PyData.depth (.int x)<=1:=by unfold PyData.depth;decide
theorem wi:∀ {cs:List CP},PyData.depthAll (pyL (cs.map kD))<=8:=by
 intro cs
 induction cs with
 | nil=>
  decide
 | cons c r ih=>
  show max (max (PyData.depth (.str c.ty)) (max (PyData.depth (.int c.bits)) 0)+1) (PyData.depthAll (pyL (r.map kD)))<=8
  exact Nat.max_le.mpr ⟨Nat.le_trans (Nat.succ_le_succ (Nat.max_le.mpr ⟨jp _,Nat.max_le.mpr ⟨rn _,Nat.zero_le _⟩⟩)) (by decide),ih⟩
theorem wh:∀ {l:List Str},PyData.depthAll (pyL (l.map .ss))<=8
 | []=>by decide
 | x::r=>by
  show max (PyData.depth (.str x)) (PyData.depthAll (pyL (r.map .ss)))<=8
  exact Nat.max_le.mpr ⟨Nat.le_trans (jp x) (by decide),wh⟩
theorem fG {a:D} {no yes:Prop} (h:PyData.canLay0 a.py=true) (hd:Nat.ble (PyData.depth a.py) 64=true) (q:yes):gt a a no yes:=by
 unfold gt
 rw [PySem.SeqAt.eqv_refl _ h]
 exact ad (ah (ah h h) hd) (bL rfl q)
theorem rS (e:D):cM FLD (e6 e)=.tu [.ss "mark",.ii 32]:=by kernel_rfl
theorem xz (e:D):(okH (av FLD 5 (e6 e))&&m6 (av FLD 5 (e6 e)))=true:=by kernel_rfl
theorem mc (T:dj v cs e) {c:CP} (hc:c∈cs) (hin:∀ y∈prC c,y∈a8 cs []) {Q:QV} (q:Q (.d (.bb true)) []):tI e ((a8 cs []).map .ss) (cs.map kD) c.e (kD c) Q:=by
 have hl:PyData.canLay0 (D.py (.li ((a8 cs []).map .ss)))=true:=mJ T.strs
 have hd:Nat.ble (PyData.depth (D.py (.li ((a8 cs []).map .ss)))) 64=true:=qc wh
 have hk:=jJ (T.hc c hc)
 have ht:∀ c∈cs,PyData.strOk c.ty=true:=fun c hc=>(T.hc c hc).st
 unfold tI pL5
 rw [T.protos (k:=7) (by decide),T.sev hc hin,T.sou,T.kindL]
 have hpl:(am (nz e c.e)).map (cM FLD)=[.tu [.ss (Str.ofString "mark"),.ii 32],kD c]:=by
  show [cM FLD (e6 e),cM FLD c.e]=_
  rw [rS,hk.1]
 rw [hpl]
 have e1:(some (a8 cs [])).getD []=a8 cs []:=rfl
 simp only [e1]
 have hl2:PyData.canLay0 (D.py (.tu [.tu [.ss "mark",.ii 32],kD c]))=true:=by
  show (PyData.canLay0 (D.py (.tu [.ss "mark",.ii 32]))&&PyData.canLayAll0 (pyL (List.map kD [c])))=true
  exact ah (by kernel_rfl) (pJ fun x hx=>by rw [List.mem_singleton] at hx;clear hpl hk hin;subst hx;exact ht _ hc)
 have hd2:PyData.depthAll (pyL [.tu [.ss "mark",.ii 32],kD c])<=8:=by
  show max (max (PyData.depth (.str "mark")) (max (PyData.depth (.int 32)) 0)+1) (PyData.depthAll (pyL (List.map kD [c])))<=8
  have:=wi (cs:=[c])
  have:=jp "mark"
  have:=rn 32
  omega
 refine ad rfl (fG hl hd (ad (ah T.hp (ah T.kinds (ao (by rw [T.he,List.length_map];have:=T.h3;omega)))) (fG (pJ ht) (qb wi) (ad rfl (fG hl hd (ad ?_ (fG hl2 (qb hd2) (ad rfl (fG hl hd ?_)))))))))
 · refine ah ?_ (ah ?_ rfl)
   · show (PyData.strOk "concat"&&Nat.ble _ 1000)=true
     exact ah (by kernel_rfl) rfl
   · show ((okH (av FLD 5 (e6 e))&&m6 (av FLD 5 (e6 e)))&&((okH (av FLD 5 c.e)&&m6 (av FLD 5 c.e))&&true))=true
     rw [xz,hk.2.1,hk.2.2];rfl
 · have:PyData.eqv (D.py (.li l6)) (D.py (.li l6))=true:=by kernel_rfl
   rw [this];exact q
theorem ju {c:CP} (h:bX v c) {acc:List D} {U':Mine.Loc} {K:QF} (q:K .nx U' [.oc (.li acc)]):nw c acc U' K:=by
 have ho:=h.ok
 have hs:=h.so
 unfold nw
 rw [h.ord,h.size,iD,bC,decide_eq_true rfl,decide_eq_true rfl]
 exact ad (jj ho) (ad (ah (ah hs hs) (ao (by have:=jp c.ord;show PyData.depth (.str c.ord)<=64;omega))) (bL rfl (ad (jj ho) (bL rfl q))))
theorem tL {c:CP} (h:bX v c) {acc:List Str} (ha:acc.all PyData.strOk=true) (hl:acc.length<=1000) {U':Mine.Loc} {K:QF} (q:K .nx U' [.oc (.li ((bR acc (prC c)).map .ss))]):qC c (acc.map .ss) U' K:=by
 have hs:PyData.strOk c.proto=true:=h.sp
 unfold qC
 rw [iD,w6]
 refine ad (ah (ah hs (by kernel_rfl)) (by kernel_rfl)) ?_
 unfold prC at q
 cases hd:decide (c.proto="") with
 | true=>
  rw [hd] at q
  exact bL rfl (ju h q)
 | false=>
  rw [hd] at q
  refine dP rfl (ad (ah hs (mJ ha)) ?_)
  have q:K .nx U' [.oc (.li ((dJ acc c.proto).map .ss))]:=q
  unfold dJ at q
  cases hm:acc.any fun y=>decide (y=c.proto) with
  | true=>rw [hm] at q;exact bL rfl (ju h q)
  | false=>
   rw [hm] at q
   refine dP rfl (ad (ao (by rw [List.length_map];omega)) (ju h ?_))
   have e1:(acc++[c.proto]).map D.ss=acc.map .ss++[.ss c.proto]:=by simp
   rw [<- e1];exact q
end
theorem rZ (P:Params) {v:EV} {e:D} {ms:List D} {K:QF}:∀ (cs:List CP) (acc:List Str) (U:Mine.Loc),(U=U428 e ms []\/∃ y,U=U428 e ms [("one",y)])->(∀ c∈cs,bX v c)->acc.all PyData.strOk=true->acc.length+cs.length<=1000->
  (∀ U',((cs=[]/\U'=U)\/∃ y,U'=U428 e ms [("one",y)])->K .nx U' [.oc (.li ((a8 cs acc).map .ss))])->bq (stp 29 f8 P 428 1) ((cs.map cpD).map .d) U [.oc (.li (acc.map .ss))] K:=by
 intro cs
 induction cs with
 | nil=>
  intro acc U hU hc ha hl hK
  show K .nx U _
  exact hK U (.inl ⟨rfl,rfl⟩)
 | cons c r ih=>
  intro acc U hU hc ha hl hK
  have h:=hc c (.head _)
  rw [List.length_cons] at hl
  have h2:=gy (prC c) acc
  have h3:=gL c
  have hs:PyData.strOk c.proto=true:=h.sp
  have ha':(bR acc (prC c)).all PyData.strOk=true:=f6 ha (by unfold prC;split <;> simp [hs])
  have main:=tL (v:=v) h ha (by omega) (U':=U428 e ms [("one",.d (cpD c))]) (K:=fun fl U' Z'=>match fl with
   | .nx=>bq (stp 29 f8 P 428 1) ((r.map cpD).map .d) U' Z' K
   | .ct=>bq (stp 29 f8 P 428 1) ((r.map cpD).map .d) U' Z' K
   | .br=>K .nx U' Z'
   | .rt v=>K (.rt v) U' Z') (ih _ _ (.inr ⟨_,rfl⟩) (fun x hx=>hc x (.tail _ hx)) ha' (by omega) fun U' hU'=>hK U' (.inr (hU'.elim (fun z=>⟨_,z.2⟩) id)))
  show stp 29 f8 P 428 1 (.d (cpD c)) U _ _
  clear hK;rcases hU with rfl | ⟨y,rfl⟩
  · rw [AC];exact main
  · rw [AB];exact main
noncomputable def y6  : au:=mkS (pC (pD pF) (pC (pD pA) (pC (pD (pL pA)) pN))) pN fun (fs,e,ms,_) _ Q E=>∃ (v:EV) (cs:List CP),fs=FLD/\ms=cs.map cpD/\dj v cs e/\Q (.d (.bb true)) []
theorem HG {w:World} {base:Heap} (W:Wd w base):aU w base 428 11 y6:=by
 have lp:LOk w base 10 FK:=LOk.cons ((Fa W).mono (by decide)) (BH _) (LOk.cons ((zG W).mono (by decide)) (x9 _) (LOk.cons (HS W 8) (EI _) (LOk.cons ((HT W).mono (by decide)) (Hp _) (LOk.cons ((E3 W).mono (by decide)) (Ez _) LOk.nil))))
 refine pW W (LOk.so (fz:=fun _=>[]) (fg:=fun _=>[]) lp) false (H4 w) (IR _) 30 fun vs Z Q E q=>?_
 replace q:=aB q
 obtain ⟨zz,_,e1,e2,q⟩:=q;obtain ⟨fs,e,ms,_⟩:=zz
 obtain rfl:=(show vs=[.d (.di fs),.d e,.d (.li ms)] from e1);obtain rfl:=(show Z=[] from e2)
 dsimp only at q
 obtain ⟨v,cs,rfl,rfl,T,q⟩:=q
 refine ⟨rfl,?_⟩
 show vcf f8 30 w.params 428 qH false [.d (.di FLD),.d e,.d (.li (cs.map cpD))] [] Q E
 rw [Dv]
 refine rZ w.params cs [] _ (.inl rfl) T.hc rfl (by have:=T.h3;simp;omega) fun U' hU'=>?_
 have hne:cs≠[]:=fun h=>by have:=T.h1;rw [h] at this;contradiction
 rcases hU' with ⟨h,_⟩ | ⟨y,rfl⟩
 · exact absurd h hne
 match cs,T,hne with
 | [c1],T,_=>
  show cx 30 f8 w.params 428 2 _ _ .nx (U428 e [cpD c1] _) _
  rw [yt]
  exact mc T (c:=c1) (by simp) (fun y hy=>eD (cs:=[]) (f7 hy)) q
 | [c1,c2],T,_=>
  show cx 30 f8 w.params 428 2 _ _ .nx (U428 e [cpD c1,cpD c2] _) _
  rw [yr]
  exact mc T (c:=c1) (by simp) (fun y hy=>eD (cs:=[c2]) (f7 hy)) q
 | [c1,c2,c3],T,_=>
  show cx 30 f8 w.params 428 2 _ _ .nx (U428 e [cpD c1,cpD c2,cpD c3] _) _
  rw [yq]
  exact mc T (c:=c1) (by simp) (fun y hy=>eD (cs:=[c2,c3]) (f7 hy)) q
 | _::_::_::_::_,T,_=>have:=T.h3;simp at this
end Mine
namespace Mine
open PySem PySem.W PyProof.Rows PySem.SeqAt
theorem pO {c:Code} {p:Pos} {l:List (Code×Pos)} (h:guardsOf ((c,p)::l)=[]):c.isGuard=false/\guardsOf l=[]:=by
 rw [guardsOf_cons] at h
 obtain ⟨h1,h2⟩:=List.append_eq_nil_iff.mp h
 refine ⟨?_,h2⟩
 cases hg:c.isGuard with
 | false=>rfl
 | true=>simp [Code.guards,hg] at h1
theorem q9 {v:Value} {c:Code} {p:Pos} (hg:c.isGuard=false) (hd:sU c=false):(match (c,p) with
  | (.builtin "bytearray.__contains__" ⟨v'::_,_⟩,_) | (.builtin "bytearray.__mod__" ⟨v'::_,_⟩,_)
  | (.builtin "bytearray.__rmod__" ⟨_::v'::_,_⟩,_) | (.builtin "_struct.pack_into.held" ⟨v'::_,_⟩,_)=>Builtin.Bytes.sameRef v' v
  | (.builtin "bytearray.find.held" ⟨_::_::held,_⟩,_)=>held.any (Builtin.Bytes.sameRef v)
  | (.builtin id ⟨v'::_,_⟩,_)=>Builtin.Bytes.sameRef v' v&&Builtin.Bytes.decodersThatHold.contains id
  | _=>false)=false:=by
 cases c with
 | builtin id args=>
  have no:∀ s:String,(Code.builtin s ⟨[],[]⟩).isGuard=true->id≠s:=fun s h e=>by subst e;exact Bool.noConfusion (hg.symm.trans h)
  delta q9.match_1
  show dite _ _ _=false
  refine (dif_neg (no _ (by decide +kernel))).trans ?_
  refine (dif_neg (no _ (by decide +kernel))).trans ?_
  refine (dif_neg (no _ (by decide +kernel))).trans ?_
  refine (dif_neg (no _ (by decide +kernel))).trans ?_
  refine (dif_neg (no _ (by decide +kernel))).trans ?_
  obtain ⟨pos,kw⟩:=args
  cases pos with
  | nil=>rfl
  | cons a r=>
   unfold sU at hd;simp only at hd
   show (Builtin.Bytes.sameRef a v&&_)=false
   rw [hd,Bool.and_false]
 | _=>rfl
section
variable {α β:Type} {M:Model} {A:Around} {E:Value->Shared->Prop} {s:Shared}
theorem lY {v:Value} {Q:Bool->Shared->Prop} (hg:A.guards=some []) (q:Q false s):wpK M A (Builtin.Bytes.exported v) Q E s:=fun Γ p hi hn=>by
 unfold Builtin.Bytes.exported
 have hl:guardsOf ((Γ.code,p)::Γ.below)=[]:=by rw [guardsOf_cons];exact hi.2.2.2.1 [] hg
 have hd:NdL ((Γ.code,p)::Γ.below):=fun x hx=>by
  rcases List.mem_cons.mp hx with rfl | hx
  · exact hn.1
  · exact hn.2 x hx
 have key:∀ {f:Code×Pos->Bool},(∀ c p,c.isGuard=false->sU c=false->f (c,p)=false)->∀ {l:List (Code×Pos)},guardsOf l=[]->NdL l->l.any f=false:=by
  intro f hf l
  induction l with
  | nil=>intro _ _;rfl
  | cons x l ih=>
   obtain ⟨c,p⟩:=x
   intro h1 h2
   obtain ⟨g1,g2⟩:=pO h1
   rw [List.any_cons,hf c p g1 (h2 _ (.head _)),ih g2 fun y hy=>h2 y (.tail _ hy)];rfl
 show Q (((Γ.code,p)::Γ.below).any _) s
 rw [key (fun c p h1 h2=>q9 (v:=v) h1 h2) hl hd]
 exact q
end
theorem tE {M:Model} {A:Around} {E:Value->Shared->Prop} {s:Shared} {a:Addr} {b:Array UInt8} {f:Array UInt8->Array UInt8} {Q:Unit->Shared->Prop} (h:s.heap.get? a=some (baO b 0)) (hz:(f b).size<=sizeLine)
  (q:Q () {s with heap:=s.heap.update a (Obj.mapBytearray f)}):wpAny M A (updateBytearray a f) Q E s:=by
 unfold updateBytearray
 refine wpAny_bind (wpAny_load h ?_)
 show wpAny _ _ (update a (Obj.mapBytearray f)>>=_) _ _ _
 refine wpAny_bind (wpAny_update h ?_)
 refine wpAny_lookBehind (Heap.get?_update_self _ h rfl) ?_ q
 show (if (f b).size > sizeLine then some "bytearray:memory" else none)=none
 rw [if_neg (Nat.not_lt.mpr hz)]
theorem i8:isSubtype (.type "bytes") (.type "bytes")=pure true:=by rw [isSubtype_type];kernel_rfl
theorem kP:typeLookup (.type "bytearray") "__release_buffer__"=pure (some (.builtin "bytearray.__release_buffer__")):=by rw [typeLookup_type,builtinLookup_eq_fast];kernel_rfl
theorem iq:typeLookup (.type "bytes") "__release_buffer__"=pure none:=by rw [typeLookup_type,builtinLookup_eq_fast];kernel_rfl
theorem jQ:typeLookup (.type "bytes") "__index__"=pure none:=by rw [typeLookup_type,builtinLookup_eq_fast];kernel_rfl
theorem cY:typeLookup (.type "bytes") "__buffer__"=pure (some (.builtin "bytes.__buffer__")):=by rw [typeLookup_type,builtinLookup_eq_fast];kernel_rfl
theorem fO:isSubtype (.type "bytearray") (.type "bytearray")=pure true:=by rw [isSubtype_type];kernel_rfl
section
variable {M:Model} {A:Around} {E:Value->Shared->Prop} {s:Shared}
theorem cN {v:Value} {T:String} {n:Str} {r:Option Value} {Q:Option Value->Shared->Prop} (hT:s.TypeIs v T) (hl:typeLookup (.type T) n=pure r) (q:Q r s):wpAny M A (specialOf v n) Q E s:=by
 unfold specialOf
 exact wpAny_bind (wpAny_typeOf hT (wpAny_of_eq hl q))
theorem Br {a:Addr} {b:Array UInt8} {n:Nat} {Q:Bool->Shared->Prop} (h:s.heap.get? a=some (baO b n)) (q:Q false s):wpAny M A (Builtin.Bytes.ownRelease (.ref a)) Q E s:=by
 have hT:s.TypeIs (.ref a) "bytearray":=⟨_,h,rfl⟩
 unfold Builtin.Bytes.ownRelease Builtin.Bytes.slotIsOwn
 refine wpAny_bind (wpAny_bind (cN hT kP ?_))
 have h1:(!("bytearray.__release_buffer__".endsWith ("."++"__release_buffer__")))=false:=by decide +kernel
 have h2:"bytearray.__release_buffer__".dropRight ("__release_buffer__".length+1)="bytearray":=by decide +kernel
 dsimp only
 rw [h1,h2]
 show wpAny _ _ (isInstance (.ref a) (.type "bytearray")) _ _ _
 exact wpAny_isInstance hT fO (wpAny_pure q)
theorem sh {b:Array UInt8} {t:Tok} {Q:Bool->Shared->Prop} (q:Q false s):wpAny M A (Builtin.Bytes.ownRelease (.bytes b t)) Q E s:=by
 have hT:s.TypeIs (.bytes b t) "bytes":=rfl
 unfold Builtin.Bytes.ownRelease Builtin.Bytes.slotIsOwn
 refine wpAny_bind (wpAny_bind (cN hT iq ?_))
 exact wpAny_pure (wpAny_pure q)
end
section
variable {prog:Program} {w:World} {A A':Around} {E:Value->Shared->Prop} {s:Shared} {R:Result->Shared->Prop}
theorem yf {a:Addr} {b:Array UInt8} {t:Tok} (hg:A'.guards=some []) (h:s.heap.get? a=some (baO #[] 0)) (hz:b.size<=sizeLine)
  (q:∀ h',h'.get? a=some (baO b 0)->Heap.SameBut a s.heap h'->R (.ok (.ret .none)) {s with heap:=h'}):wpK (model prog w) A' (Builtin.«bytearray.__init__» ⟨[.ref a,.bytes b t],[]⟩) (yW (model prog w) A R) (fun e s'=>R (.error e) s') s:=by
 exists prog,w,A,A',s,R,a,b,t,_ hg h hz q
 unfold Builtin.«bytearray.__init__»
 show wpK _ _ (Builtin.Bytes.ownRelease (.ref a)>>=_) _ _ _
 refine aI (Br h ?_)
 show wpK _ _ (Builtin.Bytes.bindOptional _ _ _ _ _>>=_) _ _ _
 refine aI (wpAny_of_eq (a:=[some (.bytes b t),none,none]) (by rfl) ?_)
 refine aI (wpAny_of_eq (a:=()) (by rfl) ?_)
 refine aI (wpAny_of_eq (a:=()) (by rfl) ?_)
 refine aY ?_
 show wpK _ _ (Builtin.Bytes.exported (.ref a)>>=_) _ _ _
 refine aY (lY hg ?_)
 show wpK _ _ (Builtin.Bytes.exportsOf (.ref a)>>=_) _ _ _
 refine aI ?_
 unfold Builtin.Bytes.exportsOf
 refine wpAny_bind (wpAny_load h (wpAny_pure ?_))
 refine bu ?_
 show wpK _ _ (updateBytearray a _>>=_) _ _ _
 refine aI (tE h (by decide) ?_)
 have h1:=Heap.get?_update_self (Obj.mapBytearray fun _=>(#[]:Array UInt8)) h rfl
 show wpK _ _ (asStr? (.bytes b t)>>=_) _ _ _
 refine aI (wpAny_of_eq (a:=none) (by rfl) ?_)
 show wpK _ _ (pure ()>>=_) _ _ _
 refine aY (bu ?_)
 show wpK _ _ (specialOf (.bytes b t) "__index__">>=_) _ _ _
 refine aI (cN (T:="bytes") rfl jQ ?_)
 show wpK _ _ (Builtin.Bytes.buffer? _ _ _>>=_) _ _ _
 refine aI ?_
 unfold Builtin.Bytes.buffer?
 refine wpAny_bind (cN (T:="bytes") rfl cY ?_)
 show wpAny _ _ (Builtin.Bytes.slotIsOwn (.bytes b t) "__buffer__">>=_) _ _ _
 refine wpAny_bind ?_
 unfold Builtin.Bytes.slotIsOwn
 refine wpAny_bind (cN (T:="bytes") rfl cY ?_)
 have h2:(!("bytes.__buffer__".endsWith ("."++"__buffer__")))=false:=by decide +kernel
 have h3:"bytes.__buffer__".dropRight ("__buffer__".length+1)="bytes":=by decide +kernel
 dsimp only
 rw [h2,h3]
 show wpAny _ _ (isInstance (.bytes b t) (.type "bytes")) _ _ _
 refine wpAny_isInstance (T:="bytes") rfl i8 ?_
 show wpAny _ _ (specialOf (.bytes b t) "__buffer__">>=_) _ _ _
 refine wpAny_bind (cN (T:="bytes") rfl cY ?_)
 show wpAny _ _ (Builtin.Bytes.ownRelease (.bytes b t)>>=_) _ _ _
 refine wpAny_bind (sh ?_)
 show wpAny _ _ (Builtin.Bytes.payload (.bytes b t)>>=_) _ _ _
 refine wpAny_bind (wpAny_of_eq (a:=b) (by rfl) (wpAny_pure ?_))
 refine aI (wpAny_rule ?_)
 show wpK _ _ (updateBytearray a _>>=_) _ _ _
 refine aI (tE h1 hz ?_)
 refine bu (q _ (Heap.get?_update_self _ h1 rfl) ((Heap.SameBut.update ..).trans (Heap.SameBut.update ..)))
end
end Mine
namespace Mine
open PySem PySem.W PyProof.Rows PySem.SeqAt
theorem cF:Slot "bytearray" "__init__" "bytearray.__init__":=
 .of (owner:="bytearray") (n:="__init__") (by rw [typeLookup_type,builtinLookup_eq_fast];kernel_rfl) (by decide +kernel) (by decide +kernel) (by decide +kernel)
  (by first | exact .inl (by decide +kernel) | exact .inr (by decide +kernel)) (by rw [isSubtype_type];kernel_rfl)
theorem kT:entryFor table "bytearray.__init__"=some Builtin.«bytearray.__init__»:=entryFor_of_tree (by kernel_rfl)
theorem nc (a b:Value):argsOk "bytearray.__init__" ⟨[a,b],[]⟩:=by
 unfold argsOk;rw [signature?_of (id:="bytearray.__init__") (n:=['_','_','t','i','n','i','_','_']) (o:=['y','a','r','r','a','e','t','y','b']) (by kernel_rfl) gP];kernel_rfl
theorem pG:mroOf (.type "bytearray")=pure [.type "bytearray",.type "object"]:=by rw [mroOf_type];kernel_rfl
theorem sk:typeLookup (.type "bytearray") "__new__"=pure (some (.builtin "bytearray.__new__")):=by rw [typeLookup_type,builtinLookup_eq_fast];kernel_rfl
theorem iH:TypeCalled "bytearray" "bytearray.__new__" "bytearray.__init__":=
 ⟨by decide +kernel,by decide +kernel,⟨_,_,pG⟩,madeBy_type pG sk (by decide +kernel),by decide +kernel,fO,cF⟩
theorem tH (a:Value):checkTypeCall "bytearray" ⟨[a],[]⟩=pure ():=by kernel_rfl
theorem pE (a:Value):checkBuiltinCall "bytearray.__new__" ⟨[.type "bytearray",a],[]⟩=pure ():=by kernel_rfl
theorem mR:entryFor table "bytearray.__new__"=some Builtin.«list.__new__»:=
 entryFor_alias (id':="list.__new__") (by kernel_rfl) (by first | rfl | decide +kernel | (unfold String.splitOn;simp +decide [String.splitOnAux])) (by decide +kernel) (by kernel_rfl)
theorem gN:plainId "bytearray.__new__"=true:=by decide +kernel
set_option maxRecDepth 1000000 in
set_option maxHeartbeats 4000000 in
theorem mj:("bytearray.__new__".splitOn ".__new__").headD ""="bytearray":=by simp +decide [String.splitOn,String.splitOnAux]
section
variable {prog:Program} {w:World} {A:Around} {E:Value->Shared->Prop} {s:Shared} {R:Result->Shared->Prop}
theorem oy (a:Value) (h:R (.ok (.ret (.ref s.heap.objs.size))) {s with heap:=s.heap.push (baO #[] 0)}):
  codeAny (model prog w) A (.call (.builtin "bytearray.__new__") ⟨[.type "bytearray",a],[]⟩) R s:=by
 refine codeAny_of_tree ?_
 show wpAny _ A.in1 (do checkBuiltinCall "bytearray.__new__" ⟨[.type "bytearray",a],[]⟩;again (.builtin "bytearray.__new__" ⟨[.type "bytearray",a],[]⟩)) _ _ s
 refine wpAny_bind (wpAny_of_eq (pE a) (wpAny_pure ⟨plainId_quiet gN _,codeAny_builtin_stack mR rfl fun p st=>?_⟩))
 rw [Around.under_plainId gN _]
 have hsub:=fO
 have hown:=mj
 obtain ⟨hp,g,d,tk,os⟩:=s
 simp only [hown]
 wp_walk
 exact h
theorem oE {id:String} {args:Args} {b:Builtin} (hd:Builtin.Bytes.decodersThatHold.contains id=false) (hb:entryFor table id=some b)
  (h:wpK (model prog w) (A.under (.builtin id args)) (b args) (yW (model prog w) A R) (fun e s'=>R (.error e) s') s):dF (model prog w) A (.builtin id args) R s:=by
 refine cw hd ?_
 show wpK _ _ (match entryFor table id with | some b=>b args | none=>unsupported ((withoutEnding? id "#data").getD id)) _ _ s
 rw [hb];exact h
theorem wH {b:Array UInt8} {t:Tok} (hg:A.guards=some []) (hz:b.size<=sizeLine)
  (q:∀ h',h'.get? s.heap.objs.size=some (baO b 0)->(∀ b o,s.heap.get? b=some o->h'.get? b=some o)->R (.ok (.ret (.ref s.heap.objs.size))) {s with heap:=h'}):
  dF (model prog w) A (.call (.type "bytearray") ⟨[.bytes b t],[]⟩) R s:=by
 exists prog,w,A,s,R,b,t,_ hg hz q
 refine cw rfl (bu ⟨Code.quiet_builtin _ (by decide +kernel),oE (by decide +kernel) F.entry_type_call ?_⟩)
 rw [Around.under_plain (weight_type_call_type "bytearray" [.bytes b t] []) (units_type_call_type "bytearray" [.bytes b t] [])]
 unfold Builtin.«type.__call__»
 have h1:=iH.notType
 have h2:=iH.canCreate
 dsimp only
 rw [if_neg (by rw [h1];decide),if_neg (by rw [h2];decide)]
 refine aI (wpAny_of_eq (tH _) ?_)
 refine aI (wpAny_of_eq pG ?_)
 rw [if_neg (by decide)]
 refine aI (wpAny_of_eq iH.made ?_)
 refine aY (bu ?_)
 refine aY (bU (dY (oA (oy _ ?_))))
 have g0:(s.heap.push (baO #[] 0)).get? s.heap.objs.size=some (baO #[] 0):=Heap.get?_push_size _ rfl
 have hT:Shared.TypeIs {s with heap:=s.heap.push (baO #[] 0)} (.ref s.heap.objs.size) "bytearray":=⟨_,g0,rfl⟩
 refine aI (wpAny_isInstance hT fO ?_)
 rw [if_neg (by decide)]
 refine aY (bU ?_)
 unfold callSpecial?
 refine aI (cN hT cF.lookup ?_)
 refine bU (aI (wpAny_of_eq (cF.bind _) ?_))
 refine aY (dY ?_)
 have hp:=cF.plain
 refine ge (plainId_quiet hp _) (by decide +kernel) kT (cF.check _ _ _ _ _ _ _ _ hT (nc _ _) ?_)
 rw [Around.under_plainId hp]
 refine yf (A':=A.in1.in1) (A:=A.in1) hg g0 hz fun h' e hs=>?_
 refine bu (bu (q h' e fun b o hb=>?_))
 have hne:b≠s.heap.objs.size:=fun z=>Nat.lt_irrefl _ (z▸Heap.lt_size hb)
 exact (hs.2 b hne).trans (Heap.get?_push_of_some _ hb)
end
end Mine
namespace Mine
open PySem PySem.W PyProof.Rows PySem.SeqAt
section
variable {prog:Program} {w:World} {A:Around} {E:Value->Shared->Prop} {R:Result->Shared->Prop} {h:Heap} {g:Array GenState} {d:Drawn} {t:Nat} {os:OsState}
theorem qj {K:Frag} {C fI:Addr} {rest:List Value} (X:K.In h) (hm:makesIn K C=true) (hi:findIn K (.ref C) "__init__"=some (some (.ref fI))) (hf:typeIn K (.ref fI)=some (.type "function"))
  (hq:dF (model prog w) (A.under (.builtin "type.__call__" ⟨.ref C::rest,[]⟩)) (.call (.ref fI) ⟨.ref (h.objs.size+1)::rest,[]⟩) (InitBack (h.objs.size+1) R) ⟨(h.push emptyDict).push (instObj C h.objs.size),g,d,t,os⟩):
  dF (model prog w) A (.call (.ref C) ⟨rest,[]⟩) R ⟨h,g,d,t,os⟩:=by
 have Y:=makes_of (M:=model prog w) X hm
 have Y':=Y
 obtain ⟨zz,made,base,self,top,call,typ⟩:=Y;obtain ⟨oc,od,cd,sl,hC,e1,e2,e4⟩:=zz
 refine cw rfl (ib ?_)
 show wpAny _ _ (callAny (.ref C) _) _ _ _
 unfold callAny
 refine wpAny_bind (wpAny_load hC ?_)
 show wpAny _ _ (callAny.viaDunder (.ref C) _) _ _ _
 unfold callAny.viaDunder
 refine wpAny_bind (call.at ?_)
 dsimp only
 rw [tc_bind]
 refine wpAny_bind (wpAny_pure (wpAny_bind (wpAny_pure ?_)))
 refine wpAny_pure (a:=Fin.again (.call (.builtin "type.__call__") ⟨.ref C::rest,[]⟩)) (And.intro rfl ?_)
 refine ge (Code.quiet_builtin _ (by decide +kernel)) (by decide +kernel) entry_typeCall (check_slot tc_kind tc_split typ (tc_args _ _ _) ?_)
 unfold Builtin.«type.__call__»
 dsimp only
 rw [if_neg (show ¬ ((Value.ref C==Value.type "type")=true) from by simp)]
 have hmro:Looks (model prog w) h (mroOf (.ref C)) cd.mro:=((Looks.ld (part:=none) hC).andThen .now).andThen .now
 refine aI (hmro.at ?_)
 rw [if_neg (by rw [e4];decide)]
 refine aI (made.at ?_)
 refine aY (bu ?_)
 refine aY (bU (dY (oA (new_K Y' (looks_findIn X hi) (.inl rfl) ?_))))
 have k:∀ b o,h.get? b=some o->((h.push emptyDict).push (instObj C h.objs.size)).get? b=some o:=fun b o e=>Heap.get?_push_of_some _ (Heap.get?_push_of_some _ e)
 have hx:((h.push emptyDict).push (instObj C h.objs.size)).get? (h.objs.size+1)=some (instObj C h.objs.size):=by heap_get
 have t1:Looks (model prog w) ((h.push emptyDict).push (instObj C h.objs.size)) (typeOf (.ref (h.objs.size+1))) (.ref C):=(Looks.ld hx).andThen .now
 have s1:Looks (model prog w) ((h.push emptyDict).push (instObj C h.objs.size)) (isInstance (.ref (h.objs.size+1)) (.ref C)) true:=t1.andThen (self.keeps k)
 refine aI (s1.at ?_)
 rw [if_neg (by decide)]
 refine aY (bU ?_)
 unfold callSpecial?
 have i1:Looks (model prog w) ((h.push emptyDict).push (instObj C h.objs.size)) (specialOf (.ref (h.objs.size+1)) "__init__") (some (.ref fI)):=t1.andThen ((looks_findIn X hi).keeps k)
 refine aI (i1.at ?_)
 refine bU (aI (((bind_fn X (.ref (h.objs.size+1)) hf).keeps k).at ?_))
 refine aY (dY (kj hq fun r s' z=>?_))
 cases r with
 | error e=>exact z
 | ok f=>
  cases f with
  | ret v=>
   obtain ⟨rfl,z⟩:=z
   exact bu (bu z)
  | _=>exact z.elim
end
end Mine
namespace Mine
open PySem PySem.W PyProof.Rows PySem.SeqAt
section
variable {α β:Type} {M:Model} {A:Around} {E:Value->Shared->Prop} {s:Shared} {env:Env}
theorem js {st:Stmt} {r:List Stmt} {Q:Flow->Shared->Prop} (h:wpK M A (exec st env) (fun f s'=>match f with | .next=>wpK M A (execs r env) Q E s' | f=>Q f s') E s):wpK M A (execs (st::r) env) Q E s:=by
 rw [execs_cons]
 refine aY (gE h (fun f s' h'=>?_) fun _ _ x=>x)
 cases f with
 | next=>exact h'
 | _=>exact bu h'
theorem i6 {x:Str} {pos' pos:Pos} {value:Expr} {Q:Flow->Shared->Prop} (h:wpK M A (eval value env) (fun v s₁=>wpAny M A (storeName env x v) (fun _=>Q .next) E s₁) E s)
  (hs:swapsWith value (some (.Name x pos')) pos.line env=pure false):wpK M A (exec (.Assign [.Name x pos'] value pos) env) Q E s:=fun Γ p hi hn=>by
 simp only [exec_Assign_Name env x pos' value pos hs,Sem.wp_bind',Sem.wp_cmd_standAt,Sem.wp_bindName,Sem.wp_pure']
 exact Sem.wp_mono M Γ _ (fun v _ s₁ h₁=>h₁ Γ _ hi) (fun _ _ _ h'=>h') _ _ (h Γ _ hi hn)
theorem i7 {o:Expr} {attr:Str} {pos' pos:Pos} {value:Expr} {Q:Flow->Shared->Prop} (h:wpK M A (eval value env) (fun v s₁=>wpAny M A (eval o env) (fun ov s₂=>wpAny M A (setAttr ov attr v) (fun _=>Q .next) E s₂) E s₁) E s)
  (hs:swapsWith value (some (.Attribute o attr pos')) pos.line env=pure false):wpK M A (exec (.Assign [.Attribute o attr pos'] value pos) env) Q E s:=fun Γ p hi hn=>by
 simp only [plainObj_exec_Assign_Attribute o attr pos' value pos hs,assign_Attribute,Sem.wp_bind',Sem.wp_holding,Sem.wp_cmd_standAt,Sem.wp_release,Sem.wp_pure']
 exact Sem.wp_mono M Γ _ (fun v p₁ s₁ h₁=>Sem.wp_mono M Γ _ (fun ov _ s₂ h₂=>h₂ Γ _ hi) (fun _ _ _ h'=>h') _ _ (h₁ Γ p₁ hi)) (fun _ _ _ h'=>h') _ _ (h Γ _ hi hn)
theorem lZ {P:Heap->Prop} {pos:Pos} {f:Value} {args:List (Bool×Sem Value)} {Q:Value->Shared->Prop} (hplain:args.any (·.1)=false)
  (hk:∀ h,P h->∃ k,(k=Keeper.frame\/k=Keeper.machine\/k=Keeper.boundFrame)/\Looks M h (keeperOf f) k)
  (h:wpAny M A (evalArgs f true args []) (fun a s₁=>P s₁.heap/\wpK M A (call f a.pos a.kw) Q E s₁) E s):wpK M A (callWith pos f [] args []) Q E s:=by
 unfold callWith
 refine aI (wpAny_holding (wpAny_mono h (fun a s₁ h₁=>aI (wpAny_standAt ?_)) fun _ _ x=>x))
 obtain ⟨k,hk',L⟩:=hk _ h₁.1
 have hp:(args.any (·.1)||([]:List (Option Str×Sem Value)).any (·.1.isNone))=false:=by rw [hplain];rfl
 rw [hp]
 refine aI (L.here ?_)
 have tail:∀ {t:Sem Value},wpK M A t Q E s₁->wpK M A (t>>=fun r=>holding [r] point>>=fun _=>pure r) Q E s₁:=
  fun ht=>aY (gE ht (fun r s₂ hr=>aY (bU (ib (wpAny_point (bu hr))))) fun _ _ x=>x)
 have marked (mk:Value):wpK M A (callMarked mk f ([]++a.pos) a.kw) Q E s₁:=by unfold callMarked;exact tc h₁.2
 clear L;rcases hk' with rfl | rfl | rfl
 · dsimp only
   split
   · exact tail h₁.2
   · exact tail (marked _)
 · exact tail h₁.2
 · dsimp only
   split
   · exact tail h₁.2
   · exact tail (marked _)
end
noncomputable abbrev noE:Str->List aa->Prop:=fun _ _=>False
noncomputable def cB (w:World) (base:Heap) (fx:Fx) (U:Mine.Loc) (G:PH) (O:Fp) (Z:List aa) (t:Sem Flow) (Q:QF):Prop:=
 ∀ (s:Shared),St w base fx G O Z U s.heap->∀ (QQ:Flow->Shared->Prop) (EE:Value->Shared->Prop),
  SQ w base fx G O s Q QQ->wpK (model PR w) fx.A t QQ EE s
noncomputable def ez (w:World) (base:Heap) (f:Value) (n:Nat) (sp:au):Prop:=
 ∀ (A:Around) (stk:List Env) (G:PH) (O:Fp) (Z:List aa) (vs:List V) (cs:List Value) (s:Shared) (Q:V->List aa->Prop) (QQ EE:Value->Shared->Prop),
  A.handled=none->A.frames=some stk->A.guards=some []->A.depth+4*n+4<recursionLimit->A.units+200*n+200<cLine->
  s.heap.FunFrames base stk->(∀ b∈stk.filterMap (·.frame),b∉O.flatten/\G b=none)->
  Sim w base G O Z s.heap->VRs w G O vs cs->sp vs Z Q noE->
  CQ w base stk G O s Q QQ->
  wpK (model PR w) A (call f cs) QQ EE s
section
variable {w:World} {base:Heap} {fx:Fx} {U:Mine.Loc} {G:PH} {O:Fp} {Z:List aa} {Q:QF} {n:Nat} {N:aC} {J:Ev}
theorem cB.of {t:Sem Flow} (d:bT w base fx U G O Z t Q noE):cB w base fx U G O Z t Q:=fun s S QQ EE hq=>ib (d s S QQ EE hq fun _ _ _ _ _ _ _ _ _ _ _ q=>q.elim)
noncomputable def zn (w:World) (base:Heap) (fx:Fx) (r:List Stmt) (Q:QF):QF:=fun fl U' Z'=>match fl with
 | .nx=>∀ G' O',cB w base fx U' G' O' Z' (execs r fx.env) Q
 | fl=>Q fl U' Z'
theorem cB.cons {st:Stmt} {r:List Stmt} (d:cB w base fx U G O Z (exec st fx.env) (zn w base fx r Q)):cB w base fx U G O Z (execs (st::r) fx.env) Q:=fun s S QQ EE hq=>by
 refine js (d s S _ _ fun G' O' Z' U' fl f h' tk x S' rf q=>?_)
 cases fl with
 | nx=>
  unfold FlR at rf;subst rf
  exact q G' O' _ S' QQ EE fun G2 O2 Z2 U2 fl2 f2 h2 tk2 x2 S2 rf2 q2=>hq G2 O2 Z2 U2 fl2 f2 h2 tk2 (x.trans x2) S2 rf2 q2
 | ct=>have rf':=rf;unfold FlR at rf';subst rf';exact hq G' O' Z' U' .ct _ h' tk x S' rf q
 | br=>have rf':=rf;unfold FlR at rf';subst rf';exact hq G' O' Z' U' .br _ h' tk x S' rf q
 | rt v=>
  have rf':=rf
  unfold FlR at rf'
  obtain ⟨c,rfl,_⟩:=rf'
  exact hq G' O' Z' U' (.rt v) _ h' tk x S' rf q
noncomputable def vJ:V->Bool
 | .ref k=>Nat.beq k 0
 | _=>false
theorem yc {v:V} (h:vJ v=true):v=.ref 0:=by
 cases v with
 | ref k=>exact congrArg V.ref (Nat.eq_of_beq_eq_true h)
 | _=>exact aX h
noncomputable def wT (Z:List aa) (Q:QV) (v:V):List aa->Prop
 | []=>(dV v).elim False fun x=>Q (.d x) Z
 | cn::r=>cond (r.isEmpty&&vJ v) (Q (.ref Z.length) (Z++[cn])) False
theorem sS {cf:Value} {sp:au} {vs:List V} {cs:List Value} {Q:V->List aa->Prop} (ok:aE base n fx) (hg:fx.A.guards=some []) (f:ez w base cf n sp) (r:VRs w G O vs cs) (ha:de vs=true)
  (q:sp vs [] (wT Z Q) noE) {s:Shared} (S:St w base fx G O Z U s.heap) {QQ EE:Value->Shared->Prop}
  (hq:KQ w base fx U G O s (VR w) Q QQ):wpK (model PR w) fx.A (call cf cs) QQ EE s:=by
 have S1:Sim w base G [] [] s.heap:=⟨S.bs,S.sub,rfl,List.nodup_nil,fun a ha=>by simp at ha⟩
 refine f fx.A fx.stk G [] [] _ cs s _ QQ EE ok.hand ok.frames hg ok.depth ok.units S.ff (fun b hb=>⟨by simp,(S.fo b hb).2⟩) S1 (dI ha r) q ?_
 intro G' O' Z' v c1 h' tk x S' F fo rv qv
 cases Z' with
 | nil=>cases hv:dV v with
  | none=>replace qv:(dV v).elim False _:=qv;rw [hv] at qv;exact qv.elim
  | some y=>
  replace qv:(dV v).elim False _:=qv
  rw [hv] at qv
  cases iX hv
  clear hv
  have cn:=S'.cells
  unfold aq at cn;subst cn
  obtain ⟨St',x'⟩:=S.after0 x S' F fo
  rw [List.append_nil,List.append_nil] at St'
  rw [List.append_nil] at x'
  exact hq G' _ _ (.d y) c1 h' tk x' St' (by unfold VR at rv ⊢;exact rv) qv
 | cons cn' r=>cases r with
  | cons _ _=>exact (show False from qv).elim
  | nil=>cases hv:vJ v with
   | false=>replace qv:cond (vJ v) _ _:=qv;rw [hv] at qv;exact qv.elim
   | true=>
  replace qv:cond (vJ v) _ _:=qv
  rw [hv] at qv
  cases yc hv
  clear hv
  obtain ⟨fq,ex,rfl,_,cn⟩:=S'.cells
  have cn2:=cn
  unfold aq at cn2;clear cn;subst cn2
  obtain ⟨St',x'⟩:=S.after0 x S' F fo
  refine hq G' _ _ (.ref Z.length) c1 h' tk x' St' ?_ qv
  unfold VR at rv ⊢
  have hl:=S.cells.len
  refine ⟨by simp [hl],fun a r e=>rv.2 a r ?_⟩
  rw [<- hl,List.getElem?_append_right (Nat.le_refl _)] at e
  simpa using e
end
end Mine
namespace Mine
open PySem PySem.W PyProof.Rows PySem.SeqAt
noncomputable def iZ (J:Ev) (N:aC) (f:Expr) (args:List Expr) (cf:Value) (sp:au) (U:Mine.Loc) (Z:List aa) (Q:QV):Prop:=
 J.ev N f U Z (fun fv Z1=>fv=.d (.gl cf)/\hB (J.ev N) args U Z1 (fun vs Z2=>de vs=true/\sp vs [] (wT Z2 Q) noE) noE) noE
section
variable {w:World} {base:Heap} {fx:Fx} {U:Mine.Loc} {G:PH} {O:Fp} {Z:List aa} {n:Nat} {N:aC} {J:Ev}
theorem lS (W:Wd w base) (I:aV w base n J) (ok:aE base n fx) (hN:FxN fx N) (hg:fx.A.guards=some []) {cf:Value} {sp:au} (hc:ez w base cf n sp)
  (hk:∀ h,(MineH.hd.heap_1 w.params).In h->∃ k,(k=Keeper.frame\/k=Keeper.machine\/k=Keeper.boundFrame)/\Looks (model PR w) h (keeperOf cf) k) {f:Expr} {args:List Expr} {pos:Pos} (hf:eP f=false) (hs:dR args=true) {Q:QV}
  (q:iZ J N f args cf sp U Z Q) {s:Shared} (S:St w base fx G O Z U s.heap) {QQ EE:Value->Shared->Prop}
  (hq:KQ w base fx U G O s (VR w) Q QQ):wpK (model PR w) fx.A (eval (.Call f args [] pos) fx.env) QQ EE s:=by
 rw [e8 hf]
 refine aI (I.ev ok hN q s S _ _ (fun G1 O1 Z1 fv c1 h1 tk1 x1 S1 r1 q1=>?_) fun _ _ _ _ _ _ _ _ _ _ q=>q.elim)
 obtain ⟨rfl,q2⟩:=q1
 have e1:c1=cf:=by unfold VR DR at r1;exact r1
 clear r1;subst e1
 refine lZ (P:=fun h=>(MineH.hd.heap_1 w.params).In h) (eI hs) hk ?_
 have it:=fX (G:=G1) (O:=O1) (pos:=pos) I ok hN q2
 have go:∀ G2 O2 Z2 vs cs h2 tk2,Ext [] fx.frs G1 O1 h1 G2 O2 h2->St w base fx G2 O2 Z2 U h2->VRs w G2 O2 vs cs->(de vs=true/\sp vs [] (wT Z2 Q) noE)->
   (MineH.hd.heap_1 w.params).In h2/\wpK (model PR w) fx.A (call c1 cs []) QQ EE {s with heap:=h2,toks:=tk2}:=fun G2 O2 Z2 vs cs h2 tk2 x2 S2 r2 q2=>by
  refine ⟨W.K.keeps fun b o e=>S2.sub b o (S2.bs b o e),?_⟩
  exact sS ok hg hc r2 q2.1 q2.2 (s:={s with heap:=h2,toks:=tk2}) S2 fun G3 O3 Z3 v c3 h3 tk3 x3 S3 r3 q3=>hq G3 O3 Z3 v c3 h3 tk3 ((x1.trans x2).trans x3) S3 r3 q3
 have sp1:wpAny (model PR w) fx.A (spliced (backTo pos (starEach args fx.env))) (fun cs s₁=>(MineH.hd.heap_1 w.params).In s₁.heap/\wpK (model PR w) fx.A (call c1 cs []) QQ EE s₁) EE {s with heap:=h1,toks:=tk1}:=
  it {s with heap:=h1,toks:=tk1} S1 _ _ (fun G2 O2 Z2 vs cs h2 tk2 x2 S2 r2 q2=>go G2 O2 Z2 vs cs h2 tk2 x2 S2 r2 q2) fun _ _ _ _ _ _ _ _ _ _ q=>q.elim
 cases args with
 | nil=>
  unfold evalArgs
  show wpAny (model PR w) fx.A (spliced []>>=_) _ _ _
  refine wpAny_bind (wpAny_mono (show wpAny (model PR w) fx.A (spliced []) _ EE _ from sp1) (fun cs s' h'=>?_) fun _ _ x=>x)
  refine wpAny_bind (wpAny_pure (wpAny_holding ?_))
  exact wpAny_bind (wpAny_pure (wpAny_bind (wpAny_pure (wpAny_pure h'))))
 | cons e rest=>
  have hs':=hs
  unfold dR at hs'
  rw [List.all_cons,Bool.and_eq_true] at hs'
  have he:=bj (rest:=rest) (env:=fx.env) (e:=e) (by simpa using hs'.1)
  rw [he] at sp1 ⊢
  exact Calls.evalArgs_plain sp1
theorem jc (W:Wd w base) (I:aV w base n J) (ok:aE base n fx) (hN:FxN fx N) (hg:fx.A.guards=some []) {cf:Value} {sp:au} (hc:ez w base cf n sp)
  (hk:∀ h,(MineH.hd.heap_1 w.params).In h->∃ k,(k=Keeper.frame\/k=Keeper.machine\/k=Keeper.boundFrame)/\Looks (model PR w) h (keeperOf cf) k) {x:Str} {px pos pos':Pos} {f:Expr} {args:List Expr} (hf:eP f=false) (hs:dR args=true)
  (hx:aN N x=true) {Q:QF} (q:iZ J N f args cf sp U Z fun r Z1=>Q .nx (cK U x r) Z1):cB w base fx U G O Z (exec (.Assign [.Name x px] (.Call f args [] pos) pos') fx.env) Q:=fun s S QQ EE hq=>by
 refine i6 (lS W I ok hN hg hc hk hf hs q S fun G1 O1 Z1 v c h1 tk1 x1 S1 r1 q1=>?_) (bG rfl)
 exact (fW (E:=noE) (Q:=Q) ok hN hx r1 q1) {s with heap:=h1,toks:=tk1} S1 QQ EE (fun G2 O2 Z2 U2 fl f2 h2 tk2 x2 S2 rf q2=>hq G2 O2 Z2 U2 fl f2 h2 tk2 ((x1.weaken (by simp)).trans x2) S2 rf q2) fun _ _ _ _ _ _ _ _ _ _ _ q=>q.elim
theorem fa (W:Wd w base) (I:aV w base n J) (ok:aE base n fx) (hN:FxN fx N) (hg:fx.A.guards=some []) {cf:Value} {sp:au} (hc:ez w base cf n sp)
  (hk:∀ h,(MineH.hd.heap_1 w.params).In h->∃ k,(k=Keeper.frame\/k=Keeper.machine\/k=Keeper.boundFrame)/\Looks (model PR w) h (keeperOf cf) k) {x a:Str} {px pa pos pos':Pos} {f:Expr} {args:List Expr} (hf:eP f=false) (hs:dR args=true)
  (hx:bi x=true) (hx':aN N x=true) {o:V} (hl:U.lookup x=some o) {Q:QF} (q:iZ J N f args cf sp U Z fun r Z1=>qr Z1 o a r fun Z'=>Q .nx U Z'):cB w base fx U G O Z (exec (.Assign [.Attribute (.Name x px) a pa] (.Call f args [] pos) pos') fx.env) Q:=fun s S QQ EE hq=>by
 refine i7 (lS W I ok hN hg hc hk hf hs q S fun G1 O1 Z1 v c h1 tk1 x1 S1 r1 q1=>?_) (bG rfl)
 refine dC (s:={s with heap:=h1,toks:=tk1}) ok hN S1 hx hx' hl fun cv tk rv=>?_
 exact om (E:=fun _ _=>False) W rv r1 q1 {s with heap:=h1,toks:=tk} S1 _ _ (fun G2 O2 Z2 _ _ h2 tk2 X2 S2 _ q2=>hq G2 O2 Z2 U .nx .next h2 tk2 ((x1.weaken (by simp)).trans (X2.weaken (by simp))) S2 rfl q2) (fun _ _ _ _ _ _ _ _ _ _ q2=>q2.elim)
end
end Mine
namespace Mine
open PySem PySem.W PyProof.Rows PySem.SeqAt
noncomputable def CdK (w:World) (base:Heap) (f:Value) (n:Nat) (sp:au):Prop:=
 ∀ (A:Around) (stk:List Env) (G:PH) (O:Fp) (Z:List aa) (vs:List V) (cs:List Value) (s:Shared) (Q:V->List aa->Prop) (QQ EE:Value->Shared->Prop),
  A.handled=none->A.frames=some stk->A.guards=some []->A.depth+4*n+4<recursionLimit->A.units+200*n+200<cLine->
  s.heap.FunFrames base stk->(∀ b∈stk.filterMap (·.frame),b∉O.flatten/\G b=none)->
  Sim w base G O Z s.heap->VRs w G O vs cs->sp vs Z Q noE->
  CQ w base stk G O s Q QQ->
  dF (model PR w) A (.call f ⟨cs,[]⟩) (fun r s'=>match r with | .ok (.ret v)=>QQ v s' | .ok _=>False | .error e=>EE e s') s
theorem CdK.call {w:World} {base:Heap} {f:Value} {n:Nat} {sp:au} (h:CdK w base f n sp):ez w base f n sp:=
 fun A stk G O Z vs cs s Q QQ EE h1 h2 h3 h4 h5 h6 h7 h8 h9 h10 h11=>dY (h A stk G O Z vs cs s Q QQ EE h1 h2 h3 h4 h5 h6 h7 h8 h9 h10 h11)
section
variable {w:World} {base:Heap} {fx:Fx} {U:Mine.Loc} {G:PH} {O:Fp} {Z:List aa} {n:Nat} {N:aC} {J:Ev}
structure FnH (base:Heap) (a:Addr) (fd:FuncData) (body:List Stmt) (ps:List Str) (dc:List Value):Prop where
 look:∃ o,base.get? a=some o/\o.data=.func fd
 code:base.CodeRec fd.code fd.qualname
 body:fd.body=.stmts body
 bind:∀ cs:List Value,(cs++dc).length=ps.length->∀ s:Shared,(∀ b o,base.get? b=some o->s.heap.get? b=some o)->BindsTo s fd ⟨cs,[]⟩ (ps.zip (cs++dc))
 co:fd.scope.isCoroutine=false
 gen:fd.scope.isGenerator=false
 kind:fd.scope.kind=.function
 glob:fd.globals=mainGlobals
 blt:fd.builtins=builtinsNs
 clo:fd.closure=[]
theorem BP (hlim:base.NoLimit) {a:Addr} {fd:FuncData} {body:List Stmt} {ps:List Str} {sp:au} (fresh:Bool) {dv:List V} {dc:List Value} (D:FnH base a fd body ps dc) (hdc:∀ G O,VRs w G O dv dc) (hnd:((cellsFrom 0 fd.scope.names []).map (·.1)).Nodup)
  (hkind:∀ x∈ps,fd.scope.names.lookup x=some .local\/(fd.scope.names.lookup x=some .cell/\x∈(cellsFrom 0 fd.scope.names []).map (·.1)))
  (hb:∀ (vs:List V) (Z:List aa) (Q:V->List aa->Prop),sp vs Z Q noE->(vs++dv).length=ps.length/\∀ (fx:Fx) (G:PH) (O:Fp),aE base n fx->fx.A.guards=some []->fx.env.scope=fd.scope->fx.env.cells.map (·.1)=(cellsFrom 0 fd.scope.names []).map (·.1)->
   cB w base fx (ps.zip (vs++dv)).reverse G O Z (execs body fx.env) (a9 fresh Z.length Q)):CdK w base (.ref a) (n+1) sp:=by
 exists w,base,n,a,fd,body,ps,sp,fresh,dv,dc,_ hlim D hdc hnd hkind hb
 intro A stk G O Z vs cs s Q QQ EE hA hfr hgd hdep hun F fo S0 rvs q hq;exists A,stk,G,O,Z,vs,cs,s,Q,QQ,EE,_ hA hfr hgd hdep hun F fo S0 rvs q hq
 obtain ⟨o,hlook,hdat⟩:=D.look
 obtain ⟨hlen,d⟩:=hb vs Z Q q
 have bk:∀ b o,base.get? b=some o->s.heap.get? b=some o:=fun b o e=>S0.sub b o (S0.bs b o e)
 have rvs':=VRs.app rvs (hdc G O)
 have hcs:(cs++dc).length=ps.length:=by rw [rvs'.len];exact hlen
 have keys:∀ L,(cellsFrom L fd.scope.names []).map (·.1)=(cellsFrom 0 fd.scope.names []).map (·.1):=fun L=>cI _ _ _ _ _ rfl
 refine km (by omega) (bk _ _ hlook) hdat D.co D.gen D.body (D.code.keeps bk) ?_
 refine D.bind cs hcs s bk _ _ _ _ ?_
 rw [D.clo]
 refine (wpAny_newFunctionEnv_cells D.kind (fun x hx=>?_) fun env he s₁ x=>⟨(hlim.keeps bk).keeps x.toInCall.keep,qk ?_⟩)
 · refine (hkind _ (List.of_mem_zip hx).1).imp id fun z=>⟨z.1,?_⟩
   have hm:=z.2
   rw [<- keys (s.heap.objs.size+1)] at hm
   obtain ⟨p,hp,e⟩:=List.mem_map.mp hm
   rw [<- e,b9 (by rw [keys];exact hnd) hp];rfl
 obtain ⟨zz,hcell,hap,hab⟩:=x;obtain ⟨zy,hns,keep,_⟩:=zz;obtain ⟨h₀,tk₀,rfl⟩:=zy
 have fresh0:=aW s.heap
 have hloc:env.locals=s.heap.objs.size:=by rw [he];rfl
 have hce:env.cells=cellsFrom (s.heap.objs.size+1) fd.scope.names []:=by rw [he];rfl
 have hsc:env.scope=fd.scope:=by rw [he];rfl
 have hfm:env.frame=some s.heap.objs.size:=by rw [he];rfl
 have hgl:env.globals=mainGlobals:=by rw [he];exact D.glob
 have hbl:env.builtins=builtinsNs:=by rw [he];exact D.blt
 clear he
 have ndk:(env.cells.map (·.1)).Nodup:=by rw [hce,keys];exact hnd
 rw [hloc] at hns
 have hown:(⟨env,A.deeper env,env::stk⟩:Fx).own=s.heap.objs.size::env.cells.map (·.2):=by show env.locals::_=_;rw [hloc]
 have frc:∀ b∈s.heap.objs.size::env.cells.map (·.2),s.heap.get? b=none:=fun b hb=>by
  rcases List.mem_cons.mp hb with rfl | hb
  · exact fresh0
  · obtain ⟨p,hp,rfl⟩:=List.mem_map.mp hb
    have:=hab p.1 p.2 hp
    rw [hloc] at this
    cases e:s.heap.get? p.2 with
    | none=>rfl
    | some o'=>exact absurd (Heap.lt_size e) (Nat.not_lt.mpr (Nat.le_of_lt this))
 have gn:∀ b,s.heap.get? b=none->G b=none:=fun b hb=>by
  cases e:G b with
  | none=>rfl
  | some o'=>rw [S0.sub _ _ e] at hb;contradiction
 have Lf:∀ a∈O.flatten,s.heap.get? a≠none:=fun a ha q=>by obtain ⟨o',e⟩:=S0.cells.ex a ha;rw [q] at e;contradiction
 have bn:base.get? s.heap.objs.size=none:=by
  cases e:base.get? s.heap.objs.size with
  | none=>rfl
  | some o'=>rw [bk _ _ e] at fresh0;contradiction
 have ok:aE base n ⟨env,A.deeper env,env::stk⟩:=by
  refine ⟨by show env.scope.kind=_;rw [hsc];exact D.kind,hgl,hbl,hA,Around.frames_deeper hfr,?_,?_,⟨_,_,_,rfl,hfm,hfm⟩⟩
  · show A.depth+1+4*n+4<_;omega
  · show A.units+3+200*n+200<_;omega
 have S:St w base ⟨env,A.deeper env,env::stk⟩ G O Z (ps.zip (vs++dv)).reverse h₀:=by
  refine {bs:=S0.bs,sub:=fun b o e=>keep b o (S0.sub b o e),cells:=S0.cells.mono (Sub.refl _) fun a _ o e=>keep a o e,nd:=S0.nd,out:=S0.out,fr:=⟨⟨_,by show Heap.Ns h₀ env.locals _;rw [hloc];exact hns,fun x v hv hk=>?_⟩,fun p hp=>?_⟩,oo:=?_,ond:=?_,fo:=?_,ff:=?_}
  · obtain ⟨c,hc,r⟩:=cE rvs' x v hv
    exact ⟨c,by rw [gv hk,hc];rfl,r⟩
  · refine ⟨_,hcell p.1 p.2 (b9 ndk hp),fun v hv hk=>?_⟩
    obtain ⟨c,hc,r⟩:=cE rvs' p.1 v hv
    exact ⟨c,by rw [kr hk,hc];rfl,r⟩
  · rw [hown]
    intro b hb
    exact ⟨gn b (frc b hb),fun q=>Lf b q (frc b hb)⟩
  · rw [hown]
    refine List.nodup_cons.mpr ⟨fun q=>?_,List.pairwise_map.mpr hap⟩
    obtain ⟨p,hp,e⟩:=List.mem_map.mp q
    have:=hab p.1 p.2 hp
    rw [hloc,e] at this
    exact Nat.lt_irrefl _ this
  · intro b hb
    have hb':b∈s.heap.objs.size::stk.filterMap (·.frame):=by
     have:b∈(env::stk).filterMap (·.frame):=hb
     rw [List.filterMap_cons,hfm] at this;exact this
    rcases List.mem_cons.mp hb' with rfl | hb
    · exact ⟨fun q=>Lf _ q fresh0,gn _ fresh0⟩
    · exact fo b hb
  · exact Heap.FunFrames.cons (by show env.scope.kind≠_;rw [hsc,D.kind];decide) hfm hns bn (F.of_keeps fun b o e _=>⟨o,keep b o e,rfl⟩)
 refine d ⟨env,A.deeper env,env::stk⟩ G O ok hgd hsc (by show env.cells.map _=_;rw [hce,keys]) {s with heap:=h₀,toks:=tk₀} S _ _ fun G' O' Z' U' fl f h' tk x S' r q=>?_
 obtain ⟨G'',O'',Z'',v,x',S'',F',zz⟩:=rj hfm frc hown keep S0.cells.len x S' r q;obtain ⟨fo',rv,qv⟩:=zz
 have z:=hq G'' O'' Z'' v _ h' tk x' S'' F' fo' rv qv
 revert z
 clear rv q r;cases f <;> exact id
theorem pX (W:Wd w base) {a:Addr} {ps:List Str} {dc:List Value} (h:n7 w.params a=true) (hb:∀ cs:List Value,(cs++dc).length=ps.length->∀ S,peek (MineH.hd.heap_1 w.params) S (bindArgs (aK w.params a) ⟨cs,[]⟩)=some (ps.zip (cs++dc))):
  FnH base a (aK w.params a) (ae w.params a) ps dc:=by
 unfold n7 at h
 unfold aK at hb ⊢
 cases e:yn w.params a with
 | none=>rw [e] at h;contradiction
 | some fd=>
  rw [e] at h hb
  simp only [Bool.and_eq_true,Bool.not_eq_true'] at h
  obtain ⟨h1,h2,h3,h4,h5,h6,h7,h8⟩:=h
  have hs:ae w.params a=(match fd.body with | .stmts b=>b | _=>[]):=by simp only [ae,aK,e] <;> cases fd.body <;> rfl
  refine ⟨?_,codeRec_of W.K h2,?_,fun cs hl s k=>kp_binds (W.K.keeps k) (hb cs hl),h3,h4,?_,Nat.eq_of_beq_eq_true h6,Nat.eq_of_beq_eq_true h7,?_⟩
  · obtain ⟨o,ho,e⟩:=aD e
    exact ⟨o,W.K _ _ ho,nW e⟩
  · rw [hs]
    revert h1
    cases hbd:fd.body <;> intro h1
    · rfl
    · contradiction
  · revert h5
    cases hk:fd.scope.kind <;> intro h5 <;> first | rfl | contradiction
  · show fd.closure=[]
    simpa using h8
noncomputable def Fs (Q:QV) (v:V):List aa->Prop
 | []=>False
 | c::r=>cond (r.isEmpty&&eO v) (Q (.ref 0) [c]) False
noncomputable def Fr (C:Addr) (sp:au):au:=fun vs Z Q E=>cond Z.isEmpty (sp (.ref 0::vs) [.inst C [] []] (fun v Z'=>Fs Q v Z') E) False
theorem sB {h:Heap} {d:Addr} (e:h.get? d=some emptyDict):h.Ns1 d fun _=>none:=
 ⟨_,#[],_,e,rfl,by intro e he;simp at he,by unfold UniqKeys;simp,fun _=>rfl⟩
theorem wJ (W:Wd w base) {C fI:Addr} {sp:au} (hm:makesIn (MineH.hd.heap_1 w.params) C=true) (hi:findIn (MineH.hd.heap_1 w.params) (.ref C) "__init__"=some (some (.ref fI))) (hf:typeIn (MineH.hd.heap_1 w.params) (.ref fI)=some (.type "function"))
  (hI:CdK w base (.ref fI) n sp) (hall:∀ vs Q,sp (.ref 0::vs) [.inst C [] []] Q noE->de vs=true):CdK w base (.ref C) (n+1) (Fr C sp):=by
 intro A stk G O Z vs cs s Q QQ EE hA hfr hgd hdep hun F fo S0 rvs q hq
 cases Z with
 | cons _ _=>exact q.elim
 | nil=>
 have hi0:O=[]:=by have:=S0.cells;unfold aq at this;exact this
 subst hi0
 obtain ⟨hh,g,d,t,os⟩:=s
 have bk:∀ b o,base.get? b=some o->hh.get? b=some o:=fun b o e=>S0.sub b o (S0.bs b o e)
 refine qj (W.K.keeps bk) hm hi hf ?_
 have k:∀ b o,hh.get? b=some o->((hh.push emptyDict).push (instObj C hh.objs.size)).get? b=some o:=fun b o e=>Heap.get?_push_of_some _ (Heap.get?_push_of_some _ e)
 have hx:((hh.push emptyDict).push (instObj C hh.objs.size)).get? (hh.objs.size+1)=some (instObj C hh.objs.size):=by heap_get
 have hd':((hh.push emptyDict).push (instObj C hh.objs.size)).get? hh.objs.size=some emptyDict:=by heap_get
 have n0:hh.get? hh.objs.size=none:=aW hh
 have n1:hh.get? (hh.objs.size+1)=none:=by
  cases e:hh.get? (hh.objs.size+1) with
  | none=>rfl
  | some o=>exact absurd (Heap.lt_size e) (Nat.not_lt.mpr (Nat.le_succ _))
 have gn:∀ b,hh.get? b=none->G b=none:=fun b hb=>by
  cases e:G b with
  | none=>rfl
  | some o'=>rw [S0.sub _ _ e] at hb;contradiction
 replace q:sp (.ref 0::vs) [.inst C [] []] (fun v Z'=>Fs Q v Z') noE:=q
 have ha:=hall vs _ q
 have S1:Sim w base G [[hh.objs.size+1,hh.objs.size]] [.inst C [] []] ((hh.push emptyDict).push (instObj C hh.objs.size)):=by
  refine ⟨S0.bs,fun b o e=>k b o (S0.sub b o e),?_,?_,fun b hb=>?_⟩
  · unfold aq
    refine ⟨_,_,rfl,?_,by unfold aq;rfl⟩
    exact ⟨_,_,[],fun _=>none,rfl,⟨⟨_,hx,rfl,(fun c z=>by contradiction),rfl⟩,sB hd'⟩,fun _ z=>absurd rfl z,trivial,rfl⟩
  · simp
  · simp only [List.flatten_cons,List.flatten_nil,List.append_nil,List.mem_cons,List.not_mem_nil,or_false] at hb
    rcases hb with rfl | rfl
    · exact gn _ n1
    · exact gn _ n0
 have nf:∀ b∈([[hh.objs.size+1,hh.objs.size]]:Fp).flatten,hh.get? b=none:=fun b hb=>by
  simp only [List.flatten_cons,List.flatten_nil,List.append_nil,List.mem_cons,List.not_mem_nil,or_false] at hb
  rcases hb with rfl | rfl
  · exact n1
  · exact n0
 have ho:∀ b o,hh.get? b=some o->b∉([[hh.objs.size+1,hh.objs.size]]:Fp).flatten:=fun b o e z=>by rw [nf b z] at e;contradiction
 refine kj (hI (A.under (.builtin "type.__call__" ⟨.ref C::cs,[]⟩)) stk G _ _ (.ref 0::vs) (.ref (hh.objs.size+1)::cs) _ _ (fun v s'=>v=.none/\QQ (.ref (hh.objs.size+1)) s') EE hA (by rw [<- hfr];rfl) (by rw [<- hgd];rfl) (by show (A.depth+1)+4*n+4<recursionLimit;omega) (by show (A.units+1)+200*n+200<cLine;omega)
  (F.of_keeps fun b o e _=>⟨o,k b o e,rfl⟩) (fun b hb=>⟨?_,(fo b hb).2⟩) S1 ?_ q fun G' O' Z' v c h' tk x S' F' fo' rv qv=>?_) fun r s' z=>?_
 · obtain ⟨_,o,ho',_⟩:=F.mem hb
   exact ho b o ho'
 · unfold VRs
   refine ⟨_,_,rfl,?_,dI ha rvs⟩
   exact ⟨by simp,fun a r e=>by simp at e;rw [e.1]⟩
 · cases Z' with
   | nil=>exact (show False from qv).elim
   | cons y r=>cases r with
    | cons _ _=>exact (show False from qv).elim
    | nil=>cases hn:eO v with
     | false=>replace qv:cond (eO v) _ _:=qv;rw [hn] at qv;exact qv.elim
     | true=>
    replace qv:cond (eO v) _ _:=qv
    rw [hn] at qv
    cases lM hn
    clear hn
    refine ⟨by unfold VR DR at rv;exact rv,?_⟩
    refine hq G' O' _ (.ref 0) _ h' tk ⟨x.sub,⟨Nat.zero_le _,fun k fp fp' e _=>by simp at e⟩,fun b o e=>x.dom b o (k b o e),fun b o e h1 h2 h3=>x.keep b o (k b o e) (ho b o e) h2 h3,
     fun b o e h1 h2 h3=>x.slots b o (k b o e) h1 (ho b o e) h3,fun b hb=>?_,fun b o e=>?_⟩ S' F' fo' ?_ qv
    · rcases x.newF b hb with z | z
      · exact .inr (nf b z)
      · right
        cases e:hh.get? b with
        | none=>rfl
        | some o=>rw [k b o e] at z;contradiction
    · rcases x.newG b o e with z | z | z
      · exact .inl z
      · right;left
        cases e:hh.get? b with
        | none=>rfl
        | some o=>rw [k b o e] at z;contradiction
      · exact .inr (.inl (nf b z))
    · unfold VR
      have hl:=x.ix.len
      refine ⟨Nat.lt_of_lt_of_le (by simp) hl,fun a r e=>?_⟩
      rcases x.ix.idx 0 _ _ rfl e with z | z
      · contradiction
      · simp at z;rw [z]
 · unfold InitBack
   rcases r with e | (v | _ | _ | _) <;> first | exact z | exact z.elim
end
end Mine
namespace Mine
open PySem PySem.W PyProof.Rows PySem.SeqAt
noncomputable def AL  : au:=mkS (pC (pD pBs) pN) pN fun (b,_) _ Q E=>grd (Nat.ble b.size 1048576) (Q (.d (.ba b)) [])
section
variable {w:World} {base:Heap} {n m:Nat} {S:Tab} {a:Addr} {ps:List Str} {sp:au}
theorem rz:ez w base (.type "bytearray") n AL:=by
 intro A stk G O Z vs cs s Q QQ EE hA hfr hgd hdep hun F fo S0 rvs q hq
 replace q:=aB q
 obtain ⟨zz,_,e1,e2,q⟩:=q;obtain ⟨b,_⟩:=zz
 obtain rfl:=(show vs=[.d (.bs b)] from e1);obtain rfl:=(show Z=[] from e2)
 dsimp only at q
 obtain ⟨hb,q⟩:=ab.mp q
 have hi:O=[]:=by have:=S0.cells;unfold aq at this;exact this
 subst hi
 obtain ⟨c,r,rfl,hc,hr⟩:=rvs
 unfold VRs at hr;subst hr
 obtain ⟨t,rfl⟩:=hc
 refine dY (wH hgd (Nat.le_trans (Nat.le_of_ble_eq_true hb) (by decide)) fun h' e k=>?_)
 have fresh:=aW s.heap
 have gn:G s.heap.objs.size=none:=by
  cases e:G s.heap.objs.size with
  | none=>rfl
  | some o'=>rw [S0.sub _ _ e] at fresh;contradiction
 have kG:Sub G (gX G s.heap.objs.size (baO b 0)):=jV gn
 refine hq (gX G s.heap.objs.size (baO b 0)) [] [] _ _ h' s.toks ⟨kG,IxE.refl _,fun b o e=>⟨o,k b o e⟩,fun b o e _ _ _=>k b o e,fun b o e _ _ _=>⟨o.slots,k b o e⟩,fun b hb=>.inl hb,fun b' o e'=>?_⟩
  ⟨fun b o e=>kG _ _ (S0.bs b o e),fun b' o e'=>?_,rfl,List.nodup_nil,fun a ha=>by simp at ha⟩ (F.of_keeps fun b o e _=>⟨o,k b o e,rfl⟩) (fun b' hb'=>⟨by simp,?_⟩) ?_ q
 · unfold gX at e'
   clear q;split at e'
   · rename_i z;subst z;exact .inr (.inl fresh)
   · exact .inl e'
 · unfold gX at e'
   clear q;split at e'
   · rename_i z;cases e';subst z;exact e
   · exact k _ _ (S0.sub _ _ e')
 · clear q;obtain ⟨_,o,ho,_⟩:=F.mem hb'
   rw [gW G _ (fun z=>by rw [z,fresh] at ho;contradiction)]
   exact (fo b' hb').2
 · unfold VR DR
   exact ⟨_,0,rfl,by unfold gX;simp⟩
theorem ru {M:Model} {h:Heap} {T:String}:∃ k,(k=Keeper.frame\/k=Keeper.machine\/k=Keeper.boundFrame)/\Looks M h (keeperOf (.type T)) k:=⟨.machine,.inr (.inl rfl),.now⟩
theorem qm (W:Wd w base) (fresh:Bool) {dv:List V} {dc:List Value} (D:FnH base a (aK w.params a) (ae w.params a) ps dc) (hdc:∀ G O,VRs w G O dv dc) (hc:dG (ac w.params a) ps=true)
  (hb:∀ vs Z Q,sp vs Z Q noE->(vs++dv).length=ps.length/\∀ (fx:Fx) (G:PH) (O:Fp),aE base n fx->fx.A.guards=some []->FxN fx (ac w.params a)->
   cB w base fx (ps.zip (vs++dv)).reverse G O Z (execs (ae w.params a) fx.env) (a9 fresh Z.length Q)):CdK w base (.ref a) (n+1) sp:=by
 unfold dG at hc
 rw [Bool.and_eq_true,Bool.and_eq_true] at hc
 obtain ⟨h1,h2,h3⟩:=hc
 refine BP W.nolimit fresh D hdc (d9 h1) (fun x hx=>?_) fun vs Z Q q=>?_
 · have:=List.all_eq_true.mp h3 x hx
   split at this
   · rename_i e;exact .inl e
   · rename_i e;exact .inr ⟨e,List.contains_iff_mem.mp this⟩
   · contradiction
 obtain ⟨hlen,q⟩:=hb vs Z Q q
 refine ⟨hlen,fun fx G O ok hg hs hcl=>q fx G O ok hg ?_⟩
 have hcl':fx.env.cells.map (·.1)=fH (ac w.params a):=hcl
 refine ⟨by rw [hs];rfl,fun x e=>?_,by rw [hcl'];exact d9 h1⟩
 have:=List.all_eq_true.mp h2 _ (bA e)
 simp only at this
 exact dS (by rw [hcl'];exact List.contains_iff_mem.mp this)
theorem Cx (W:Wd w base) (SO:SOk w base n S) (fresh:Bool) {dv:List V} {dc:List Value} (D:FnH base a (aK w.params a) (ae w.params a) ps dc) (hdc:∀ G O,VRs w G O dv dc) (hc:dG (ac w.params a) ps=true) (m:Nat)
  (hb:∀ vs Z Q,sp vs Z Q noE->(vs++dv).length=ps.length/\bm ((evN S m).ex (ac w.params a)) (ae w.params a) (ps.zip (vs++dv)).reverse Z (a9 fresh Z.length Q) noE):CdK w base (.ref a) (n+1) sp:=
 qm W fresh D hdc hc fun vs Z Q q=>⟨(hb vs Z Q q).1,fun fx G O ok hg hN=>cB.of (bZ (kR W SO m) ok hN (hb vs Z Q q).2)⟩
end
noncomputable abbrev uE:List Str:=["self","data","kind","link"]
theorem Hy {w:World} {base:Heap} (W:Wd w base):FnH base 228 (aK w.params 228) (ae w.params 228) uE []:=
 pX W (by kernel_rfl) fun cs hl S=>x5 (p:=fun cs=>peek (MineH.hd.heap_1 w.params) S (bindArgs (aK w.params 228) ⟨cs,[]⟩)=some (uE.zip (cs++[]))) (fun a b c d=>by kernel_rfl) cs (by simpa using hl)
theorem Jf (P:Params):dG (ac P 228) uE=true:=by kernel_rfl
noncomputable def zd  : au:=mkS (pC (pR 0) (pC (pD pBs) (pC (pD pI) (pC (pD pBs) pN)))) (pC (pIn pN pN) pN) fun (_,d,k,l,_) ((C,_,_),_) Q E=>grd (Nat.beq C 231&&(Nat.ble d.size 1048576&&Nat.ble l.size 1048576)) (Q (.d .nn) [.inst 231 [("data",.ba d),("link",.ba l),("kind",.ii k),("l4",.ii (-1)),("off",.ii (-1)),("place",.ii 0)] [("meta",.di (lH 0))]])
noncomputable def w5 (l:Nat) (f:Str):Stmt:=.Assign [.Attribute (.Name "self" ⟨l,8,l,12⟩) f ⟨l,8,l,17⟩] (.Call (.Name "bytearray" ⟨l,20,l,29⟩) [.Name f ⟨l,30,l,34⟩] [] ⟨l,20,l,35⟩) ⟨l,8,l,35⟩
noncomputable def Eg (P:Params):List Stmt:=(ae P 228).drop 2
theorem Jw (P:Params):ae P 228=w5 135 "data"::w5 136 "link"::Eg P:=by kernel_rfl
noncomputable def yS (P:Params):Tab:=aZ [(214,inl S0 30 P 214 [] true)]
noncomputable def U228 (d:Array UInt8) (k:Int) (l:Array UInt8):Mine.Loc:=[("link",.d (.bs l)),("kind",.d (.ii k)),("data",.d (.bs d)),("self",.ref 0)]
theorem Bd (P:Params) (d:Array UInt8) (k:Int) (l:Array UInt8) (K:List aa->Prop):iZ (evN (yS P) 30) (ac P 228) (.Name "bytearray" ⟨135,20,135,29⟩) [.Name "data" ⟨135,30,135,34⟩] (.type "bytearray") AL (U228 d k l) [.inst 231 [] []] (fun r Z1=>qr Z1 (.ref 0) "data" r K)=
 ((V.d (.gl (.type "bytearray")))=.d (.gl (.type "bytearray"))/\(true=true/\grd (Nat.ble d.size 1048576) (K [.inst 231 [("data",.ba d)] []]))):=by kernel_rfl
theorem Bc (P:Params) (d:Array UInt8) (k:Int) (l:Array UInt8) (K:List aa->Prop):iZ (evN (yS P) 30) (ac P 228) (.Name "bytearray" ⟨136,20,136,29⟩) [.Name "link" ⟨136,30,136,34⟩] (.type "bytearray") AL (U228 d k l) [.inst 231 [("data",.ba d)] []] (fun r Z1=>qr Z1 (.ref 0) "link" r K)=
 ((V.d (.gl (.type "bytearray")))=.d (.gl (.type "bytearray"))/\(true=true/\grd (Nat.ble l.size 1048576) (K [.inst 231 [("data",.ba d),("link",.ba l)] []]))):=by kernel_rfl
theorem Bb (P:Params) (d:Array UInt8) (k:Int) (l:Array UInt8) (Q:QV):bm ((evN (yS P) 30).ex (ac P 228)) (Eg P) (U228 d k l) [.inst 231 [("data",.ba d),("link",.ba l)] []] (a9 false 1 Q) noE=
 Q (.d .nn) [.inst 231 [("data",.ba d),("link",.ba l),("kind",.ii k),("l4",.ii (-1)),("off",.ii (-1)),("place",.ii 0)] [("meta",.di (lH 0))]]:=by kernel_rfl
end Mine
namespace Mine
open PySem PySem.W PyProof.Rows PySem.SeqAt
noncomputable def pk0 (d:Array UInt8) (k:Int) (l:Array UInt8):aa:=.inst 231 [("data",.ba d),("link",.ba l),("kind",.ii k),("l4",.ii (-1)),("off",.ii (-1)),("place",.ii 0)] [("meta",.di (lH 0))]
section
variable {w:World} {base:Heap}
theorem Fv (W:Wd w base):CdK w base (.ref 228) 2 zd:=by
 have SO:SOk w base 1 (yS w.params):=LOk.so (LOk.cons (aS W so0 true (Ir w) (Jg _) (GC _) 30) (Hm _) LOk.nil)
 refine qm W false (Hy W) (dv:=[]) (fun _ _=>rfl) (Jf _) fun vs Z Q q=>?_
 replace q:=aB q
 obtain ⟨zz,zy,e1,e2,q⟩:=q;obtain ⟨_,d,k,l,_⟩:=zz;obtain ⟨zx,_⟩:=zy;obtain ⟨C,_,_⟩:=zx
 obtain rfl:=(show vs=[.ref 0,.d (.bs d),.d (.ii k),.d (.bs l)] from e1);obtain rfl:=(show Z=[.inst C [] []] from e2)
 dsimp only at q
 replace q:=ab.mp q
 obtain ⟨h,q⟩:=q
 simp only [Bool.and_eq_true] at h
 obtain ⟨hC,hd,hl⟩:=h
 clear e2;obtain rfl:=Nat.eq_of_beq_eq_true hC
 refine ⟨rfl,fun fx G O ok hg hN=>?_⟩
 show cB w base fx (U228 d k l) G O [.inst 231 [] []] (execs (ae w.params 228) fx.env) (a9 false 1 Q)
 rw [Jw]
 refine cB.cons (fa (o:=.ref 0) W (kR W SO 30) ok hN hg rz (fun h _=>ru) rfl rfl (by decide) (by kernel_rfl) rfl ?_)
 rw [Bd]
 refine ⟨rfl,rfl,ad hd fun G' O'=>?_⟩
 refine cB.cons (fa (o:=.ref 0) W (kR W SO 30) ok hN hg rz (fun h _=>ru) rfl rfl (by decide) (by kernel_rfl) rfl ?_)
 rw [Bc]
 refine ⟨rfl,rfl,ad hl fun G' O'=>cB.of (bZ (kR W SO 30) ok hN ?_)⟩
 rw [Bb]
 exact q
noncomputable def DX  : au:=mkS (pC (pD pBs) (pC (pD pI) (pC (pD pBs) pN))) pN fun (d,k,l,_) _ Q E=>grd (Nat.ble d.size 1048576&&Nat.ble l.size 1048576) (Q (.ref 0) [pk0 d k l])
theorem tV (C:Addr) (vs:List V) (Q:QV) (q:zd (.ref 0::vs) [.inst C [] []] Q noE):de vs=true:=by
 obtain ⟨zz,_,e1,_,q⟩:=aB q;obtain ⟨_,d,e,l,_⟩:=zz
 clear q;cases (show V.ref 0::vs=[.ref 0,.d (.bs d),.d (.ii e),.d (.bs l)] from e1)
 rfl
theorem IK (W:Wd w base):ez w base (.ref 231) 3 DX:=by
 refine CdK.call fun A stk G O Z vs cs s Q QQ EE h1 h2 h3 h4 h5 h6 h7 h8 h9 q=>wJ W (by kernel_rfl) (by kernel_rfl) (by kernel_rfl) (Fv W) (tV 231) A stk G O Z vs cs s Q QQ EE h1 h2 h3 h4 h5 h6 h7 h8 h9 ?_
 replace q:=aB q
 obtain ⟨zz,_,e1,e2,q⟩:=q;obtain ⟨d,k,l,_⟩:=zz
 clear h9;obtain rfl:=(show vs=[.d (.bs d),.d (.ii k),.d (.bs l)] from e1);clear h8;obtain rfl:=(show Z=[] from e2)
 dsimp only at q
 replace q:=ab.mp q
 obtain ⟨h,q⟩:=q
 exact ad (ah rfl h) q
noncomputable abbrev qN:List Str:=["self","packet","fields","now","hook"]
noncomputable def wB:List Value:=[.str "input" 527]
theorem Hx (W:Wd w base):FnH base 271 (aK w.params 271) (ae w.params 271) qN wB:=
 pX W (by kernel_rfl) fun cs hl S=>x5 (p:=fun cs=>peek (MineH.hd.heap_1 w.params) S (bindArgs (aK w.params 271) ⟨cs,[]⟩)=some (qN.zip (cs++wB))) (fun a b c d=>by kernel_rfl) cs (by simp [wB] at hl;exact hl)
theorem Jb (P:Params):dG (ac P 271) qN=true:=by kernel_rfl
noncomputable def sc0 (p f:D):aa:=.inst 274 [("packet",p),("now",.ii 5),("hook",.ss "input"),("talk",.nn),("state",.ii 1),("is_reply",.ii 0),("talks",.nn),("sets",.di []),("objects",.di []),("fields",f),("readers",.di []),("doers",.di []),("ops",.di []),("tools",.di []),("order",.ss "little"),("replies",.li []),("steps",.nn),("homes",.di [])] [("log",.li [])]
noncomputable def zb  : au:=mkS (pC (pR 0) (pC (pD pOb) (pC (pD pF) (pC (pD (pI' 5)) pN)))) (pC (pIn pN pN) pN) fun (_,(C,l),f,_,_) ((D,_,_),_) Q E=>grd (Nat.beq D 274) (Q (.d .nn) [sc0 (.ob C l) (.di f)])
theorem F9 (P:Params) (C:Addr) (l f:List (Str×D)) (Q:QV):bm ((evN S0 30).ex (ac P 271)) (ae P 271) (qN.zip ([.ref 0,.d (.ob C l),.d (.di f),.d (.ii 5)]++[.d (.ss "input")])).reverse [.inst 274 [] []] (a9 false (List.length [aa.inst 274 [] []]) Q) noE=Q (.d .nn) [sc0 (.ob C l) (.di f)]:=by kernel_rfl
theorem Fu (W:Wd w base):CdK w base (.ref 271) 1 zb:=by
 refine Cx W so0 false (Hx W) (dv:=[.d (.ss "input")]) (fun G O=>?_) (Jb _) 30 fun vs Z Q q=>?_
 · unfold VRs;exact ⟨_,_,rfl,by unfold VR DR;exact ⟨_,rfl⟩,rfl⟩
 replace q:=aB q
 obtain ⟨zz,zx,e1,e2,q⟩:=q;obtain ⟨_,zy,f,_,_⟩:=zz;obtain ⟨C,l⟩:=zy;obtain ⟨zw,_⟩:=zx;obtain ⟨D,_,_⟩:=zw
 obtain rfl:=(show vs=[.ref 0,.d (.ob C l),.d (.di f),.d (.ii 5)] from e1);obtain rfl:=(show Z=[.inst D [] []] from e2)
 dsimp only at q
 replace q:=ab.mp q
 obtain ⟨h,q⟩:=q
 clear e2;obtain rfl:=Nat.eq_of_beq_eq_true h
 refine ⟨rfl,?_⟩
 rw [F9]
 exact q
noncomputable def DW  : au:=mkS (pC (pD pOb) (pC (pD pF) (pC (pD (pI' 5)) pN))) pN fun ((C,l),f,_,_) _ Q E=>Q (.ref 0) [sc0 (.ob C l) (.di f)]
theorem tU (C:Addr) (vs:List V) (Q:QV) (q:zb (.ref 0::vs) [.inst C [] []] Q noE):de vs=true:=by
 obtain ⟨zz,_,e1,_,q⟩:=aB q;obtain ⟨_,zy,f,_,_⟩:=zz;obtain ⟨C,l⟩:=zy
 clear q;cases (show V.ref 0::vs=[.ref 0,.d (.ob C l),.d (.di f),.d (.ii 5)] from e1)
 rfl
theorem IJ (W:Wd w base):ez w base (.ref 274) 2 DW:=by
 refine CdK.call fun A stk G O Z vs cs s Q QQ EE h1 h2 h3 h4 h5 h6 h7 h8 h9 q=>wJ W (by kernel_rfl) (by kernel_rfl) (by kernel_rfl) (Fu W) (tU 274) A stk G O Z vs cs s Q QQ EE h1 h2 h3 h4 h5 h6 h7 h8 h9 ?_
 replace q:=aB q
 obtain ⟨zz,_,e1,e2,q⟩:=q;obtain ⟨zy,f,_,_⟩:=zz;obtain ⟨C,l⟩:=zy
 clear h9;obtain rfl:=(show vs=[.d (.ob C l),.d (.di f),.d (.ii 5)] from e1);clear h8;obtain rfl:=(show Z=[] from e2)
 dsimp only at q
 exact ad rfl q
end
end Mine
namespace Mine
open PySem PySem.W PyProof.Rows PySem.SeqAt
noncomputable def zt:Nat->List Str:=gq [(414,["packet","data","frame"]),(418,["told"]),(432,["made"])]
noncomputable def zE:Nat->List Str:=gq [(421,["script","many","ahead","data","frame","tag","kind","packet","number","place"]),
 (424,["notes","is_met"]),(428,["proto","notes","is_met"]),(429,["turn","place","made","e"]),(431,["place"])]
noncomputable def FI (P:Params):List (Addr×au):=[(348,tR),(454,y4),(381,y9),(449,y5),(374,za),(369,inl S0 30 P 369 qJ false),(395,tP),(285,tT),(416,tO),(461,y1),(428,y6),(423,tN)]
noncomputable def jg (P:Params):Tab:=aZ (FI P) zt zE
noncomputable abbrev uj:List Str:=["script"]
noncomputable abbrev aw (P:Params) (i:Nat):Stmt:=ai (ae P 466) i
theorem HW (P:Params):n7 P 466=true:=by kernel_rfl
theorem IL (P:Params):dG (ac P 466) uj=true:=by kernel_rfl
end Mine
namespace Mine
open PySem PySem.W PyProof.Rows PySem.SeqAt
noncomputable def Oct (l:List D) (ns:List Int) (n:Nat):Prop:=l=ns.map .ii/\(∀ b∈ns,0<=b/\b<256)/\ns.length=n
theorem nM (seed:Int) (n:Nat):∃ ns,Oct (mw seed n) ns n:=by
 refine ⟨(List.range n).map (sj seed),?_,fun b hb=>?_,by simp⟩
 · unfold mw;rw [List.map_map];rfl
 · obtain ⟨k,_,rfl⟩:=List.mem_map.mp hb
   exact ⟨Int.fmod_nonneg_of_pos _ (by decide),Int.fmod_lt_of_pos _ (by decide)⟩
theorem Oct.set {l:List D} {ns:List Int} {n:Nat} (h:Oct l ns n) {x:Int} (h0:0<=x) (h1:x<256) (k:Nat):Oct (l.set k (.ii x)) (ns.set k x) n:=by
 obtain ⟨rfl,hb,hn⟩:=h
 refine ⟨by rw [List.map_set],fun b hb'=>?_,by simpa using hn⟩
 rcases List.mem_or_eq_of_mem_set hb' with z | z
 · exact hb b z
 · clear hb';subst z;exact ⟨h0,h1⟩
theorem ku:∀ {ns:List Int},(∀ b∈ns,0<=b/\b<256)->dQ (ns.map .ii)=true
 | [],_=>rfl
 | b::r,h=>ah (an (h b (.head _)).1) (ah (bQ (h b (.head _)).2) (ku fun c hc=>h c (.tail _ hc)))
theorem Oct.bytes {l:List D} {ns:List Int} {n:Nat} (h:Oct l ns n) (hn:n<=64):cJ l=true:=by
 obtain ⟨rfl,hb,rfl⟩:=h
 exact ah (ku hb) (ao (by simpa using hn))
theorem iw:∀ ns:List Int,cZ (ns.map .ii)=some ns
 | []=>rfl
 | b::r=>by
  show (cZ (r.map .ii)).bind (fun l=>some (b::l))=_
  rw [iw r];rfl
theorem Oct.ints {l:List D} {ns:List Int} {n:Nat} (h:Oct l ns n):cZ l=some ns:=by rw [h.1];exact iw ns
theorem Oct.allB {l:List D} {ns:List Int} {n:Nat} (h:Oct l ns n):ns.all ko=true:=List.all_eq_true.mpr fun b hb=>ah (an (h.2.1 b hb).1) (bQ (h.2.1 b hb).2)
theorem ls:∀ (ns:List Int) (a:Nat),(∀ b∈ns,0<=b/\b<256)->((ns.map D.ii).foldl (fun n d=>n*256+sr d) (a:Int))=(((ns.map fun n=>n.toNat.toUInt8).foldl (fun n u=>n*256+u.toNat) a:Nat):Int)
 | [],_,_=>rfl
 | b::r,a,h=>by
  obtain ⟨h0,h1⟩:=h b (.head _)
  show (r.map D.ii).foldl _ ((a:Int)*256+b)=_
  have e:(a:Int)*256+b=((a*256+b.toNat.toUInt8.toNat:Nat):Int):=by
   have:b.toNat.toUInt8.toNat=b.toNat:=by
    show b.toNat % 256=b.toNat
    exact Nat.mod_eq_of_lt (by omega)
   rw [this];omega
  rw [e]
  exact ls r _ fun c hc=>h c (.tail _ hc)
theorem Oct.whole {l:List D} {ns:List Int} {n:Nat} (h:Oct l ns n):bp l=df (byteArr ns):=by
 obtain ⟨rfl,hb,_⟩:=h
 unfold bp df byteArr wN
 exact ls ns 0 hb
theorem Oct.size {l:List D} {ns:List Int} {n:Nat} (h:Oct l ns n):(byteArr ns).size=n:=by rw [byteArr_size];exact h.2.2
theorem Oct.len {l:List D} {ns:List Int} {n:Nat} (h:Oct l ns n):l.length=n:=by obtain ⟨rfl,_,rfl⟩:=h;simp
theorem gO {L:List Int} {d:Int} (h0:0<=d) (h:d<(L.length:Int)):∃ x∈L,(L.map D.ii).getD d.toNat .nn=.ii x:=by
 have hk:d.toNat<L.length:=(Int.toNat_lt h0).mpr h
 refine ⟨L[d.toNat],List.getElem_mem hk,?_⟩
 simp [List.getD,hk]
noncomputable def wF (l:List D):List D:=List.take (fE (some 63) l.length - dN none l.length) (List.drop (dN none l.length) l)
theorem wE {l:List D} (h:l.length<=63):wF l=l:=by
 unfold wF fE dN
 simp only [List.drop_zero,Nat.sub_zero]
 exact List.take_of_length_le (by omega)
theorem oR:∀ ns:List Int,oS (ns.map .ii)=true
 | []=>rfl
 | _::r=>oR r
end Mine
namespace Mine
open PySem PySem.W PyProof.Rows PySem.SeqAt
variable (P:Params)
@[irreducible] noncomputable def Zst (P:Params):Stmt->Mine.Loc->List aa->QF->QE->Prop:=(evN (jg P) 30).ex (ac P 466)
noncomputable def pk1 (d:Array UInt8) (k:Int) (l:Array UInt8) (l4:D):aa:=.inst 231 [("data",.ba d),("link",.ba l),("kind",.ii k),("off",.ii (-1)),("place",.ii 0),("l4",l4)] [("meta",.di (lH 0))]
noncomputable def pk2 (d:Array UInt8) (k:Int) (l:Array UInt8) (l4:Int) (off:D) (mark:Int):aa:=.inst 231 [("data",.ba d),("link",.ba l),("kind",.ii k),("place",.ii 0),("l4",.ii l4),("off",off)] [("meta",.di (lH mark))]
noncomputable def tl0 (mk M k nf l4 a b c:D):List (Str×D):=[("mark",mk),("length",M),("protocol",k),("nfproto",nf),("l4proto",l4),("link",a),("network",b),("transport",c)]
noncomputable def R0 (l:List D):Mine.Loc:=[("script",.d (.li l))]
noncomputable def R1 (l:List D):Mine.Loc:=[("script",.d (.li l)),("pen",.ref 0)]
noncomputable def R2 (l:List D) (A M:D):Mine.Loc:=[("script",.d (.li l)),("pen",.ref 0),("ahead",.d A),("many",.d M)]
noncomputable def R3 (l:List D) (A M:D) (fr da:V):Mine.Loc:=[("script",.d (.li l)),("pen",.ref 0),("ahead",.d A),("many",.d M),("frame",fr),("data",da)]
noncomputable def R4 (l:List D) (A M:D) (fr da:V) (T:D):Mine.Loc:=[("script",.d (.li l)),("pen",.ref 0),("ahead",.d A),("many",.d M),("frame",fr),("data",da),("tag",.d T)]
noncomputable def R6 (l:List D) (A M:D) (fr da:V) (T k:D):Mine.Loc:=[("script",.d (.li l)),("pen",.ref 0),("ahead",.d A),("many",.d M),("frame",fr),("data",da),("tag",.d T),("kind",.d k)]
noncomputable def R7 (l:List D) (A M:D) (fr da:V) (T k:D) (pk:V):Mine.Loc:=[("script",.d (.li l)),("pen",.ref 0),("ahead",.d A),("many",.d M),("frame",fr),("data",da),("tag",.d T),("kind",.d k),("packet",pk)]
noncomputable def R11 (l:List D) (A M:D) (fr da:V) (T k:D) (pk td:V):Mine.Loc:=[("script",.d (.li l)),("pen",.ref 0),("ahead",.d A),("many",.d M),("frame",fr),("data",da),("tag",.d T),("kind",.d k),("packet",pk),("told",td)]
noncomputable def R12 (l:List D) (A M:D) (fr da:V) (T k:D) (pk td:V) (nb pl:D):Mine.Loc:=[("script",.d (.li l)),("pen",.ref 0),("ahead",.d A),("many",.d M),("frame",fr),("data",da),("tag",.d T),("kind",.d k),("packet",pk),("told",td),("number",.d nb),("place",.d pl)]
noncomputable def R13 (l:List D) (A M:D) (fr da:V) (T k:D) (pk td:V) (nb pl f:D):Mine.Loc:=[("script",.d (.li l)),("pen",.ref 0),("ahead",.d A),("many",.d M),("frame",fr),("data",da),("tag",.d T),("kind",.d k),("packet",pk),("told",td),("number",.d nb),("place",.d pl),("fields",.d f)]
noncomputable def R14 (l:List D) (A M:D) (fr da:V) (T k:D) (pk td:V) (nb pl f:D):Mine.Loc:=[("script",.d (.li l)),("pen",.ref 0),("ahead",.d A),("many",.d M),("frame",fr),("data",da),("tag",.d T),("kind",.d k),("packet",pk),("told",td),("number",.d nb),("place",.d pl),("fields",.d f),("scene",.ref 5)]
noncomputable def RL (td f:D):Mine.Loc:=[("pen",.ref 0),("told",.d td),("fields",.d f),("scene",.ref 5)]
noncomputable def Z5 (pen sc:aa) (t:List aa):List aa:=pen::.dead::.dead::.dead::.dead::sc::t
theorem z0 (l:List D) (K:QF) (E:QE):Zst P (aw P 0) (R0 l) [] K E=grd (l.length.ble 1048576) (K .nx (R0 (wF l)) []):=by kernel_rfl
theorem z1 (l:List D) (K:QF) (E:QE):Zst P (aw P 1) (R0 l) [] K E=(match cZ l with | some ns=>K .nx (R1 l) [aR l 0 ((jv ns).fmod 65521)] | none=>False):=by kernel_rfl
theorem z2 (l sc:List D) (i s:Int) (K:QF) (E:QE):Zst P (aw P 2) (R1 l) [aR sc i s] K E=grd (b6 sc i s 49) (grd (b6 sc (i+1) s 7) (grd (leB 0 (aF sc (i+1) s 7)&&ltB (aF sc (i+1) s 7) 7&&ltB (aF sc (i+1) s 7) 1048576)
 (K .nx (R2 l (([18,14,17,0,18,13,16].map D.ii).getD (aF sc (i+1) s 7).toNat .nn) (.ii (48 - aF sc i s 49))) [aR sc (i+1+1) s]))):=by kernel_rfl
theorem z3 (l sc:List D) (A M i s:Int) (K:QF) (E:QE):Zst P (aw P 3) (R2 l (.ii A) (.ii M)) [aR sc i s] K E=grd (b6 sc i s (2 ^ Int.toNat 64)) (grd (leB 0 M&&leB M 64) (grd (b6 sc (i+1) s (2 ^ Int.toNat 64)) (grd (leB 0 A&&leB A 64)
 (K .nx (R3 l (.ii A) (.ii M) (.ref 2) (.ref 1)) [aR sc (i+1+1) s,.oc (.li (mw (aF sc i s (2 ^ Int.toNat 64)) M.toNat)),.oc (.li (mw (aF sc (i+1) s (2 ^ Int.toNat 64)) A.toNat))])))):=by kernel_rfl
theorem z4 (l sc:List D) (A M:D) (i s:Int) (c1 c2:aa) (K:QF) (E:QE):Zst P (aw P 4) (R3 l A M (.ref 2) (.ref 1)) [aR sc i s,c1,c2] K E=grd (b6 sc i s 3) (grd (leB 0 (aF sc i s 3)&&ltB (aF sc i s 3) 3&&ltB (aF sc i s 3) 1048576)
 (K .nx (R4 l A M (.ref 2) (.ref 1) (([33024,34984,33024].map D.ii).getD (aF sc i s 3).toNat .nn)) [aR sc (i+1) s,c1,c2])):=by kernel_rfl
theorem z5 (l fr:List D) (A T:Int) (M:D) (p c1:aa) (K:QF) (E:QE):Zst P (aw P 5) (R4 l (.ii A) M (.ref 2) (.ref 1) (.ii T)) [p,c1,.oc (.li fr)] K E=cnd (decide (13<A))
 (grd (leB 0 12&&ltB 12 ↑fr.length&&fr.length.ble 1048576) (grd (leB 0 13&&ltB 13 ↑(fr.set (Int.toNat 12) (D.ii (T.fdiv 256))).length&&(fr.set (Int.toNat 12) (D.ii (T.fdiv 256))).length.ble 1048576)
  (K .nx (R4 l (.ii A) M (.ref 2) (.ref 1) (.ii T)) [p,c1,.oc (.li ((fr.set (Int.toNat 12) (D.ii (T.fdiv 256))).set (Int.toNat 13) (D.ii (T.fmod 256))))])))
 (K .nx (R4 l (.ii A) M (.ref 2) (.ref 1) (.ii T)) [p,c1,.oc (.li fr)]):=by kernel_rfl
theorem z6 (l sc:List D) (A M T:D) (i s:Int) (c1 c2:aa) (K:QF) (E:QE):Zst P (aw P 6) (R4 l A M (.ref 2) (.ref 1) T) [aR sc i s,c1,c2] K E=grd (b6 sc i s 6) (grd (leB 0 (aF sc i s 6)&&ltB (aF sc i s 6) 6&&ltB (aF sc i s 6) 1048576)
 (K .nx (R6 l A M (.ref 2) (.ref 1) T (([2048,34525,2054,2048,34525,4660].map D.ii).getD (aF sc i s 6).toNat .nn)) [aR sc (i+1) s,c1,c2])):=by kernel_rfl
theorem z8 (l sc:List D) (A M T k:D) (i s:Int) (c1 c2:aa) (pd pl:Array UInt8) (kk:Int) (K:QF) (E:QE):Zst P (aw P 8) (R7 l A M (.ref 2) (.ref 1) T k (.ref 3)) [aR sc i s,c1,c2,pk0 pd kk pl] K E=grd (b6 sc i s 6) (grd (leB 0 (aF sc i s 6)&&ltB (aF sc i s 6) 6&&ltB (aF sc i s 6) 1048576)
 (K .nx (R7 l A M (.ref 2) (.ref 1) T k (.ref 3)) [aR sc (i+1) s,c1,c2,pk1 pd kk pl (([6,17,1,58,47,-1].map D.ii).getD (aF sc i s 6).toNat .nn)])):=by kernel_rfl
theorem z9 (l sc:List D) (A T k:D) (M i s:Int) (c1 c2:aa) (pd pl:Array UInt8) (kk l4:Int) (K:QF) (E:QE):Zst P (aw P 9) (R7 l A (.ii M) (.ref 2) (.ref 1) T k (.ref 3)) [aR sc i s,c1,c2,pk1 pd kk pl (.ii l4)] K E=grd (b6 sc i s 6) (grd (leB 0 (aF sc i s 6)&&ltB (aF sc i s 6) 6&&ltB (aF sc i s 6) 1048576)
 (K .nx (R7 l A (.ii M) (.ref 2) (.ref 1) T k (.ref 3)) [aR sc (i+1) s,c1,c2,pk2 pd kk pl l4 (([20,0,M - 12,40,M,-1].map D.ii).getD (aF sc i s 6).toNat .nn) 0])):=by kernel_rfl
theorem z10 (l sc:List D) (A M T k:D) (i s:Int) (c1 c2:aa) (pd pl:Array UInt8) (kk l4 off:Int) (K:QF) (E:QE):Zst P (aw P 10) (R7 l A M (.ref 2) (.ref 1) T k (.ref 3)) [aR sc i s,c1,c2,pk2 pd kk pl l4 (.ii off) 0] K E=grd (b6 sc i s (2 ^ Int.toNat 32))
 (K .nx (R7 l A M (.ref 2) (.ref 1) T k (.ref 3)) [aR sc (i+1) s,c1,c2,pk2 pd kk pl l4 (.ii off) (aF sc i s (2 ^ Int.toNat 32))]):=by kernel_rfl
theorem z11 (l da fr:List D) (T:D) (A M k:Int) (p:aa) (pd pl:Array UInt8) (l4 off mk:Int) (K:QF) (E:QE):Zst P (aw P 11) (R7 l (.ii A) (.ii M) (.ref 2) (.ref 1) T (.ii k) (.ref 3)) [p,.oc (.li da),.oc (.li fr),pk2 pd k pl l4 (.ii off) mk] K E=
 cnd (decide (l4<0))
 (grd (cJ fr) (grd (okB 4096 8&&okB 4096 A) (grd (cJ da) (grd (okB 4096 8&&okB 4096 M) (grd (cJ da) (grd (okB 4096 8&&okB 4096 M) (grd (okB 4096 8&&okB 4096 off)
  (K .nx (R11 l (.ii A) (.ii M) (.d (.li fr)) (.d (.li da)) T (.ii k) (.d (.ob 231 (pkF ⟨pd,pl,k,l4,off,mk⟩))) (.ref 4))
   [p,.dead,.dead,.dead,.oc (.di (tl0 (.ii mk) (.ii M) (.ii k) (.ii 0) .nn (.tu [.ii (bp fr),.ii (8*A),.ii 0]) (.tu [.ii (bp da),.ii (8*M),.ii 0]) (.tu [.ii (bp da),.ii (8*M),.ii (8*off)])))]))))))))
 (grd (cJ fr) (grd (okB 4096 8&&okB 4096 A) (grd (cJ da) (grd (okB 4096 8&&okB 4096 M) (grd (cJ da) (grd (okB 4096 8&&okB 4096 M) (grd (okB 4096 8&&okB 4096 off)
  (K .nx (R11 l (.ii A) (.ii M) (.d (.li fr)) (.d (.li da)) T (.ii k) (.d (.ob 231 (pkF ⟨pd,pl,k,l4,off,mk⟩))) (.ref 4))
   [p,.dead,.dead,.dead,.oc (.di (tl0 (.ii mk) (.ii M) (.ii k) (.ii 0) (.ii l4) (.tu [.ii (bp fr),.ii (8*A),.ii 0]) (.tu [.ii (bp da),.ii (8*M),.ii 0]) (.tu [.ii (bp da),.ii (8*M),.ii (8*off)])))])))))))):=by kernel_rfl
theorem s9 (l:List D) (A M T:D) (fr da pk:V) (mk ln l4 a b c:D) (p:aa) (K:QF) (E:QE):Zst P (aw P 12) (R11 l A M fr da T (.ii 2048) pk (.ref 4)) [p,.dead,.dead,.dead,.oc (.di (tl0 mk ln (.ii 2048) (.ii 0) l4 a b c))] K E=
 K .nx (R12 l A M fr da T (.ii 2048) pk (.ref 4) (.ii 3) (.ii 2054)) [p,.dead,.dead,.dead,.oc (.di (tl0 mk ln (.ii 2048) (.ii 2) l4 a b c))]:=by kernel_rfl
theorem rE (l:List D) (A M T:D) (fr da pk:V) (mk ln l4 a b c:D) (p:aa) (K:QF) (E:QE):Zst P (aw P 12) (R11 l A M fr da T (.ii 34525) pk (.ref 4)) [p,.dead,.dead,.dead,.oc (.di (tl0 mk ln (.ii 34525) (.ii 0) l4 a b c))] K E=
 K .nx (R12 l A M fr da T (.ii 34525) pk (.ref 4) (.ii 3) (.ii 2054)) [p,.dead,.dead,.dead,.oc (.di (tl0 mk ln (.ii 34525) (.ii 10) l4 a b c))]:=by kernel_rfl
theorem s8 (l:List D) (A M T:D) (fr da pk:V) (mk ln l4 a b c:D) (p:aa) (K:QF) (E:QE):Zst P (aw P 12) (R11 l A M fr da T (.ii 2054) pk (.ref 4)) [p,.dead,.dead,.dead,.oc (.di (tl0 mk ln (.ii 2054) (.ii 0) l4 a b c))] K E=
 K .nx (R12 l A M fr da T (.ii 2054) pk (.ref 4) (.ii 3) (.ii 2054)) [p,.dead,.dead,.dead,.oc (.di (tl0 mk ln (.ii 2054) (.ii 3) l4 a b c))]:=by kernel_rfl
theorem s7 (l:List D) (A M T:D) (fr da pk:V) (mk ln l4 a b c:D) (p:aa) (K:QF) (E:QE):Zst P (aw P 12) (R11 l A M fr da T (.ii 4660) pk (.ref 4)) [p,.dead,.dead,.dead,.oc (.di (tl0 mk ln (.ii 4660) (.ii 0) l4 a b c))] K E=
 K .nx (R12 l A M fr da T (.ii 4660) pk (.ref 4) (.ii 3) (.ii 2054)) [p,.dead,.dead,.dead,.oc (.di (tl0 mk ln (.ii 4660) (.ii 0) l4 a b c))]:=by kernel_rfl
theorem z13 (l:List D) (A M T k pk nb pl da fr:D) (td:List (Str×D)) (p:aa) (K:QF) (E:QE):Zst P (aw P 13) (R12 l A M (.d fr) (.d da) T k (.d pk) (.ref 4) nb pl) [p,.dead,.dead,.dead,.oc (.di td)] K E=
 K .nx (R13 l A M (.d fr) (.d da) T k (.d pk) (.d (.di td)) nb pl (.di FLD)) [p,.dead,.dead,.dead,.dead]:=by kernel_rfl
theorem z15 (l:List D) (A M T k nb pl f td pk:D) (fr da:V) (v:EV) (p:aa) (K:QF) (E:QE):Zst P (aw P 15) (R14 l A M fr da T k (.d pk) (.d td) nb pl f) [p,.dead,.dead,.dead,.dead,sc0 (.ob 231 (pkF v)) (.di FLD)] K E=
 K .nx (R14 l A M fr da T k (.d pk) (.d td) nb pl f) (Z5 p (scC v []) [.dead]):=by kernel_rfl
theorem z16 (l:List D) (A M T k nb pl f td pk:D) (fr da:V) (p sc:aa) (t:List aa) (K:QF) (E:QE):Zst P (aw P 16) (R14 l A M fr da T k (.d pk) (.d td) nb pl f) (Z5 p sc t) K E=
 K .nx (RL td f) (Z5 p sc t):=by kernel_rfl
noncomputable def FF:Stmt:=.Assign [.Name "packet" ⟨410,4,410,10⟩] (.Call (.Name "Packet" ⟨410,13,410,19⟩) [.Call (.Name "bytes" ⟨410,20,410,25⟩) [.Name "data" ⟨410,26,410,30⟩] [] ⟨410,20,410,31⟩,.Name "kind" ⟨410,33,410,37⟩,.Call (.Name "bytes" ⟨410,39,410,44⟩) [.Name "frame" ⟨410,45,410,50⟩] [] ⟨410,39,410,51⟩] [] ⟨410,13,410,52⟩) ⟨410,4,410,52⟩
noncomputable def oN:Stmt:=.Assign [.Name "scene" ⟨419,4,419,9⟩] (.Call (.Name "Scene" ⟨419,12,419,17⟩) [.Name "packet" ⟨419,18,419,24⟩,.Name "fields" ⟨419,26,419,32⟩,.Constant (.int 5) 0 ⟨419,34,419,35⟩] [] ⟨419,12,419,36⟩) ⟨419,4,419,36⟩
theorem Jv:ae P 466=[aw P 0,aw P 1,aw P 2,aw P 3,aw P 4,aw P 5,aw P 6,FF,aw P 8,aw P 9,aw P 10,aw P 11,aw P 12,aw P 13,oN,aw P 15,aw P 16,aw P 17,aw P 18,aw P 19,aw P 20]:=by kernel_rfl
theorem z7 (l da fr:List D) (A M T:D) (k:Int) (p:aa) (Q:QV):iZ (evN (jg P) 30) (ac P 466) (.Name "Packet" ⟨410,13,410,19⟩) [.Call (.Name "bytes" ⟨410,20,410,25⟩) [.Name "data" ⟨410,26,410,30⟩] [] ⟨410,20,410,31⟩,.Name "kind" ⟨410,33,410,37⟩,.Call (.Name "bytes" ⟨410,39,410,44⟩) [.Name "frame" ⟨410,45,410,50⟩] [] ⟨410,39,410,51⟩] (.ref 231) DX (R6 l A M (.ref 2) (.ref 1) T (.ii k)) [p,.oc (.li da),.oc (.li fr)] Q=
 (V.d (.gl (.ref 231))=.d (.gl (.ref 231))/\(match cZ da with
  | some na=>grd (na.all ko&&Nat.ble na.length 1048576) (match cZ fr with
   | some nf=>grd (nf.all ko&&Nat.ble nf.length 1048576) (true=true/\grd (Nat.ble (byteArr na).size 1048576&&Nat.ble (byteArr nf).size 1048576) (Q (.ref 3) [p,.oc (.li da),.oc (.li fr),pk0 (byteArr na) k (byteArr nf)]))
   | none=>False)
  | none=>False)):=by kernel_rfl
theorem z14 (l:List D) (A M T k nb pl td:D) (fr da:V) (v:EV) (p:aa) (Q:QV):iZ (evN (jg P) 30) (ac P 466) (.Name "Scene" ⟨419,12,419,17⟩) [.Name "packet" ⟨419,18,419,24⟩,.Name "fields" ⟨419,26,419,32⟩,.Constant (.int 5) 0 ⟨419,34,419,35⟩] (.ref 274) DW (R13 l A M fr da T k (.d (.ob 231 (pkF v))) (.d td) nb pl (.di FLD)) [p,.dead,.dead,.dead,.dead] Q=
 (V.d (.gl (.ref 274))=.d (.gl (.ref 274))/\(true=true/\Q (.ref 5) [p,.dead,.dead,.dead,.dead,sc0 (.ob 231 (pkF v)) (.di FLD)])):=by kernel_rfl
end Mine
namespace Mine
open PySem PySem.W PyProof.Rows PySem.SeqAt
variable (P:Params)
@[irreducible] noncomputable def Y (P:Params):Stmt->Mine.Loc->List aa->QF->QE->Prop:=(evN (jg P) 29).ex (ac P 466)
@[irreducible] noncomputable def B17 (P:Params):List Stmt:=n6 (aw P 17)
@[irreducible] noncomputable def s17 (P:Params):V->Mine.Loc->List aa->QF->Prop:=stp 29 (jg P) P 466 17
noncomputable def RP (td f:D) (p:Str):Mine.Loc:=[("pen",.ref 0),("told",.d td),("fields",.d f),("scene",.ref 5),("proto",.d (.ss p))]
noncomputable def RQ (td f:D) (p:Str) (n:List D) (b:Bool):Mine.Loc:=[("pen",.ref 0),("told",.d td),("fields",.d f),("scene",.ref 5),("proto",.d (.ss p)),("notes",.d (.li n)),("is_met",.d (.bb b))]
theorem z17 (td f:D) (pen sc:aa) (t:List aa) (K:QF) (E:QE):Zst P (aw P 17) (RL td f) (Z5 pen sc t) K E=bq (s17 P) (ik.map fun p=>.d (.ss p)) (RL td f) (Z5 pen sc t) K:=by kernel_rfl
theorem AA (td f:D) (p:Str) (Z:List aa) (K:QF):s17 P (.d (.ss p)) (RL td f) Z K=bm (Y P) (B17 P) (RP td f p) Z K (fun _ _=>False):=by kernel_rfl
theorem Az (td f:D) (p x:Str) (n:List D) (b:Bool) (Z:List aa) (K:QF):s17 P (.d (.ss p)) (RQ td f x n b) Z K=bm (Y P) (B17 P) (RQ td f p n b) Z K (fun _ _=>False):=by kernel_rfl
theorem b17:B17 P=[ai (B17 P) 0,ai (B17 P) 1,ai (B17 P) 2]:=by kernel_rfl
noncomputable def y0K (v:EV) (t:List aa) (pen:aa) (U:Mine.Loc) (K:QF):Option aa->Prop
 | some (.oc c)=>K .nx U (Z5 pen (.inst 274 (scF v) [("log",c)]) ((t++[aa.oc (.li [])]).set t.length .dead))
 | _=>False
theorem xg (td f:D) (p:Str) (pen:aa) (v:EV) (log:List D) (t:List aa) (K:QF) (E:QE):Y P (ai (B17 P) 0) (RP td f p) (Z5 pen (scC v log) t) K E=y0K v t pen (RP td f p) K ((t++[aa.oc (.li [])])[t.length]?):=by kernel_rfl
theorem xf (td f:D) (p:Str) (n:List D) (b:Bool) (pen:aa) (v:EV) (log:List D) (t:List aa) (K:QF) (E:QE):Y P (ai (B17 P) 0) (RQ td f p n b) (Z5 pen (scC v log) t) K E=y0K v t pen (RP td f p) K ((t++[aa.oc (.li [])])[t.length]?):=by kernel_rfl
theorem zV (td f:D) (p:Str) (pen:aa) (v:EV) (log:List D) (t:List aa) (K:QF) (E:QE):Y P (ai (B17 P) 0) (RP td f p) (Z5 pen (scC v log) t) K E=K .nx (RP td f p) (Z5 pen (scC v []) ((t++[aa.oc (.li [])]).set t.length .dead)):=by
 rw [xg,List.getElem?_concat_length];rfl
theorem zU (td f:D) (p:Str) (n:List D) (b:Bool) (pen:aa) (v:EV) (log:List D) (t:List aa) (K:QF) (E:QE):Y P (ai (B17 P) 0) (RQ td f p n b) (Z5 pen (scC v log) t) K E=K .nx (RP td f p) (Z5 pen (scC v []) ((t++[aa.oc (.li [])]).set t.length .dead)):=by
 rw [xf,List.getElem?_concat_length];rfl
theorem CT (v:EV) (f:D) (p:Str) (Z:List aa) (K:QF) (E:QE):Y P (ai (B17 P) 1) (RP (.di (aL v)) f p) Z K E=∃ v',aL v=aL v'/\evB v'=true/\cQ p=true/\K .nx (RQ (.di (aL v)) f p (bx v' p).1 (bx v' p).2) Z:=by kernel_rfl
theorem CS (v:EV) (td f:D) (p:Str) (n:List D) (b:Bool) (pen:aa) (log:List D) (t:List aa) (K:QF) (E:QE):Y P (ai (B17 P) 2) (RQ td f p n b) (Z5 pen (scC v log) t) K E=
 grd (scV v log&&(cQ p&&log.length.ble 900)) (cnd (!(D.bb (bx v p).2).py.eqv (D.bb b).py) (K (.rt (.d (.bb false))) (RQ td f p n b) (Z5 pen (scC v (log++(bx v p).1)) t))
  (grd (PyData.canLayAll0 (pyL (log++(bx v p).1))&&(D.li n).py.canLay0&&Nat.ble (D.li n).py.depth 64) (cnd (!(D.li (log++(bx v p).1)).py.eqv (D.li n).py) (K (.rt (.d (.bb false))) (RQ td f p n b) (Z5 pen (scC v (log++(bx v p).1)) t))
   (K .nx (RQ td f p n b) (Z5 pen (scC v (log++(bx v p).1)) t))))):=by kernel_rfl
noncomputable def BN (step:V->Mine.Loc->List aa->QF->Prop) (r:List V) (K:QF):QF:=fun fl U' Z'=>match fl with
 | .nx=>bq step r U' Z' K
 | .ct=>bq step r U' Z' K
 | .br=>K .nx U' Z'
 | .rt v=>K (.rt v) U' Z'
theorem iB (step:V->Mine.Loc->List aa->QF->Prop) (v:V) (r:List V) (U:Mine.Loc) (Z:List aa) (K:QF):bq step (v::r) U Z K=step v U Z (BN step r K):=by rw [bq];rfl
theorem n5 (step:V->Mine.Loc->List aa->QF->Prop) (U:Mine.Loc) (Z:List aa) (K:QF):bq step [] U Z K=K .nx U Z:=by rw [bq]
theorem wZ (v:EV) (p:Str):PyData.canLayAll0 (pyL (bx v p).1)=true/\Nat.ble (D.li (bx v p).1).py.depth 64=true:=
 ⟨hV (fun l=>PyData.canLayAll0 (pyL l)) (by kernel_rfl),hV (fun l=>Nat.ble (D.li l).py.depth 64) (by kernel_rfl)⟩
theorem r8 (P:Params) {v:EV} (hv:evB v=true) {f:D} {pen:aa} {K:QF} (hK:∀ p n b log t,K .nx (RQ (.di (aL v)) f p n b) (Z5 pen (scC v log) t)) {log:List D} {t:List aa} (hl:log.length<=100):
  bq (s17 P) (ik.map fun p=>.d (.ss p)) (RL (.di (aL v)) f) (Z5 pen (scC v log) t) K:=by
 have key:∀ (ps:List Str),(∀ p∈ps,cQ p=true)->∀ (U:Mine.Loc) (log:List D) (t:List aa),((U=RL (.di (aL v)) f/\ps≠[])\/∃ x n b,U=RQ (.di (aL v)) f x n b)->
   bq (s17 P) (ps.map fun p=>.d (.ss p)) U (Z5 pen (scC v log) t) K:=by
  intro ps
  induction ps with
  | nil=>
   intro _ U log t h
   rcases h with ⟨_,h⟩ | ⟨x,n,b,rfl⟩
   · exact absurd rfl h
   · rw [List.map_nil,bq];exact hK _ _ _ _ _
  | cons p ps ih=>
   intro hp U log t h
   have h0:=hp p (.head _)
   rw [List.map_cons,iB]
   have rest:∀ t',aft (Y P) [ai (B17 P) 1,ai (B17 P) 2] (BN (s17 P) (ps.map fun p=>.d (.ss p)) K) (fun _ _=>False) .nx (RP (.di (aL v)) f p) (Z5 pen (scC v []) t'):=by
    intro t'
    refine bd (CT ..) ⟨v,rfl,hv,h0,?_⟩
    refine bd (CS ..) ?_
    obtain ⟨l1,l2⟩:=wZ v p
    refine ad (ah (jz hv (by decide)) (ah h0 rfl)) (bL (by simp [D.py,PyData.eqv]) (ad (ah (ah l1 l1) l2) (bL ?_ ?_)))
    · rw [List.nil_append,PySem.SeqAt.eqv_refl _ (show PyData.canLay0 (D.py (.li (bx v p).1))=true from l1)];rfl
    · exact hW (ih (fun q hq=>hp q (.tail _ hq)) _ _ _ (.inr ⟨_,_,_,rfl⟩))
   rcases h with ⟨rfl,_⟩ | ⟨x,n,b,rfl⟩
   · rw [AA,b17]
     exact bW (zV ..) (rest _)
   · rw [Az,b17]
     exact bW (zU ..) (rest _)
 exact key ik (fun p hp=>List.any_eq_true.mpr ⟨p,hp,by simp⟩) _ _ _ (.inl ⟨rfl,by decide⟩)
end Mine
namespace Mine
open PySem PySem.W PyProof.Rows PySem.SeqAt
variable (P:Params)
@[irreducible] noncomputable def YY (P:Params):Stmt->Mine.Loc->List aa->QF->QE->Prop:=(evN (jg P) 28).ex (ac P 466)
@[irreducible] noncomputable def B18 (P:Params):List Stmt:=n6 (aw P 18)
@[irreducible] noncomputable def s18 (P:Params):V->Mine.Loc->List aa->QF->Prop:=stp 29 (jg P) P 466 18
@[irreducible] noncomputable def B1 (P:Params):List Stmt:=n6 (ai (B18 P) 1)
@[irreducible] noncomputable def s1 (P:Params):V->Mine.Loc->List aa->QF->Prop:=e7 (evN (jg P) 28) (ac P 466) (vU (ai (B18 P) 1)) (n6 (ai (B18 P) 1))
noncomputable def RT (td f:D) (x:V):Mine.Loc:=[("pen",.ref 0),("told",.d td),("fields",.d f),("scene",.ref 5),("turn",x)]
noncomputable def RM (td f:D) (mk:V):Mine.Loc:=[("pen",.ref 0),("told",.d td),("fields",.d f),("scene",.ref 5),("made",mk)]
noncomputable def RMP (td f:D) (mk x:V):Mine.Loc:=[("pen",.ref 0),("told",.d td),("fields",.d f),("scene",.ref 5),("made",mk),("place",x)]
noncomputable def RE (td f:D) (mk:V) (e:D):Mine.Loc:=[("pen",.ref 0),("told",.d td),("fields",.d f),("scene",.ref 5),("made",mk),("e",.d e)]
noncomputable def RET (td f:D) (mk:V) (e:D) (x:V):Mine.Loc:=[("pen",.ref 0),("told",.d td),("fields",.d f),("scene",.ref 5),("made",mk),("e",.d e),("turn",x)]
noncomputable def E0:List V:=[.d (.ii 0),.d (.ii 1),.d (.ii 2),.d (.ii 3)]
theorem z18 (td f:D) (p:Str) (n:List D) (b:Bool) (Z:List aa) (K:QF) (E:QE):Zst P (aw P 18) (RQ td f p n b) Z K E=bq (s18 P) E0 (RL td f) Z K:=by kernel_rfl
theorem Ay (td f:D) (x:V) (Z:List aa) (K:QF):s18 P x (RL td f) Z K=bm (Y P) (B18 P) (RT td f x) Z K (fun _ _=>False):=by kernel_rfl
theorem Ax (td f:D) (mk:V) (e:D) (x:V) (Z:List aa) (K:QF):s18 P x (RE td f mk e) Z K=bm (Y P) (B18 P) (RET td f mk e x) Z K (fun _ _=>False):=by kernel_rfl
theorem b18:B18 P=[ai (B18 P) 0,ai (B18 P) 1,ai (B18 P) 2,ai (B18 P) 3,ai (B18 P) 4]:=by kernel_rfl
theorem zT (td f:D) (x:V) (pen sc:aa) (t:List aa) (K:QF) (E:QE):Y P (ai (B18 P) 0) (RT td f x) (Z5 pen sc t) K E=K .nx (RM td f (.ref (t.length+6))) (Z5 pen sc (t++[.oc (.li [])])):=by kernel_rfl
theorem zS (td f:D) (mk:V) (e:D) (x:V) (pen sc:aa) (t:List aa) (K:QF) (E:QE):Y P (ai (B18 P) 0) (RET td f mk e x) (Z5 pen sc t) K E=K .nx (RM td f (.ref (t.length+6))) (Z5 pen sc (t++[.oc (.li [])])):=by kernel_rfl
theorem CR (td f:D) (mk:V) (sc:List D) (i s:Int) (scn:aa) (t:List aa) (K:QF) (E:QE):Y P (ai (B18 P) 1) (RM td f mk) (Z5 (aR sc i s) scn t) K E=
 grd (b6 sc i s 3) (grd (leB (1+aF sc i s 3) 1048576) (match bS (.rng 0 (1+aF sc i s 3)) with
  | some items=>bq (s1 P) items (RM td f mk) (Z5 (aR sc (i+1) s) scn t) K
  | none=>False)):=by kernel_rfl
theorem F7 (td f:D) (mk x:V) (Z:List aa) (K:QF):s1 P x (RM td f mk) Z K=bm (YY P) [ai (B1 P) 0] (RMP td f mk x) Z K (fun _ _=>False):=by kernel_rfl
theorem yy (td:List (Str×D)) (f:D) (k:Nat) (x:V) (sc:List D) (i s:Int) (scn:aa) (t:List aa) (K:QF) (E:QE):YY P (ai (B1 P) 0) (RMP (.di td) f (.ref k) x) (Z5 (aR sc i s) scn t) K E=
 grd (lI "append" (Z5 (aR sc i s) scn t) (.ref k)) (tO [.ref 0,.d (.di td)] [aR sc i s] (fun v Z'=>match Z',v with
  | [c'],.d x=>lk "append" (Z5 c' scn t) (.ref k) (.d x) (fun r Z1=>grd (dNN r) (K .nx (RM (.di td) f (.ref k)) Z1))
  | [c',cn],.ref 1=>lk "append" (Z5 c' scn t++[cn]) (.ref k) (.ref (Z5 (aR sc i s) scn t).length) (fun r Z1=>grd (dNN r) (K .nx (RM (.di td) f (.ref k)) Z1))
  | _,_=>False) (fun why Z'=>match Z' with
  | [c']=>False
  | _=>False)):=by kernel_rfl
end Mine
namespace Mine
open PySem PySem.W PyProof.Rows PySem.SeqAt
variable (P:Params)
@[irreducible] noncomputable def W2 (P:Params) (K:QF) (E:QE) (U:Mine.Loc) (Z:List aa):Prop:=iC (jg P) (evN (jg P) 28) (ac P 466) (ai (B18 P) 2) (nZ [] U) Z K E
theorem zR (U:Mine.Loc) (Z:List aa) (K:QF) (E:QE):Y P (ai (B18 P) 2) U Z K E=nY ["made"] U Z (W2 P K E):=by kernel_rfl
theorem o5 (td f:D) (c:CP) (r:List D) (Z:List aa) (K:QF) (E:QE):W2 P K E (RM td f (.d (.li (cpD c::r)))) Z=grd (leB 0 0&&ltB 0 ↑(cpD c::r).length&&ltB 0 1048576) (K .nx (RE td f (.d (.li (cpD c::r))) c.e) Z):=by kernel_rfl
noncomputable def yM (l:List D):D:=.tu [.ss "concat",.tu l]
theorem zQ (td f e:D) (c:CP) (Z:List aa) (K:QF) (E:QE):Y P (ai (B18 P) 3) (RE td f (.d (.li [cpD c])) e) Z K E=K .nx (RE td f (.d (.li [cpD c])) e) Z:=by kernel_rfl
theorem zP (td f e:D) (c1 c2:CP) (pen sc:aa) (t:List aa) (K:QF) (E:QE):Y P (ai (B18 P) 3) (RE td f (.d (.li [cpD c1,cpD c2])) e) (Z5 pen sc t) K E=
 (match cm (Z5 pen sc (t++[.oc (.li [c1.e,c2.e])])) (.ref (t.length+6)) with
  | some l=>grd (l.length.ble 1048576) (K .nx (RE td f (.d (.li [cpD c1,cpD c2])) (yM l)) (Z5 pen sc (t++[.oc (.li [c1.e,c2.e])])))
  | none=>False):=by kernel_rfl
theorem zO (td f e:D) (c1 c2 c3:CP) (pen sc:aa) (t:List aa) (K:QF) (E:QE):Y P (ai (B18 P) 3) (RE td f (.d (.li [cpD c1,cpD c2,cpD c3])) e) (Z5 pen sc t) K E=
 (match cm (Z5 pen sc (t++[.oc (.li [c1.e,c2.e,c3.e])])) (.ref (t.length+6)) with
  | some l=>grd (l.length.ble 1048576) (K .nx (RE td f (.d (.li [cpD c1,cpD c2,cpD c3])) (yM l)) (Z5 pen sc (t++[.oc (.li [c1.e,c2.e,c3.e])])))
  | none=>False):=by kernel_rfl
theorem CO (td e:D) (ms:List D) (v:EV) (log:List D) (pen:aa) (t:List aa) (K:QF) (E:QE):Y P (ai (B18 P) 4) (RE td (.di FLD) (.d (.li ms)) e) (Z5 pen (scC v log) t) K E=
 ∃ (v1:EV) (cs:List CP),(274:Addr)=274/\scF v=scF v1/\Str.ofString "log"=Str.ofString "log"/\ms=cs.map cpD/\evB v1=true/\1<=cs.length/\cs.length<=3/\(∀ c∈cs,bX v1 c)/\aQ e=true/\am e=cs.map (·.e)/\
  ∀ log',log'.length<=100->∃ (v2:EV) (cs2:List CP),FLD=FLD/\ms=cs2.map cpD/\dj v2 cs2 e/\K .nx (RE td (.di FLD) (.d (.li ms)) e) (Z5 pen (scC v1 log') t):=by kernel_rfl
theorem qY (p s x:aa) (t:List aa):(Z5 p s (t++[x]))[t.length+6]?=some x:=by
 show (t++[x])[t.length]?=some x
 rw [List.getElem?_concat_length]
theorem DZ (p s x y:aa) (t:List aa):(Z5 p s (t++[x])).set (t.length+6) y=Z5 p s (t++[y]):=by
 unfold Z5
 simp [List.set_cons_succ]
theorem vx {Z:List aa} {k:Nat} {l:List D} (h:Z[k]?=some (.oc (.li l))):liR Z (.ref k)=some (k,l):=by
 show (ir Z k).bind _=_
 rw [gS h];rfl
theorem w7 {Z:List aa} {k:Nat} {x:D} {l:List D} {Q:QV} (h:Z[k]?=some (.oc (.li l))):lk "append" Z (.ref k) (.d x) Q=grd (Nat.ble l.length 1048576) (Q (.d .nn) (Z.set k (.oc (.li (l++[x]))))):=by
 unfold lk
 rw [decide_eq_true rfl,vx h];rfl
theorem xX {Z:List aa} {k:Nat} {l:List D} (h:Z[k]?=some (.oc (.li l))):lI "append" Z (.ref k)=true:=by
 unfold lI
 rw [decide_eq_true rfl,vx h];rfl
theorem Fn (P:Params) {v:EV} (hv:cV v=true) {f:D} {sc:List D} {s:Int} (hd:b6 sc 0 s 1=true) {scn:aa} {t0:List aa} {K:QF}:∀ (items:List V) (cs:List CP) (i:Int),(∀ c∈cs,bX v c)->0<=i->i+10*(items.length:Int)<=900000->cs.length+items.length<=1000->
  (∀ (cs':List CP) (i':Int),(∀ c∈cs',bX v c)->cs'.length=cs.length+items.length->i<=i'->i'<=i+10*(items.length:Int)->K .nx (RM (.di (aL v)) f (.ref (t0.length+6))) (Z5 (aR sc i' s) scn (t0++[.oc (.li (cs'.map cpD))])))->
  bq (s1 P) items (RM (.di (aL v)) f (.ref (t0.length+6))) (Z5 (aR sc i s) scn (t0++[.oc (.li (cs.map cpD))])) K:=by
 intro items
 induction items with
 | nil=>
  intro cs i hc h0 hi hl hK
  rw [n5];exact hK cs i hc (by simp) (Int.le_refl _) (by simp)
 | cons x items ih=>
  intro cs i hc h0 hi hl hK
  rw [iB,F7]
  refine bW (yy ..) ?_
  rw [List.length_cons] at hi hl
  refine ad (xX (qY ..)) ?_
  refine ⟨v,rfl,hv,aT hd h0 (by omega) (by decide),by omega,fun c i' hcc h1 h2=>?_⟩
  show lk "append" (Z5 (aR sc i' s) scn (t0++[.oc (.li (cs.map cpD))])) (.ref (t0.length+6)) (.d (cpD c)) _
  rw [w7 (qY ..)]
  refine ad (ao (by simp;omega)) (ad rfl ?_)
  rw [DZ]
  refine hW ?_
  have e:cs.map cpD++[cpD c]=(cs++[c]).map cpD:=by simp
  rw [e]
  refine ih (cs++[c]) i' (fun c' h=>?_) (by omega) (by omega) (by simp;omega) fun cs' i'' a1 a2 a3 a4=>hK cs' i'' a1 (by simp at a2 ⊢;omega) (by omega) (by rw [List.length_cons];omega)
  rcases List.mem_append.mp h with h | h
  · exact hc c' h
  · rw [List.mem_singleton.mp h];exact hcc
end Mine
namespace Mine
open PySem PySem.W PyProof.Rows PySem.SeqAt
theorem vT (td f:D) (p s:aa) (t:List aa) (l:List D) (K:Mine.Loc->List aa->Prop):nY ["made"] (RM td f (.ref (t.length+6))) (Z5 p s (t++[.oc (.li l)])) K=K (RM td f (.d (.li l))) (Z5 p s (t++[.dead])):=by
 have e0:Nat.beq 0 (t.length+6)=false:=rfl
 have e5:Nat.beq 5 (t.length+6)=false:=rfl
 have er:Nat.beq (t.length+6) (t.length+6)=true:=Nat.beq_refl _
 have hf:eQ (RM td f (.ref (t.length+6))) (t.length+6) (.li l)=RM td f (.d (.li l)):=by
  unfold RM
  simp only [eQ,e0,e5,er]
 have h1:nY ["made"] (RM td f (.ref (t.length+6))) (Z5 p s (t++[.oc (.li l)])) K=(match (Z5 p s (t++[.oc (.li l)]))[t.length+6]? with
  | some c=>match oH c with
   | some d=>K (eQ (RM td f (.ref (t.length+6))) (t.length+6) d) ((Z5 p s (t++[.oc (.li l)])).set (t.length+6) .dead)
   | none=>False
  | none=>False):=by kernel_rfl
 rw [h1,qY]
 show K (eQ (RM td f (.ref (t.length+6))) (t.length+6) (.li l)) _=_
 rw [hf,DZ]
theorem zq (p s:aa) (t:List aa) (l:List D):cm (Z5 p s (t++[.oc (.li l)])) (.ref (t.length+6))=some l:=gS (qY ..)
theorem sd {v:EV} {c:CP} (h:bX v c):aQ c.e=true/\am c.e=[c].map (·.e):=by
 obtain ⟨t,x,e,h1,h2,h3⟩:=h.shape
 rw [List.map_singleton,e]
 exact ⟨fm h1 h2 h3,gm h1⟩
theorem Eo {cs:List CP} (h1:1<=cs.length) (h3:cs.length<=3):(∃ a,cs=[a])\/(∃ a b,cs=[a,b])\/∃ a b c,cs=[a,b,c]:=by
 cases cs with
 | nil=>exact absurd h1 (by decide)
 | cons a r=>cases r with
  | nil=>exact .inl ⟨a,rfl⟩
  | cons b r=>cases r with
   | nil=>exact .inr (.inl ⟨a,b,rfl⟩)
   | cons c r=>cases r with
    | nil=>exact .inr (.inr ⟨a,b,c,rfl⟩)
    | cons d r=>exact absurd (Nat.le_of_succ_le_succ (Nat.le_of_succ_le_succ (Nat.le_of_succ_le_succ h3))) (Nat.not_succ_le_zero _)
theorem lD (l:List D) (h:l.length<=900):aQ (yM l)=true/\am (yM l)=l:=by
 constructor
 · show (PyData.strOk "concat"&&Nat.ble (l.length+1) 1000)=true
   exact ah (by kernel_rfl) (ao (by omega))
 · kernel_rfl
section
variable (P:Params) {v:EV} {sc:List D} {s:Int}
theorem F5 (hv:cV v=true) (hd:b6 sc 0 s 1=true) {log:List D} {i:Int} (h0:0<=i) (hi:i<=800000) {t:List aa} {K:QF} {E:QE}
  (hK:∀ (ms:List D) (e:D) (i':Int) (log':List D) (t':List aa),log'.length<=100->i<=i'->i'<=i+40->K .nx (RE (.di (aL v)) (.di FLD) (.d (.li ms)) e) (Z5 (aR sc i' s) (scC v log') t')):
  aft (Y P) [ai (B18 P) 1,ai (B18 P) 2,ai (B18 P) 3,ai (B18 P) 4] K E .nx (RM (.di (aL v)) (.di FLD) (.ref (t.length+6))) (Z5 (aR sc i s) (scC v log) (t++[.oc (.li [])])):=by
 have hb:evB v=true:=by unfold cV at hv;rw [Bool.and_eq_true] at hv;exact hv.1
 refine bd (CR ..) ?_
 obtain ⟨d0,d1⟩:=bK (sc:=sc) (i:=i) (seed:=s) (m:=3) (by decide)
 refine ad (aT hd h0 (by omega) (by decide)) (ad (an (by omega)) ?_)
 obtain ⟨k,hk,hk1,hk3⟩:∃ k:Nat,1+aF sc i s 3=(k:Int)/\1<=k/\k<=3:=⟨(1+aF sc i s 3).toNat,by omega,by omega,by omega⟩
 rw [hk,ly k (by omega)]
 have hlen:((List.range k).map fun (i:Nat)=>V.d (.ii (0+(i:Int)))).length=k:=by simp
 refine Fn P hv hd (scn:=scC v log) (t0:=t) _ [] (i+1) (fun c hc=>nomatch hc) (by omega) (by rw [hlen];omega) (by rw [hlen];simp;omega) fun cs i' hc hl h1 h2=>?_
 rw [hlen] at hl h2
 simp only [List.length_nil,Nat.zero_add] at hl
 have fin:∀ (e:D) (t':List aa),aQ e=true->am e=cs.map (·.e)->aft (Y P) [ai (B18 P) 4] K E .nx (RE (.di (aL v)) (.di FLD) (.d (.li (cs.map cpD))) e) (Z5 (aR sc i' s) (scC v log) t'):=by
  intro e t' p1 p2
  refine bd (CO ..) ?_
  refine ⟨v,cs,rfl,rfl,rfl,rfl,hb,by omega,by omega,hc,p1,p2,fun log' hl'=>⟨v,cs,rfl,rfl,⟨by omega,by omega,hc,p1,p2⟩,hW (hK _ _ _ _ _ hl' (by omega) (by omega))⟩⟩
 refine bd (zR ..) ?_
 rw [vT]
 rcases Eo (hl▸hk1) (hl▸hk3) with ⟨c,rfl⟩ | ⟨c1,c2,rfl⟩ | ⟨c1,c2,c3,rfl⟩
 · rw [List.map_cons,o5]
   refine ad (by kernel_rfl) ?_
   refine bd (zQ ..) ?_
   clear hl;obtain ⟨p1,p2⟩:=sd (hc c (.head _))
   exact fin _ _ p1 p2
 · rw [List.map_cons,o5]
   refine ad (by kernel_rfl) ?_
   refine bd (zP ..) ?_
   rw [zq]
   clear hc hl;obtain ⟨p1,p2⟩:=lD [c1.e,c2.e] (by simp)
   exact ad (by kernel_rfl) (fin _ _ p1 p2)
 · rw [List.map_cons,o5]
   refine ad (by kernel_rfl) ?_
   refine bd (zO ..) ?_
   rw [zq]
   clear hc hl;obtain ⟨p1,p2⟩:=lD [c1.e,c2.e,c3.e] (by simp)
   exact ad (by kernel_rfl) (fin _ _ p1 p2)
theorem yZ (hv:cV v=true) (hd:b6 sc 0 s 1=true) {K:QF} (hK:∀ (ms:List D) (e:D) (i':Int) (log':List D) (t':List aa),K .nx (RE (.di (aL v)) (.di FLD) (.d (.li ms)) e) (Z5 (aR sc i' s) (scC v log') t')):
  ∀ (items:List V) (U:Mine.Loc) (log:List D) (i:Int) (t:List aa),((U=RL (.di (aL v)) (.di FLD)/\items≠[])\/∃ ms e,U=RE (.di (aL v)) (.di FLD) (.d (.li ms)) e)->0<=i->i+40*(items.length:Int)<=700000->
   bq (s18 P) items U (Z5 (aR sc i s) (scC v log) t) K
 | [],U,log,i,t,h,h0,hi=>by
  rcases h with ⟨_,h⟩ | ⟨ms,e,rfl⟩
  · exact absurd rfl h
  · rw [n5];exact hK _ _ _ _ _
 | x::items,U,log,i,t,h,h0,hi=>by
  rw [List.length_cons] at hi
  rw [iB]
  have go:=F5 P hv hd (log:=log) (i:=i) h0 (by omega) (t:=t) (K:=BN (s18 P) items K) (E:=fun _ _=>False) fun ms e i' log' t' h1 h2 h3=>yZ hv hd hK items _ log' i' t' (.inr ⟨ms,e,rfl⟩) (by omega) (by omega)
  rcases h with ⟨rfl,_⟩ | ⟨ms,e,rfl⟩
  · rw [Ay,b18]
    exact bW (zT ..) go
  · rw [Ax,b18]
    exact bW (zS ..) go
end
end Mine
namespace Mine
open PySem PySem.W PyProof.Rows PySem.SeqAt
theorem z19 (P:Params) (td e:D) (mk:V) (Z:List aa) (K:QF) (E:QE):Zst P (aw P 19) (RE td (.di FLD) mk e) Z K E=(FLD=FLD/\K .nx (RE td (.di FLD) mk e) Z):=by kernel_rfl
noncomputable def f9:D:=.ss "unknown protocol 'sctp'"
noncomputable def ZA (Z:List aa):List aa:=Z++[.oc (.li [f9,f9])]
noncomputable def ZB (Z:List aa):List aa:=ZA Z++[.oc (.li [f9])]
theorem FQ (P:Params) (td e:D) (mk:V) (Z:List aa) (K:QF) (E:QE):Zst P (aw P 20) (RE td (.di FLD) mk e) Z K E=
 oV .Mult (ZB Z) (.ref (ZA Z).length) (.d (.ii 2)) (fun b=>ky .Eq (ZB Z) (.ref Z.length) b (fun c=>K (.rt (.d (.bb c))) (RE td (.di FLD) mk e) (ZB Z))):=by kernel_rfl
theorem CL {Z:List aa} {k:Nat} {l:List D} {Q:V->Prop} (h:Z[k]?=some (.oc (.li l))):oV .Mult Z (.ref k) (.d (.ii 2)) Q=grd (l.length.ble 64&&leB 0 2&&leB 2 64) (Q (.d (.li (List.replicate (Int.toNat 2) l).flatten))):=by
 have e:xb .Mult Z (.ref k) (.d (.ii 2))=some (l.length.ble 64&&leB 0 2&&leB 2 64,.li (List.replicate (Int.toNat 2) l).flatten):=by
  show (match ir Z k with | some l=>some (Nat.ble l.length 64&&leB 0 2&&leB 2 64,D.li (List.replicate (Int.toNat 2) l).flatten) | none=>none)=_
  rw [gS h]
 unfold oV
 rw [e]
theorem CK {Z:List aa} {k:Nat} {l l':List D} {Q:Bool->Prop} (h0:Z[k]?=some (.oc (.li l'))):ky .Eq Z (.ref k) (.d (.li l)) Q=grd ((D.li l').py.canLay0&&(D.li l).py.canLay0&&Nat.ble (D.li l).py.depth 64) (Q (PyData.eqv (D.li l').py (D.li l).py)):=by
 have hd:mX Z (.ref k)=some (.li l'):=by
  show (ir Z k).map D.li=_
  rw [gS h0];rfl
 have e:xa .Eq Z (.ref k) (.d (.li l))=some ((D.li l').py.canLay0&&(D.li l).py.canLay0&&Nat.ble (D.li l).py.depth 64,PyData.eqv (D.li l').py (D.li l).py):=by
  show pZ Z (.ref k) (.d (.li l))=_
  unfold pZ
  rw [hd];rfl
 unfold ky
 rw [e]
theorem z20 (P:Params) (td e:D) (mk:V) (Z:List aa) (K:QF) (E:QE):Zst P (aw P 20) (RE td (.di FLD) mk e) Z K E=K (.rt (.d (.bb true))) (RE td (.di FLD) mk e) (ZB Z):=by
 rw [FQ]
 have h1:(ZB Z)[(ZA Z).length]?=some (.oc (.li [f9])):=by unfold ZB;rw [List.getElem?_concat_length]
 have h2:(ZB Z)[Z.length]?=some (.oc (.li [f9,f9])):=by
  unfold ZB ZA
  rw [List.append_assoc,List.getElem?_append_right (Nat.le_refl _)];simp
 rw [CL h1]
 have e:(grd (([f9]:List D).length.ble 64&&leB 0 2&&leB 2 64) (ky .Eq (ZB Z) (.ref Z.length) (.d (.li (List.replicate (Int.toNat 2) [f9]).flatten)) fun c=>K (.rt (.d (.bb c))) (RE td (.di FLD) mk e) (ZB Z)))=ky .Eq (ZB Z) (.ref Z.length) (.d (.li [f9,f9])) fun c=>K (.rt (.d (.bb c))) (RE td (.di FLD) mk e) (ZB Z):=by kernel_rfl
 refine e.trans ?_
 rw [CK h2]
 kernel_rfl
theorem ez.mono {w:World} {base:Heap} {f:Value} {n k:Nat} {sp:au} (h:ez w base f n sp) (hk:n<=k):ez w base f k sp:=by
 intro A stk G O Z vs cs s Q QQ EE h1 h2 h3 h4 h5
 exact h A stk G O Z vs cs s Q QQ EE h1 h2 h3 (Nat.lt_of_le_of_lt (Nat.add_le_add_right (Nat.add_le_add_left (Nat.mul_le_mul_left _ hk) _) _) h4) (Nat.lt_of_le_of_lt (Nat.add_le_add_right (Nat.add_le_add_left (Nat.mul_le_mul_left _ hk) _) _) h5)
theorem F8 (l:List D) (A M T k:D) (fr da:V):cK (R6 l A M fr da T k) "packet" (.ref 3)=R7 l A M fr da T k (.ref 3):=by kernel_rfl
theorem D0 (l:List D) (A M T k nb pl f:D) (fr da pk td:V):cK (R13 l A M fr da T k pk td nb pl f) "scene" (.ref 5)=R14 l A M fr da T k pk td nb pl f:=by kernel_rfl
theorem By {w:World} {base:Heap} (W:Wd w base):LOk w base 19 (FI w.params):=
 LOk.cons ((E6 W).mono (by decide)) (EF _) (LOk.cons ((HE W).mono (by decide)) (GS _) (LOk.cons ((HK W).mono (by decide)) (Ha _) (LOk.cons ((HF W).mono (by decide)) (GT _) (LOk.cons ((HM W).mono (by decide)) (Hb _)
  (LOk.cons ((aS W so0 false (Fg w) (Fw _) (Es _) 30:aU w base 369 1 _).mono (by decide)) (EC _) (LOk.cons ((E4 W).mono (by decide)) (EA _) (LOk.cons ((E8 W).mono (by decide)) (EH _) (LOk.cons ((HH W).mono (by decide)) (GX _)
   (LOk.cons (HD W) (GR _) (LOk.cons ((HG W).mono (by decide)) (GW _) (LOk.cons ((E3 W).mono (by decide)) (Ez _) LOk.nil)))))))))))
end Mine
namespace Mine
open PySem PySem.W PyProof.Rows PySem.SeqAt
section
variable {w:World} {base:Heap} {fx:Fx}
theorem zH (W:Wd w base):aV w base 19 (evN (jg w.params) 30):=kR W (LOk.so (fz:=zt) (fg:=zE) (By W)) 30
@[irreducible] noncomputable def DK (w:World) (base:Heap) (fx:Fx) (U:Mine.Loc) (G:PH) (O:Fp) (Z:List aa) (b:List Stmt) (Q:QF):Prop:=cB w base fx U G O Z (execs b fx.env) Q
theorem DK.iff {U:Mine.Loc} {G:PH} {O:Fp} {Z:List aa} {b:List Stmt} {Q:QF}:DK w base fx U G O Z b Q=cB w base fx U G O Z (execs b fx.env) Q:=by unfold DK;rfl
noncomputable def qW (w:World) (base:Heap) (fx:Fx) (r:List Stmt) (Q:QF):QF:=fun fl U' Z'=>match fl with
 | .nx=>∀ G' O',DK w base fx U' G' O' Z' r Q
 | fl=>Q fl U' Z'
theorem nP {r:List Stmt} {Q:QF}:qW w base fx r Q=zn w base fx r Q:=by
 funext fl U Z
 cases fl with
 | nx=>exact forall_congr fun _=>forall_congr fun _=>DK.iff
 | _=>rfl
theorem evZ (W:Wd w base) (ok:aE base 19 fx) (hN:FxN fx (ac w.params 466)) {st:Stmt} {r:List Stmt} {U:Mine.Loc} {G:PH} {O:Fp} {Z:List aa} {Q:QF} {R:Prop} (e:Zst w.params st U Z (qW w base fx r Q) noE=R) (q:R):DK w base fx U G O Z (st::r) Q:=by
 rw [DK.iff]
 have h:Zst w.params st U Z (qW w base fx r Q) noE:=by rw [e];exact q
 rw [nP] at h
 unfold Zst at h
 exact cB.cons (cB.of ((zH W).ex ok hN h))
theorem Fq (W:Wd w base) (ok:aE base 19 fx) (hN:FxN fx (ac w.params 466)) (hg:fx.A.guards=some []) {cf:Addr} {sp:au} (hc:ez w base (.ref cf) 19 sp) (hk:keepIn (MineH.hd.heap_1 w.params) (.ref cf)=true) {x:Str} {px pos pos':Pos} {f:Expr} {args:List Expr} (hf:eP f=false) (hs:dR args=true)
  (hx:aN (ac w.params 466) x=true) {r:List Stmt} {U:Mine.Loc} {G:PH} {O:Fp} {Z:List aa} {Q:QF} {R:Prop} (e:iZ (evN (jg w.params) 30) (ac w.params 466) f args (.ref cf) sp U Z (fun v Z1=>qW w base fx r Q .nx (cK U x v) Z1)=R) (q:R):DK w base fx U G O Z (.Assign [.Name x px] (.Call f args [] pos) pos'::r) Q:=by
 rw [DK.iff]
 refine cB.cons (jc W (zH W) ok hN hg hc (fun h X=>keeps_K hk h X) hf hs hx ?_)
 rw [<- nP,e]
 exact q
theorem xq (W:Wd w base) (ok:aE base 19 fx) (hN:FxN fx (ac w.params 466)) {v:EV} (hv:cV v=true) {sc:List D} {s:Int} (hd:b6 sc 0 s 1=true) {Q:QV} (q:Q (.d (.bb true)) []) {t:List aa} {i:Int} (h0:0<=i) (hi:i<=1000) {G:PH} {O:Fp}:
  DK w base fx (RL (.di (aL v)) (.di FLD)) G O (Z5 (aR sc i s) (scC v []) t) [aw w.params 17,aw w.params 18,aw w.params 19,aw w.params 20] (a9 false 0 Q):=by
 have hb:evB v=true:=by unfold cV at hv;rw [Bool.and_eq_true] at hv;exact hv.1
 refine evZ W ok hN (z17 ..) (r8 w.params hb (fun p n b log t=>?_) (by decide))
 intro G O
 refine evZ W ok hN (z18 ..) (yZ w.params hv hd (fun ms e i' log' t'=>?_) E0 _ _ i _ (.inl ⟨rfl,by decide⟩) h0 (by show i+40*4<=700000;omega))
 intro G O
 refine evZ W ok hN (z19 ..) ⟨rfl,?_⟩
 intro G O
 refine evZ W ok hN (z20 ..) ?_
 exact q
end
end Mine
namespace Mine
open PySem PySem.W PyProof.Rows PySem.SeqAt
section
variable {w:World} {base:Heap} {fx:Fx}
theorem x7 (W:Wd w base) (ok:aE base 19 fx) (hN:FxN fx (ac w.params 466)) (hg:fx.A.guards=some []) {v:EV} (hv:cV v=true) {sc l:List D} {s:Int} (hd:b6 sc 0 s 1=true) {Q:QV} (q:Q (.d (.bb true)) []) {i:Int} (h0:0<=i) (hi:i<=1000) {G:PH} {O:Fp} {A M T k da fr:D}:
  DK w base fx (R12 l A M (.d fr) (.d da) T k (.d (.ob 231 (pkF v))) (.ref 4) (.ii 3) (.ii 2054)) G O [aR sc i s,.dead,.dead,.dead,.oc (.di (aL v))]
   [aw w.params 13,oN,aw w.params 15,aw w.params 16,aw w.params 17,aw w.params 18,aw w.params 19,aw w.params 20] (a9 false 0 Q):=by
 refine evZ W ok hN (z13 ..) fun G O=>?_
 refine Fq W ok hN hg ((IJ W).mono (by decide)) (by kernel_rfl) rfl rfl (by kernel_rfl) (z14 ..) ?_
 refine ⟨rfl,rfl,fun G O=>?_⟩
 rw [D0]
 refine evZ W ok hN (z15 ..) fun G O=>?_
 refine evZ W ok hN (z16 ..) fun G O=>?_
 exact xq W ok hN hv hd q h0 hi
theorem q7 (W:Wd w base) (ok:aE base 19 fx) (hN:FxN fx (ac w.params 466)) (hg:fx.A.guards=some []) {pd pl:Array UInt8} {k l4 off mk:Int} (hv:cV ⟨pd,pl,k,l4,off,mk⟩=true) (hk:k=2048\/k=34525\/k=2054\/k=4660) {sc l:List D} {s:Int} (hd:b6 sc 0 s 1=true) {Q:QV} (q:Q (.d (.bb true)) []) {i:Int} (h0:0<=i) (hi:i<=1000) {G:PH} {O:Fp} {A M T da fr x a b c:D}
  (ht:tl0 (.ii mk) M (.ii k) (.ii (ch k)) x a b c=aL ⟨pd,pl,k,l4,off,mk⟩):
  DK w base fx (R11 l A M (.d fr) (.d da) T (.ii k) (.d (.ob 231 (pkF ⟨pd,pl,k,l4,off,mk⟩))) (.ref 4)) G O [aR sc i s,.dead,.dead,.dead,.oc (.di (tl0 (.ii mk) M (.ii k) (.ii 0) x a b c))]
   [aw w.params 12,aw w.params 13,oN,aw w.params 15,aw w.params 16,aw w.params 17,aw w.params 18,aw w.params 19,aw w.params 20] (a9 false 0 Q):=by
 have rest:∀ nf,nf=ch k->∀ G O,DK w base fx (R12 l A M (.d fr) (.d da) T (.ii k) (.d (.ob 231 (pkF ⟨pd,pl,k,l4,off,mk⟩))) (.ref 4) (.ii 3) (.ii 2054)) G O [aR sc i s,.dead,.dead,.dead,.oc (.di (tl0 (.ii mk) M (.ii k) (.ii nf) x a b c))]
   [aw w.params 13,oN,aw w.params 15,aw w.params 16,aw w.params 17,aw w.params 18,aw w.params 19,aw w.params 20] (a9 false 0 Q):=fun nf e G O=>by
  subst e
  rw [ht]
  exact x7 W ok hN hg hv hd q h0 hi
 clear ht hv;rcases hk with rfl | rfl | rfl | rfl
 · refine evZ W ok hN (s9 ..) ?_
   intro G O
   exact rest 2 rfl G O
 · refine evZ W ok hN (rE ..) ?_
   intro G O
   exact rest 10 rfl G O
 · refine evZ W ok hN (s8 ..) ?_
   intro G O
   exact rest 3 rfl G O
 · refine evZ W ok hN (s7 ..) ?_
   intro G O
   exact rest 0 rfl G O
end
end Mine
namespace Mine
open PySem PySem.W PyProof.Rows PySem.SeqAt
theorem jX {d n:Int} (h0:0<=d) (h1:d<n) (hn:n<=1000):(leB 0 d&&ltB d n&&ltB d 1048576)=true:=ah (ah (an h0) (bQ h1)) (bQ (by omega))
section
variable {w:World} {base:Heap} {fx:Fx}
noncomputable abbrev AW (P:Params):List Stmt:=[aw P 12,aw P 13,oN,aw P 15,aw P 16,aw P 17,aw P 18,aw P 19,aw P 20]
theorem vr (W:Wd w base) (ok:aE base 19 fx) (hN:FxN fx (ac w.params 466)) (hg:fx.A.guards=some []) {sc l:List D} {s:Int} (hd:b6 sc 0 s 1=true) {Q:QV} (q:Q (.d (.bb true)) []) {i:Int} (h0:0<=i) (hi:i<=900) {G:PH} {O:Fp}
  {A M:Int} (hA:0<=A/\A<=18) (hM:0<=M/\M<=48) {T:D} {da fr:List D} {na nf:List Int} (oa:Oct da na M.toNat) (of:Oct fr nf A.toNat):
  DK w base fx (R4 l (.ii A) (.ii M) (.ref 2) (.ref 1) T) G O [aR sc i s,.oc (.li da),.oc (.li fr)]
   (aw w.params 6::FF::aw w.params 8::aw w.params 9::aw w.params 10::aw w.params 11::AW w.params) (a9 false 0 Q):=by
 exists w,base,fx,sc,l,s,Q,i,G,O,A,M,T,da,fr,na,nf,_ W ok hN hg hd q h0 hi hA hM oa of
 have j1:=i01 ⟨h0,hi⟩
 have j2:=i01 j1
 have j3:=i01 j2
 have j4:=i01 j3
 have tA:A.toNat<=18:=tnl hA.2 (by decide)
 have tM:M.toNat<=48:=tnl hM.2 (by decide)
 obtain ⟨k0,k1⟩:=bK (sc:=sc) (i:=i) (seed:=s) (m:=6) (by decide)
 obtain ⟨k,hk,ek⟩:=gO (L:=[2048,34525,2054,2048,34525,4660]) k0 k1;exists k,_ hk ek
 refine evZ W ok hN (z6 ..) (ad (aT hd h0 (by omega) (by decide)) (ad (jX k0 k1 (by decide)) ?_))
 rw [ek]
 intro G O
 refine Fq W ok hN hg ((IK W).mono (by decide)) (by kernel_rfl) rfl rfl (by kernel_rfl) (z7 ..) ?_
 refine ⟨rfl,?_⟩
 rw [oa.ints,of.ints]
 have sa:=oa.2.2
 have sf:=of.2.2
 refine ad (ah oa.allB (ao (by rw [sa];exact Nat.le_trans tM (by decide)))) (ad (ah of.allB (ao (by rw [sf];exact Nat.le_trans tA (by decide)))) ⟨rfl,ad (ah (ao (by rw [oa.size];exact Nat.le_trans tM (by decide))) (ao (by rw [of.size];exact Nat.le_trans tA (by decide)))) ?_⟩)
 rw [F8]
 intro G O;exists G,O
 obtain ⟨k0,k1⟩:=bK (sc:=sc) (i:=i+1) (seed:=s) (m:=6) (by decide)
 obtain ⟨l4,hl4,e4⟩:=gO (L:=[6,17,1,58,47,-1]) k0 k1;exists l4,_ hl4 e4
 refine evZ W ok hN (z8 ..) (ad (aT hd j1.1 (Int.le_trans j1.2 (by decide)) (by decide)) (ad (jX k0 k1 (by decide)) ?_))
 rw [e4]
 intro G O;exists G,O
 obtain ⟨k0,k1⟩:=bK (sc:=sc) (i:=i+1+1) (seed:=s) (m:=6) (by decide)
 obtain ⟨off,hoff,eo⟩:=gO (L:=[20,0,M - 12,40,M,-1]) k0 k1;exists off,_ hoff eo
 refine evZ W ok hN (z9 ..) (ad (aT hd j2.1 (Int.le_trans j2.2 (by decide)) (by decide)) (ad (jX k0 k1 (by decide)) ?_))
 rw [eo]
 intro G O
 clear k1 k0;obtain ⟨m0,m1⟩:=bK (sc:=sc) (i:=i+1+1+1) (seed:=s) (m:=2 ^ Int.toNat 32) (by decide)
 refine evZ W ok hN (z10 ..) (ad (aT hd j3.1 (Int.le_trans j3.2 (by decide)) (by decide)) ?_)
 generalize aF sc (i+1+1+1) s (2 ^ Int.toNat 32)=mk at m0 m1
 intro G O
 have m1':mk<4294967296:=m1
 have hk':=(by decide:∀ k∈([2048,34525,2054,2048,34525,4660]:List Int),k=2048\/k=34525\/k=2054\/k=4660) k hk
 have hkr:=(by decide:∀ k∈([2048,34525,2054,2048,34525,4660]:List Int),0<=k/\k<65536) k hk
 have hl4':=(by decide:∀ k∈([6,17,1,58,47,-1]:List Int),k<256) l4 hl4
 have hoff':-48<=off/\off<=48:=by
  refine (List.forall_mem_cons.mpr ⟨by decide,List.forall_mem_cons.mpr ⟨by decide,List.forall_mem_cons.mpr ⟨⟨Int.le_trans (by decide) (Int.sub_le_sub_right hM.1 12),Int.le_trans (Int.sub_le_self _ (by decide)) hM.2⟩,List.forall_mem_cons.mpr ⟨by decide,List.forall_mem_cons.mpr ⟨⟨Int.le_trans (by decide) hM.1,hM.2⟩,by decide⟩⟩⟩⟩⟩:∀ k∈[20,0,M - 12,40,M,-1],-48<=k/\k<=48) off hoff
 have hv:cV ⟨byteArr na,byteArr nf,k,l4,off,mk⟩=true:=by
  refine ah (ah (ao ?_) (ah (ao ?_) (ah (an ?_) (an ?_)))) (ah (an m0) (ah (bQ ?_) (ah (bQ ?_) (ah (an ?_) (bQ ?_)))))
  · show (byteArr nf).size<=64;rw [of.size];exact Nat.le_trans tA (by decide)
  · show (byteArr na).size<=64;rw [oa.size];exact Nat.le_trans tM (by decide)
  · exact Int.le_trans hoff'.2 (by decide)
  · exact Int.le_trans (by decide) hoff'.1
  · show mk<4294967296;exact m1'
  · exact hl4'
  · exact hkr.1
  · exact hkr.2
 have eA:((byteArr nf).size:Int)=A:=by rw [of.size];exact Int.toNat_of_nonneg hA.1
 have eM:((byteArr na).size:Int)=M:=by rw [oa.size];exact Int.toNat_of_nonneg hM.1
 have ht:∀ x,x=oD (l4O ⟨byteArr na,byteArr nf,k,l4,off,mk⟩)->tl0 (.ii mk) (.ii M) (.ii k) (.ii (ch k)) x (.tu [.ii (bp fr),.ii (8*A),.ii 0]) (.tu [.ii (bp da),.ii (8*M),.ii 0]) (.tu [.ii (bp da),.ii (8*M),.ii (8*off)])=aL ⟨byteArr na,byteArr nf,k,l4,off,mk⟩:=by
  intro x hx
  rw [hx,oa.whole,of.whole,<- eA,<- eM]
  rfl
 have gA:okB 4096 A=true:=bP 10 (nab hA.1 hA.2 (by decide)) (by decide)
 have gM:okB 4096 M=true:=bP 10 (nab hM.1 hM.2 (by decide)) (by decide)
 have go:okB 4096 off=true:=bP 10 (Ga hoff'.1 hoff'.2 (by decide)) (by decide)
 have ba:cJ da=true:=oa.bytes (Nat.le_trans tM (by decide))
 have bf:cJ fr=true:=of.bytes (Nat.le_trans tA (by decide))
 have o1:decide (l4<0)=true->D.nn=oD (l4O ⟨byteArr na,byteArr nf,k,l4,off,mk⟩):=fun h=>by
  unfold l4O
  simp only [h];rfl
 have o2:decide (l4<0)=false->D.ii l4=oD (l4O ⟨byteArr na,byteArr nf,k,l4,off,mk⟩):=fun h=>by
  unfold l4O
  simp only [h];rfl
 refine evZ W ok hN (z11 ..) (aO (fun hc=>?_) fun hc=>?_)
 · refine ad bf (ad (ah (by decide) gA) (ad ba (ad (ah (by decide) gM) (ad ba (ad (ah (by decide) gM) (ad (ah (by decide) go) ?_))))))
   intro G O
   exact q7 W ok hN hg hv hk' hd q j4.1 (Int.le_trans j4.2 (by decide)) (ht _ (o1 hc))
 · refine ad bf (ad (ah (by decide) gA) (ad ba (ad (ah (by decide) gM) (ad ba (ad (ah (by decide) gM) (ad (ah (by decide) go) ?_))))))
   intro G O
   exact q7 W ok hN hg hv hk' hd q j4.1 (Int.le_trans j4.2 (by decide)) (ht _ (o2 hc))
end
end Mine
namespace Mine
open PySem PySem.W PyProof.Rows PySem.SeqAt
section
variable {w:World} {base:Heap} {fx:Fx}
theorem yg (W:Wd w base) (ok:aE base 19 fx) (hN:FxN fx (ac w.params 466)) (hg:fx.A.guards=some []) {l:List D} {ns:List Int} (hl:l=ns.map .ii) (hn:ns.length<=63) {Q:QV} (q:Q (.d (.bb true)) []) {G:PH} {O:Fp}:
  DK w base fx (R0 l) G O [] (ae w.params 466) (a9 false 0 Q):=by
 exists w,base,fx,l,ns,Q,G,O,_ W ok hN hg hl hn q
 have hlen:l.length<=63:=by rw [hl];simpa using hn
 rw [Jv]
 refine evZ W ok hN (z0 ..) (ad (ao (Nat.le_trans hlen (by decide))) ?_)
 rw [wE hlen]
 intro G O
 have hi:cZ l=some ns:=by rw [hl];exact iw ns
 refine evZ W ok hN (z1 ..) ?_
 rw [hi]
 intro G O
 have s0:0<=(jv ns).fmod 65521:=Int.fmod_nonneg_of_pos _ (by decide)
 have s1:(jv ns).fmod 65521<65521:=Int.fmod_lt_of_pos _ (by decide)
 generalize (jv ns).fmod 65521=s at s0 s1
 have hd:b6 l 0 s 1=true:=by
  refine ah (by rw [hl];exact oR ns) (ah (ao hlen) (ah (by decide) (ah (by decide) (ah (an s0) (ah (an (Int.le_trans (Int.le_of_lt s1) (by decide))) (by decide))))))
 obtain ⟨m0,m1⟩:=bK (sc:=l) (i:=0) (seed:=s) (m:=49) (by decide)
 obtain ⟨k0,k1⟩:=bK (sc:=l) (i:=0+1) (seed:=s) (m:=7) (by decide)
 obtain ⟨A,hA,eA⟩:=gO (L:=[18,14,17,0,18,13,16]) k0 k1
 refine evZ W ok hN (z2 ..) (ad (aT hd (by decide) (by decide) (by decide)) (ad (aT hd (by decide) (by decide) (by decide)) (ad (jX k0 k1 (by decide)) ?_)))
 rw [eA]
 have hM:0<=48 - aF l 0 s 49/\48 - aF l 0 s 49<=48:=⟨Int.sub_nonneg_of_le (Int.le_of_lt_add_one m1),Int.sub_le_self _ m0⟩
 generalize 48 - aF l 0 s 49=M at hM
 have hA':=(by decide:∀ k∈([18,14,17,0,18,13,16]:List Int),0<=k/\k<=18) A hA
 intro G O
 refine evZ W ok hN (z3 ..) (ad (aT hd (by decide) (by decide) (by decide)) (ad (ah (an hM.1) (an (Int.le_trans hM.2 (by decide)))) (ad (aT hd (by decide) (by decide) (by decide)) (ad (ah (an hA'.1) (an (Int.le_trans hA'.2 (by decide)))) ?_))))
 obtain ⟨na,oa⟩:=nM (aF l (0+1+1) s (2 ^ Int.toNat 64)) M.toNat
 obtain ⟨nf,of⟩:=nM (aF l (0+1+1+1) s (2 ^ Int.toNat 64)) A.toNat
 generalize mw (aF l (0+1+1) s (2 ^ Int.toNat 64)) M.toNat=da at oa
 generalize mw (aF l (0+1+1+1) s (2 ^ Int.toNat 64)) A.toNat=fr at of
 intro G O
 obtain ⟨k0,k1⟩:=bK (sc:=l) (i:=0+1+1+1+1) (seed:=s) (m:=3) (by decide)
 obtain ⟨T,hT,eT⟩:=gO (L:=[33024,34984,33024]) k0 k1
 refine evZ W ok hN (z4 ..) (ad (aT hd (by decide) (by decide) (by decide)) (ad (jX k0 k1 (by decide)) ?_))
 rw [eT]
 have hT':=(by decide:∀ k∈([33024,34984,33024]:List Int),0<=k/\k.fdiv 256<256) T hT
 intro G O
 have t0:0<=T.fdiv 256:=Int.fdiv_nonneg hT'.1 (by decide)
 have t1:=hT'.2
 have t2:0<=T.fmod 256:=Int.fmod_nonneg_of_pos _ (by decide)
 have t3:T.fmod 256<256:=Int.fmod_lt_of_pos _ (by decide)
 have lf:=of.len
 refine evZ W ok hN (z5 ..) (aO (fun hc=>?_) fun hc=>?_)
 · have hc':13<A:=of_decide_eq_true hc
   have lA:fr.length<=1048576:=by rw [lf];exact Nat.le_trans (tnl hA'.2 (Nat.le_refl _)) (by decide)
   have lB:(13:Int)<fr.length:=by rw [lf,Int.toNat_of_nonneg hA'.1];exact hc'
   refine ad (ah (ah (by decide) (bQ (Int.lt_trans (by decide) lB))) (ao lA)) (ad (ah (ah (by decide) (bQ (by rw [List.length_set];exact lB))) (ao (by rw [List.length_set];exact lA))) ?_)
   intro G O
   exact vr W ok hN hg hd q (by decide) (by decide) hA' hM oa ((of.set t0 t1 _).set t2 t3 _)
 · intro G O
   exact vr W ok hN hg hd q (by decide) (by decide) hA' hM oa of
end
noncomputable def DY:au:=fun vs Z Q E=>∃ ns:List Int,vs=[.d (.li (ns.map .ii))]/\Z=[]/\ns.length<=63/\Q (.d (.bb true)) []
theorem Hw {w:World} {base:Heap} (W:Wd w base):FnH base 466 (aK w.params 466) (ae w.params 466) uj []:=
 pX W (HW _) fun cs hl S=>mI (p:=fun cs=>peek (MineH.hd.heap_1 w.params) S (bindArgs (aK w.params 466) ⟨cs,[]⟩)=some (uj.zip (cs++[]))) (fun a=>by kernel_rfl) cs (by simpa using hl)
theorem Ft {w:World} {base:Heap} (W:Wd w base):ez w base (.ref 466) 20 DY:=by
 refine CdK.call (qm W false (Hw W) (dv:=[]) (fun _ _=>rfl) (IL _) fun vs Z Q q=>?_)
 obtain ⟨ns,rfl,rfl,hn,q⟩:=q
 exact ⟨rfl,fun fx G O ok hg hN=>by rw [<- DK.iff];exact yg W ok hN hg rfl hn q⟩
end Mine
namespace Mine
open PySem PySem.W PySem.Calls PyProof.Rows PySem.SeqAt
theorem Ek {K:Frag} {h:Heap} {a:Addr} {mg:Str->Option Value} {x:Str} {v:Value} (X:K.In h) (N:h.Ns a mg) (e:nsIn K a x=some (some v)):mg x=some v:=by
 exists K,h,a,mg,x,v,_ X N e
 unfold nsIn at e
 split at e
 · rename_i cls dict es n sl ho;exists cls,dict,es,n,sl,_ ho e
   obtain ⟨o,es',ep,e1,e2,_,f⟩:=N
   have e3:=X _ _ ho
   rw [e1] at e3
   clear e1;obtain rfl:=Option.some.inj e3
   cases e2
   split at e
   · rename_i d hd
     cases e
     rw [<- f x]
     unfold nsFind findBy
     rw [<- Array.find?_toList,hd]
     rfl
   · split at e <;> cases e
 · contradiction
theorem BC (P:Params):nsIn (MineH.hd.heap_1 P) mainGlobals "law"=some (some (.ref 466)):=by kernel_rfl
theorem rF (w:World) {s₁:Shared} {mg mb:Str->Option Value} (KX:(MineH.hd.heap_1 w.params).In s₁.heap) (Tg:s₁.heap.Ns mainGlobals mg) (Tb:s₁.heap.Ns builtinsNs mb) (hbt:∀ x:Str,x≠"__name__"->mb x=bootBuiltins x) (nl:s₁.heap.NoLimit)
  {a:Addr} (hmg:mg "law"=some (.ref a)) {c:Value} {ns:List Int} (hn:ns.length<=63) (hr:∀ G:PH,(∀ b o,s₁.heap.get? b=some o->G b=some o)->DR w G (.li (ns.map .ii)) c) {QQ EE:Value->Shared->Prop}
  (q:∀ h' tk,(∀ b o,s₁.heap.get? b=some o->h'.get? b=some o)->QQ (.bool true) {s₁ with heap:=h',toks:=tk}):wpK (model PR w) callerA (PySem.call (.ref a) [c]) QQ EE s₁:=by
 have ha:=Ek KX Tg (BC w.params)
 rw [hmg] at ha
 clear hmg;cases ha
 have W:Wd w s₁.heap:=⟨KX,nl,mb,Tb,hbt⟩
 refine Ft W callerA [] (fun b=>s₁.heap.get? b) [] [] [.d (.li (ns.map .ii))] [c] s₁ (fun v Z=>v=.d (.bb true)) QQ EE rfl rfl rfl (by decide) (by decide) trivial (fun b hb=>nomatch hb) ⟨fun _ _ e=>e,fun _ _ e=>e,rfl,List.nodup_nil,fun a ha=>by simp at ha⟩ ?_ ⟨ns,rfl,rfl,hn,rfl⟩
  fun G' O' Z' v c' h' tk x S' F' fo rv qv=>?_
 · unfold VRs
   exact ⟨_,_,rfl,by unfold VR;exact hr _ fun _ _ e=>e,rfl⟩
 · subst qv
   unfold VR DR at rv
   subst rv
   exact q h' tk fun b o e=>x.keep b o e (by simp) (by simp) (by simp)
theorem pj {R:WRecords} {cl:Str->Option Addr} {h:Heap}:∀ {ds:List WData} {cs:List Value} {as:List Addr},ReadsAllW R cl h cs ds as->WShape.hasItems R ds .int=true->∃ ns:List Int,ns.length=ds.length/\∀ w G,DRs w G (ns.map .ii) cs:=by
 exists R,cl,h
 intro ds
 induction ds with
 | nil=>intro cs as h _;cases h;exact ⟨[],rfl,fun w G=>rfl⟩
 | cons d ds ih=>
  intro cs as h hi
  cases h with
  | cons r rs=>
   obtain ⟨ns,hl,hd⟩:=ih rs (Bool.and_eq_true_iff.mp hi).2
   have h1:=(Bool.and_eq_true_iff.mp hi).1
   clear hi ih rs
   cases r with
   | int=>exact ⟨_::ns,congrArg Nat.succ hl,fun w G=>⟨_,_,rfl,⟨_,rfl⟩,hd w G⟩⟩
   | _=>exact aX h1
noncomputable abbrev nE:RowW:=PySem.Challenge.rw_pq1089_01.row.toRowW
theorem sY {args:List WData} {cl:Str->Option Addr} {h:Heap} {vals:List Value} {as:List Addr} (hpre:nE.claim.pre args=true) (hrd:ReadsAllW nE.records cl h vals args as):
  ∃ (c:Value) (ns:List Int),vals=[c]/\ns.length<=63/\∀ (w:World) (G:PH),(∀ b o,h.get? b=some o->G b=some o)->DR w G (.li (ns.map .ii)) c:=by
 exists args,cl,h,vals,as,_ hpre hrd
 have hsh:=(pre_splitW hpre).1
 have hc:=(pre_splitW hpre).2
 have hsh:WShape.hasAll nE.records args [.list .int]=true:=hsh
 cases hrd with
 | nil=>exact aX hsh
 | cons r rs=>
  rename_i v vs d ds as bs
  unfold WShape.hasAll at hsh
  simp only [Bool.and_eq_true] at hsh
  obtain ⟨h1,h2⟩:=hsh
  cases rs with
  | cons _ _=>exact aX h2
  | nil=>
   cases r with
   | list g e1 e2 rr=>
    rename_i a o vs n xs as
    have h1:WShape.hasItems nE.records xs .int=true:=(Bool.or_false _).symm.trans ((show WShape.has nE.records (.list xs) (.list .int)=(WShape.hasItems nE.records xs .int||false) by kernel_rfl).symm.trans h1)
    obtain ⟨ns,hl,hd⟩:=pj rr h1
    refine ⟨_,ns,rfl,?_,fun w G k=>?_⟩
    · rw [hl]
      have hp:nE.pre=.and (.not (.lt (.lit (.int 63)) (.len (.arg 0)))) (.lit (.bool true)):=rfl
      rw [hp] at hc
      have hv:less? (.int 63) (.int xs.length)=some (decide ((63:Int)<xs.length)):=by kernel_rfl
      simp only [WTm.holds,WTm.value,List.getElem?_cons_zero,hv,Option.map_some] at hc
      cases h63:decide ((63:Int)<xs.length) with
      | true=>rw [h63] at hc;contradiction
      | false=>have:=of_decide_eq_false h63;clear hc;omega
    · unfold DR
      exact ⟨_,vs.toList,_,_,rfl,k _ _ g,e1,by rw [e2],hd w G⟩
   | _=>exact aX h1
theorem vR {args:List WData} {cl:Str->Option Addr} {mean:ExcName->Option Value} {s₁:Shared} (hg:s₁.gens=#[]) {h':Heap} {tk:Nat} (k:∀ b o,s₁.heap.get? b=some o->h'.get? b=some o):
  GoodWG nE.claim cl mean args s₁ (.ok (.ret (.bool true))) {s₁ with heap:=h',toks:=tk}:=by
 refine ⟨.inl ⟨.bool true,.bool true,[],rfl,fun _=>rfl,.bool true,?_,fun _=>⟨List.nodup_nil,fun a ha=>nomatch ha⟩⟩,.of_keep k,rfl,.of_eq hg⟩
 kernel_rfl
end Mine
end
open PySem PySem.W PySem.Calls PyProof.Rows Mine
namespace MineH
theorem tab_ne:tab≠[]:=fun e=>absurd (congrArg List.length e) (by rw [show tab.length=55 by kernel_rfl];decide)
noncomputable def ld:DefRec:=(tab.getLast tab_ne).1
theorem fin.tw6000875161123020278:True:=trivial
theorem fin.tw13833338264797398165:True:=trivial
set_option maxHeartbeats 0 in
set_option Elab.async true in
theorem fin:PySem.Challenge.rw_pq1089_01.Holds:=by
 o_law;rename_i said
 refine EY (q:=lq) (loose:=lo) (Xt:=Xt) (XP:=fun _ _=>True) (Yf:=hd.obs) (Ya:=hd.val) (YP:=hd.says) (d:=ld) (kwd:=[]) left hd.of hd.keeps (fun _ _=>trivial) (fun _ _ _ _ _=>trivial) (by kernel_rfl) (by kernel_rfl) (by kernel_rfl) (fun s e=>recFacts_of e) (by kernel_rfl) said (by kernel_rfl)
  ⟨rfl,rfl,rfl,rfl,rfl,by decide +kernel⟩ ⟨[.list []],by decide +kernel,by decide +kernel⟩ ?_
 exact fun w s₀ s₁ mg mb G Y a o pm cd doc dV kV ho hd' hcd hD hmg hg args vals as hpre hlay hrd hwl hlo=>by
  obtain ⟨c,ns,rfl,hn,hr⟩:=sY hpre hrd
  exact rF w Y G.T.g G.T.b G.T.builtins G.T.nolimit hmg hn (fun G' k=>hr w G' k) fun h' tk k=>vR hg k
end MineH
theorem PySem.Challenge.cw_pq1089_01_holds : PySem.Challenge.rw_pq1089_01.Holds := by
 exact MineH.fin
