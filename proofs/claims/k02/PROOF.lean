import PyProof.Rows.All
import Wide.All
import OpenK.AllK
import Wide.FinOn
import KE.HD2
import KE.OsRunLaw
import PySem.Challenge.RW_switchedlayers_k02_arrangements
import HandS.ForMost
import HandS.TupAny
import HandS.List
import HandS.Exc
import HandS.ExcOwn
import KE.KeyNested
import KE.KDictKeyed
import HandS.Nested
import HandS.Wide
import HandS.Flow
import HandS.Conv
import HandS.Deep
import HandS.IsInst
import HandS.CallSlots
import HandS.Base
import HandS.Comp
import HandS.Iter
import HandS.Call
import HandS.Hot
import HandS.HotCalls
import PyProof.Rows.TupIter
import HandS.ExcCtx
import HandS.TryOnly
import HandS.TryMany
import HandS.More
import HandS.Property
import HandS.WordsExc
import HandS.Star
import PyProof.WalkInts
import HandS.ExcInit
import HandS.ExcInitHot
import HandS.NestedHot
import KE.KIntText
import HandS.Text
import HandS.Dict
import HandS.Small
import KE.DataFind
import HandS.ClsMeth
import HandS.MakeKwOnly
import HandS.ExcIs
import HandS.ExcField
import KE.KExcIs
import HandS.DictComp
import HandS.Defaults
import PyProof.SumAny
import HandS.Strs
import HandS.Ends
import KE.KDictDisplayH
import PyProof.DictTable
import HandS.Style
import HandS.RaiseFrom
import HandS.SuiteRaise
import KE.KSuper
import KE.KExcSuper
import HandS.TupMul
import KE.KUnpackStar
import HandS.MethStar
import HandS.Finally
import KE.KWithOwn
import HandS.EndTab
import KE.KTryMore
import HandS.DictEq
import HandS.MakeKw
import HandS.GenList
import PyProof.GenRules
import PyProof.ForAny
import HandS.GenYield
import PyProof.StrLawsTight
import KE.KExcLine
import KE.KNestM
set_option Elab.async false
set_option linter.all false
set_option maxRecDepth 100000
namespace M3
open PySem PySem.W PySem.Calls PyProof.Rows
noncomputable abbrev endQ (M:Nat) (p:Program) (w:World) (os:OsState):Option SharedT:=HeadRun.endF (HeadRun.stepQ (HeadRun.denQ HeadRun.tabQ) p w) M p w os
def Tag (K:Params→Frag) (as:List Addr):Prop:=True
theorem cap {p:Prop} {K:Params→Frag} {as:List Addr} {ek:∀P,as=(K P).map (·.1)} {H:Hook} (z:Tag K as) (h:p) (e:H=kHook K as ek):p:=h
structure Wr (p:Prop) where
 K:Params→Frag
 as:List Addr
 ok:Tag K as→p→p
theorem head3 {r:OpenRow} {q:Program} {K:Params→Frag} {as:List Addr} {M:Nat} {loose:List PySem.Str} {d:DefRec} {kwd:List (PySem.Str×PySem.Expr)} (ek:∀P,as=(K P).map (·.1))
  (e:opening r.prog=plainProg r.prog.main.scope.names) (f:∀s,fenceModules? r.prog s=some s)
  (run1:∀(w:World) (os:OsState),(endQ M r.prog w os).map (fun s=>HeadRun.looksF r.prog (boot_heap w.params) s.abs)=some true)
  (run2:∀(w:World) (os:OsState),(endQ M r.prog w os).map (fun s=>HeadRun.seenQ q loose (importedModules r.prog.main.body) (fun s=>xlAt q [] s && recOk r.toRowW.records s) s.abs)=some (openGood q loose))
  (run3:∀(w:World) (os:OsState),(endQ M r.prog w os).map (fun s=>as.map (HeadRun.getT s))=some ((K w.params).map fun p=>some p.2))
  (isDef:defOf q r.name=some (d,kwd))
  (inText:r.prog.theDef r.name=some (d.params,d.body,d.scope))
  (named:kwWritten? d.params.kwonlyargs d.params.kw_defaults=some kwd)
  (noWrites:(!r.writes || r.records.isEmpty)=true)
  (said:r.wellSaid=true)
  (chained:(chainsOk q && opensWell r.prog && (frees r.toRowW && r.within.isEmpty))=true)
  (isBare:r.prog.bare) (kept:r.toRowW.promised)
  (call:WalkO q loose (XL q []) (kHook K as ek).says r.toRowW d kwd fun f vs=>PySem.call f vs):r.Holds:=by
 refine HeadRun.head_any (H:=kHook K as ek) (ob:=fun s=>as.map (HeadRun.getT s)) (M:=M) (fun s=>List.map_congr_left fun a _=>HeadRun.getT_eq s a) e f (fun w os=>?_) isDef inText named noWrites said chained isBare kept call
 obtain⟨s,hs,h1⟩:=Option.map_eq_some_iff.mp (run1 w os)
 obtain⟨s2,hs2,h2⟩:=Option.map_eq_some_iff.mp (run2 w os)
 obtain⟨s3,hs3,h3⟩:=Option.map_eq_some_iff.mp (run3 w os)
 obtain rfl:s=s2:=Option.some.inj (hs.symm.trans hs2)
 obtain rfl:s=s3:=Option.some.inj (hs.symm.trans hs3)
 show (endQ M r.prog w os).map _=_
 rw[hs]
 show some (_,_,_)=some (_,_,_)
 exact congrArg some (Prod.ext h1 (Prod.ext h2 h3))
end M3
set_option maxHeartbeats 0
namespace My.Top
open PySem PySem.W PySem.Calls PyProof.Rows
abbrev R:OpenRow:=OpenLaw.row PySem.Challenge.rw_switchedlayers_k02_arrangements
section
local macro_rules | `(tactic| o_headL $H) => `(tactic| exact M3.cap (H := $H) (by assumption) (by assumption) rfl)
noncomputable def wr:M3.Wr R.Holds:=by
 refine' M3.Wr.mk _ _ (fun z h=>_)
 rotate_left 2
 k_headL
end
noncomputable def as:List Addr:=wr.as
theorem ek (P:Params):as=(wr.heap_1 P).map (·.1):=by kernel_rfl
def loose0:List PySem.Str:=["arrangements","_law_cell_at","_law_digits","_law_spelled","_law_arranged"]
def loose:List PySem.Str:=loose0
abbrev at_:Nat:=7
noncomputable abbrev q:Program:=view R.prog [7]
theorem run1 (w:World) (os:OsState):(M3.endQ 30000 R.prog w os).map (fun s=>HeadRun.looksF R.prog (boot_heap w.params) s.abs)=some true:=by kernel_rfl
theorem run2 (w:World) (os:OsState):(M3.endQ 30000 R.prog w os).map (fun s=>HeadRun.seenQ q loose (importedModules R.prog.main.body) (fun s=>xlAt q [] s && recOk R.toRowW.records s) s.abs)=some (openGood q loose):=by kernel_rfl
theorem run3 (w:World) (os:OsState):(M3.endQ 30000 R.prog w os).map (fun s=>as.map (HeadRun.getT s))=some ((wr.heap_1 w.params).map fun p=>some p.2):=by kernel_rfl
theorem top (hk:kwWritten? (HeadRun.topDef R.prog 7).params.kwonlyargs (HeadRun.topDef R.prog 7).params.kw_defaults=some []) (k1:R.wellSaid=true) (hw:R.toRowW.promised)
  (call:WalkO q loose (XL q []) (kHook wr.heap_1 as ek).says R.toRowW (HeadRun.topDef R.prog 7) [] fun f vs=>PySem.call f vs):R.Holds:=
 M3.head3 (d:=HeadRun.topDef R.prog 7) ek (by kernel_rfl) (fun s=>by kernel_rfl) run1 run2 run3 (by kernel_rfl) (by kernel_rfl) hk (by rfl) k1 (by decide +kernel) ⟨rfl,rfl,rfl,rfl,rfl,by decide +kernel⟩ hw call
end My.Top
namespace M3
open PySem PySem.Spec PyProof.Rows L2
def NewT (xs:List V) (H:Hp) (Q:VK):Prop:=∀(p:Addr) (o:Obj),H p=none→o.dict=none→Q (.ref p) (upd H p (.frz o (.tup xs)))
section
variable {X:Cx} {pos:Pos} {es:List Expr} {t:TA}
theorem laidT {pins:List (Addr×Obj)} {σ:L2.St} {H:Hp} {s:Shared} {h':Heap} {k:Nat} {Q:VK} {xs:List V} {us:List Value} {n:Nat} (I:Inv X pins σ H { s with heap:=h' }) (r:Vals xs us) (z:xs.length≤sizeLine) (q:NewT xs H Q) :
  EP X pins σ Q (.ref h'.objs.size) { s with heap:=h'.push { cls:=.type "tuple",data:=.seq us.toArray n },toks:=k }:=by
 have hf:H h'.objs.size=none:=I.hok.fresh (Nat.le_refl _)
 refine⟨.ref h'.objs.size,_,I.laid (t':=k) (o:=.frz { cls:=.type "tuple",data:=.seq us.toArray n } (.tup xs)) (fun b u e=>Heap.get?_push_of_some _ e) (Nat.le_refl _) ?_,rfl,q _ _ hf rfl⟩
 exact⟨Heap.get?_push_size _ rfl,z,us,r,⟨_,Heap.get?_push_size _ rfl,rfl,_,rfl⟩⟩
theorem pe_tupZ {x1} (h:PA X es t):PE X (.Tuple es x1 pos) (fun σ H Q=>t σ H fun xs H1=>xs.length≤sizeLine∧NewT xs H1 Q):=
 ⟨fun pins now σ H Q inv wish=>wpAny_Tuple_spliced <| thn (h.run pos pins now σ H _ inv wish) fun _ later ⟨_,_,J,r,z,q⟩=>⟨r.length▸z,laidT (s:=later) J r z q⟩⟩
def rCatZ (K:PySem.W.Frag):R2:=fun x y H Q=>∃a b xs ys,x=.ref a∧y=.ref b∧SqT K H a xs∧SqT K H b ys∧xs.length+ys.length≤sizeLine∧
 (xs=[]→Q (.ref b) H)∧(xs≠[]→ys=[]→Q (.ref a) H)∧(xs≠[]→ys≠[]→NewT (xs++ys) H Q)
theorem op_catZ:OpR X (binaryOp .Add) (rCatZ X.K):=by
 rintro pins now σ H _ _ v u Q inv rx ry ⟨a,b,xs,ys,rfl,rfl,ta,tb,z,left,keep,new⟩
 obtain rfl:v=.ref a:=rx
 obtain rfl:u=.ref b:=ry
 obtain⟨as,va,pa,-⟩:=inv.tuple ta
 obtain⟨bs,vb,pb,-⟩:=inv.tuple tb
 rcases eq_or_ne xs [] with e | e
 ·subst e
  cases va
  exact cat_tup0 pa pb ⟨V.ref b,H,inv,rfl,left rfl⟩
 ·have room:as.length+bs.length≤sizeLine:=va.length▸vb.length▸z
  exact HT.cat_tup pa pb (mt va.nil_iff.mp e) (fun q=>⟨V.ref a,H,inv,rfl,keep e (vb.nil_iff.mp q)⟩) (fun q=>laidT (s:=now) inv (va.append vb) (by simpa using z) (new e (mt vb.nil_iff.mpr q))) room
where
 eq_or_ne (l m:List V):l=m∨l≠m:=Classical.em _
def rSlZ (K:PySem.W.Frag):V→Option Int→Option Int→Hp→VK→Prop:=fun x lo hi H Q=>∃a xs,x=.ref a∧SqT K H a xs∧
 (HT.sIx xs.length 0 lo=0∧HT.sIx xs.length xs.length hi=xs.length→Q (.ref a) H)∧(¬(HT.sIx xs.length 0 lo=0∧HT.sIx xs.length xs.length hi=xs.length)→NewT (cutV xs lo hi) H Q)
theorem sl_tupZ:SlR X (rSlZ X.K):=by
 rintro pins now σ H _ v vl vu lo hi sl Q inv rx cut plo phi ⟨a,xs,rfl,at_,whole,part⟩
 obtain rfl:v=.ref a:=rx
 obtain⟨its,vals,tup,z⟩:=inv.tuple at_
 have same:its.toArray.size=xs.length:=(List.size_toArray ..).trans vals.length.symm
 refine⟨"tuple",_,PyProof.Rows.slot_tuple_getitem.lookup,tup.typeIs,?_⟩
 rcases Classical.em (HT.sIx xs.length 0 lo=0∧HT.sIx xs.length xs.length hi=xs.length) with all | less
 ·exact getItem_tuple_whole tup cut plo phi (same.symm▸all) ⟨V.ref a,H,inv,rfl,whole all⟩
 ·refine HT.getItem_tuple_cut tup cut plo phi (same.symm▸less) ?_ (same.symm▸z)
  rw[same]
  exact laidT (s:=now) inv ((vals.drop _).take _) (Nat.le_trans (cutV_length ..) z) (part less)
theorem call_tupleZ:CallR X (.type "tuple") (fun xs H Q=>∃p ys,xs=[.ref p]∧((SqL X.K H p ys∧NewT ys H Q)∨(SqT X.K H p ys∧Q (.ref p) H))):=by
 rintro pins now σ H _ us Q inv vals ⟨p,ys,rfl,h⟩
 obtain rfl:=Vals.ref1 vals
 cases h with
 | inl h=>
  obtain⟨its,w,lst,z⟩:=inv.list h.1
  have len:=w.length
  have room:=line63
  exact call_tuple_list lst.isList (fun later kept=>laidT (s:=now) (inv.kept (t':=now.toks) kept) w z h.2) (by simp only[List.size_toArray];omega)
 | inr h=>
  obtain⟨its,w,tup,z⟩:=inv.tuple h.1
  exact call_tuple_same tup ⟨V.ref p,H,inv,rfl,h.2⟩
end
def FTup (F:Hp) (p:Addr) (vs:List V):Prop:=∃o,F p=some (.frz o (.tup vs))∧o.dict=none
theorem FTup.sq {K:PySem.W.Frag} {F:Hp} {p:Addr} {vs:List V} (h:FTup F p vs):SqT K F p vs:=by obtain⟨o,e,_⟩:=h;exact .inl (.inr ⟨o,e⟩)
theorem FTup.mono {F F':Hp} {p:Addr} {vs:List V} (s:Same F F') (h:FTup F p vs):FTup F' p vs:=by obtain⟨o,e,d⟩:=h;exact⟨o,s _ _ e,d⟩
end M3
namespace M3
open PySem PySem.Spec PyProof.Rows L2
inductive D where
 | non | bl (b:Bool) | int (i:Int) | str (x:Str) | ty (n:String)
 | tup (xs:List D) | ctup (xs:List D) | lst (xs:List D) | ro (xs:List D) | dict (ks:List Key) (vs:List D) | dd (ks:List D) (vs:List D) | ref (k:Nat) | fn (c:String) (ks:List Nat)
inductive W where
 | val (d:D) | bor (xs:List D) | bod (ks:List Key) (vs:List D) | bdd (ks:List D) (vs:List D) | exn (c:String) (x:D) | len (xs:List D)
def W.own:W→Bool
 | .bor _=>true
 | .bod _ _=>true
 | .bdd _ _=>true
 | _=>false
inductive MO where
 | lst (xs:List D) | dic (ks:List Key) (vs:List D) | ddi (ks:List D) (vs:List D)
 | ins (c:String) (fs:List (Str×D))
 | cell (d:D)
 | kc (d:D) | slp (i:Nat) | dead
 | rdd (ks:List D) (vs:List D)
def MO.tr:MO→Bool
 | .kc _=>false
 | .slp _=>false
 | .dead=>false
 | .rdd _ _=>false
 | _=>true
abbrev Store:=List MO
inductive Res (α:Type) where
 | ok (a:α) (st:Store)
 | err (c:String) (x:D) (st:Store)
 | bad
abbrev M (α:Type):=Store→Res α
def M.pure {α:Type} (a:α):M α:=fun st=>.ok a st
def M.bind {α β:Type} (m:M α) (f:α→M β):M β:=fun st=>match m st with
 | .ok a st'=>f a st'
 | .err c x st'=>.err c x st'
 | .bad=>.bad
def M.bad {α:Type}:M α:=fun _=>.bad
def M.quiet {α:Type} (m:M α):M α:=fun st=>match m st with
 | .ok a st'=>.ok a st'
 | _=>.bad
def M.of {α:Type}:Option α→M α
 | some a=>M.pure a
 | none=>M.bad
def M.chk (c:Prop) [Decidable c]:M Unit:=fun st=>if c then .ok () st else .bad
abbrev Sl3:=List (Option W)
mutual
def D.nk:D→Option NestedKey
 | .non=>some .none
 | .bl b=>some (.num (if b then 1 else 0))
 | .int i=>some (.num i)
 | .str x=>some (.text x)
 | .tup xs=>(D.nks xs).map .tup
 | _=>none
def D.nks:List D→Option (List NestedKey)
 | []=>some []
 | x :: xs=>match D.nk x,D.nks xs with
  | some k,some ks=>some (k :: ks)
  | _,_=>none
end
def D.tk:D→Option NestedKey
 | .tup xs=>match D.nks xs with
  | some ks=>if (NestedKey.tup ks).depth≤8 then some (.tup ks) else none
  | none=>none
 | _=>none
abbrev DkX:=List (NestedKey×Addr×Value)
def DkO (w:World) (p:Addr) (xs:DkX):HO:=.ext fun h=>(p == sysModules)=false∧(xs.map (·.1)).Nodup∧xs.length≤sizeLine∧∃o es ep,h.get? p=some o∧o.ExactDict∧o.data=.dict es ep∧es.toList=xs.map fun x=>⟨x.1.hash w,.ref x.2.1,x.2.2⟩
structure FV where
 ob:Addr→HO
 c:Addr
 qual:Str
 cl:List (Str×Addr)
structure KW where
 K:PySem.W.Frag
 w:World
 nf:String→FV→Prop
def CellO (a:Addr) (v:V):HO:=.ext fun h=>∃u,RelV v u∧h.IsCell a (some u)
mutual
inductive Rep (K:KW) (F:Hp) (io:Nat→Option Addr):D→V→Prop where
 | non:Rep K F io .non .non
 | bl {b}:Rep K F io (.bl b) (.bl b)
 | int {i}:Rep K F io (.int i) (.int i)
 | str {x}:Rep K F io (.str x) (.str x)
 | ty {n}:Rep K F io (.ty n) (.ty n)
 | tup {xs vs p}:FTup F p vs→RepL K F io xs vs→Rep K F io (.tup xs) (.ref p)
 | ctup {xs vs p}:SqT K.K F p vs→RepL K F io xs vs→Rep K F io (.ctup xs) (.ref p)
 | lst {xs vs p}:F p=some (.lst vs)→RepL K F io xs vs→Rep K F io (.lst xs) (.ref p)
 | ro {xs vs p}:SqL K.K F p vs→RepL K F io xs vs→Rep K F io (.ro xs) (.ref p)
 | dict {ks us p od} {kvs:List (Key×V)}:F p=some (.frz od (.dK kvs))→kvs.map (·.1)=ks→RepL K F io us (kvs.map (·.2))→Rep K F io (.dict ks us) (.ref p)
 | dd {ks us p od} {xs:DkX} {vs:List V}:F p=some (.frz od (DkO K.w p xs))→RepL K F io ks (xs.map fun x=>.ref x.2.1)→ks.map D.tk=xs.map (fun x=>some x.1)→Vals vs (xs.map (·.2.2))→RepL K F io us vs→Rep K F io (.dd ks us) (.ref p)
 | ref {k a}:io k=some a→Rep K F io (.ref k) (.ref a)
 | fn {c ks p} {Fn:FV}:F p=some (Fn.ob p)→K.nf c Fn→F Fn.c=some (LamX.CodeO Fn.c Fn.qual)→ks.map io=Fn.cl.map (fun y=>some y.2)→(Fn.cl.map (·.2)).Nodup→Rep K F io (.fn c ks) (.ref p)
inductive RepL (K:KW) (F:Hp) (io:Nat→Option Addr):List D→List V→Prop where
 | nil:RepL K F io [] []
 | cons {x xs v vs}:Rep K F io x v→RepL K F io xs vs→RepL K F io (x :: xs) (v :: vs)
end
abbrev Io:=Nat→Option Addr
def IoLe (io io':Io):Prop:=∀k a,io k=some a→io' k=some a
theorem IoLe.refl (io:Io):IoLe io io:=fun _ _ h=>h
theorem IoLe.trans {a b c:Io} (h:IoLe a b) (h':IoLe b c):IoLe a c:=fun k x e=>h' k x (h k x e)
theorem szL {n:Nat} (h:n≤1000000):n≤sizeLine:=Nat.le_trans h (by rw[sizeLine_eq];decide)
theorem szl {n:Nat} (h:n<1000000):n<sizeLine:=Nat.lt_of_lt_of_le h (by rw[sizeLine_eq];decide)
theorem same_sqT {K:PySem.W.Frag} {F F':Hp} {p:Addr} {vs:List V} (h:Same F F') (s:SqT K F p vs):SqT K F' p vs:=by
 rcases s with (h1 | ⟨o,h1⟩) | h1
 ·exact .inl (.inl (h _ _ h1))
 ·exact .inl (.inr ⟨o,h _ _ h1⟩)
 ·exact .inr h1
theorem same_sqL {K:PySem.W.Frag} {F F':Hp} {p:Addr} {vs:List V} (h:Same F F') (s:SqL K F p vs):SqL K F' p vs:=h.seq s
theorem io_map {io io':Io} (hi:IoLe io io'):∀{ks:List Nat} {cl:List (Str×Addr)},ks.map io=cl.map (fun y=>some y.2)→ks.map io'=cl.map (fun y=>some y.2)
 | [],[],_=>rfl
 | [],_ :: _,h=>by cases h
 | _ :: _,[],h=>by cases h
 | k :: ks,y :: cl,h=>by
  rw[List.map_cons,List.map_cons,List.cons.injEq] at h⊢
  exact⟨hi _ _ h.1,io_map hi h.2⟩
section
variable {K:KW} {F F':Hp} {io io':Io}
mutual
theorem Rep.mono (hF:Same F F') (hi:IoLe io io'):∀{d:D} {v:V},Rep K F io d v→Rep K F' io' d v
 | _,_,.non=>.non
 | _,_,.bl=>.bl
 | _,_,.int=>.int
 | _,_,.str=>.str
 | _,_,.ty=>.ty
 | _,_,.tup s r=>.tup (FTup.mono hF s) (RepL.mono hF hi r)
 | _,_,.ctup s r=>.ctup (same_sqT hF s) (RepL.mono hF hi r)
 | _,_,.dict s e r=>.dict (hF _ _ s) e (RepL.mono hF hi r)
 | _,_,.dd s k e v r=>.dd (hF _ _ s) (RepL.mono hF hi k) e v (RepL.mono hF hi r)
 | _,_,.lst s r=>.lst (hF _ _ s) (RepL.mono hF hi r)
 | _,_,.ro s r=>.ro (same_sqL hF s) (RepL.mono hF hi r)
 | _,_,.ref e=>.ref (hi _ _ e)
 | _,_,.fn e n q l d=>.fn (hF _ _ e) n (hF _ _ q) (io_map hi l) d
theorem RepL.mono (hF:Same F F') (hi:IoLe io io'):∀{d:List D} {v:List V},RepL K F io d v→RepL K F' io' d v
 | _,_,.nil=>.nil
 | _,_,.cons r t=>.cons (Rep.mono hF hi r) (RepL.mono hF hi t)
end
theorem RepL.length:∀{xs:List D} {vs:List V},RepL K F io xs vs→xs.length=vs.length
 | _,_,.nil=>rfl
 | _,_,.cons _ t=>congrArg Nat.succ (RepL.length t)
theorem RepL.append:∀{xs ys:List D} {vs us:List V},RepL K F io xs vs→RepL K F io ys us→RepL K F io (xs++ys) (vs++us)
 | _,_,_,_,.nil,s=>s
 | _,_,_,_,.cons r t,s=>.cons r (RepL.append t s)
theorem RepL.get:∀{xs:List D} {vs:List V} {i:Nat} {d:D},RepL K F io xs vs→xs[i]?=some d→∃v,vs[i]?=some v∧Rep K F io d v
 | _,_,_,_,.nil,e=>by simp at e
 | _,_,0,_,.cons r _,e=>by simp at e;subst e;exact⟨_,rfl,r⟩
 | _,_,i+1,_,.cons _ t,e=>by
  obtain⟨v,h1,h2⟩:=RepL.get (i:=i) t (by simpa using e)
  exact⟨v,by simpa using h1,h2⟩
theorem RepL.get':∀{xs:List D} {vs:List V} {i:Nat} {v:V},RepL K F io xs vs→vs[i]?=some v→∃d,xs[i]?=some d∧Rep K F io d v
 | _,_,_,_,.nil,e=>by simp at e
 | _,_,0,_,.cons r _,e=>by simp at e;subst e;exact⟨_,rfl,r⟩
 | _,_,i+1,_,.cons _ t,e=>by
  obtain⟨v,h1,h2⟩:=RepL.get' (i:=i) t (by simpa using e)
  exact⟨v,by simpa using h1,h2⟩
theorem RepL.take:∀{xs:List D} {vs:List V} (n:Nat),RepL K F io xs vs→RepL K F io (xs.take n) (vs.take n)
 | _,_,0,_=>.nil
 | _,_,_+1,.nil=>.nil
 | _,_,n+1,.cons r t=>.cons r (RepL.take n t)
theorem RepL.drop:∀{xs:List D} {vs:List V} (n:Nat),RepL K F io xs vs→RepL K F io (xs.drop n) (vs.drop n)
 | _,_,0,r=>r
 | _,_,_+1,.nil=>.nil
 | _,_,n+1,.cons _ t=>RepL.drop n t
theorem RepL.set {d:D} {v:V} (r:Rep K F io d v):∀{xs:List D} {vs:List V} (i:Nat),RepL K F io xs vs→RepL K F io (xs.set i d) (vs.set i v)
 | _,_,_,.nil=>.nil
 | _,_,0,.cons _ t=>.cons r t
 | _,_,i+1,.cons q t=>.cons q (RepL.set r i t)
theorem RepL.reverse:∀{xs:List D} {vs:List V},RepL K F io xs vs→RepL K F io xs.reverse vs.reverse
 | _,_,.nil=>.nil
 | _,_,.cons r t=>by
  rw[List.reverse_cons,List.reverse_cons]
  exact(RepL.reverse t).append (.cons r .nil)
end
structure G3 where
 K:PySem.W.Frag
 w:World
 cls:String→Option Addr
 fld:String→Option Str
 nf:String→FV→Prop
 tabs:List NdefX.NTab
 base:Heap
 own:Nat→Option Addr
abbrev G3.R (G:G3):KW:=⟨G.K,G.w,G.nf⟩
structure S3 where
 io:Io
 F:Hp
 H:Hp
structure Le (B:Addr→Prop) (s s':S3):Prop where
 io:IoLe s.io s'.io
 fr:Same s.F s'.F
 hid:∀a,B a→s'.H a=s.H a
theorem Le.refl {B:Addr→Prop} (s:S3):Le B s s:=⟨IoLe.refl _,Same.refl _,fun _ _=>rfl⟩
theorem Le.trans {B:Addr→Prop} {a b c:S3} (x:Le B a b) (y:Le B b c):Le B a c:=⟨x.io.trans y.io,x.fr.trans y.fr,fun p h=>(y.hid p h).trans (x.hid p h)⟩
theorem Le.less {B B0:Addr→Prop} (h:∀a,B0 a→B a) {s s':S3} (x:Le B s s'):Le B0 s s':=⟨x.io,x.fr,fun a q=>x.hid a (h a q)⟩
inductive FsR (K:KW) (F:Hp) (io:Io):List (Str×D)→List (Str×V)→Prop where
 | nil:FsR K F io [] []
 | cons {f d v fs gs}:Rep K F io d v→FsR K F io fs gs→FsR K F io ((f,d) :: fs) ((f,v) :: gs)
theorem FsR.mono {K:KW} {F F':Hp} {io io':Io} (hF:Same F F') (hi:IoLe io io'):∀{fs gs},FsR K F io fs gs→FsR K F' io' fs gs
 | _,_,.nil=>.nil
 | _,_,.cons r t=>.cons (r.mono hF hi) (FsR.mono hF hi t)
theorem FsR.look {K:KW} {F:Hp} {io:Io} {f:Str}:∀{fs gs},FsR K F io fs gs→(∀d,fs.lookup f=some d→∃v,gs.lookup f=some v∧Rep K F io d v)∧(fs.lookup f=none→gs.lookup f=none)
 | _,_,.nil=>⟨fun d h=>by simp at h,fun _=>rfl⟩
 | _,_,.cons (f:=g) r t=>by
  have ih:=FsR.look (f:=f) t
  rw[List.lookup_cons,List.lookup_cons]
  cases h:f == g with
  | true=>exact⟨fun d e=>⟨_,rfl,by cases e;exact r⟩,fun e=>by cases e⟩
  | false=>exact ih
theorem FsR.length {K:KW} {F:Hp} {io:Io}:∀{fs gs},FsR K F io fs gs→fs.length=gs.length
 | _,_,.nil=>rfl
 | _,_,.cons _ t=>congrArg Nat.succ (FsR.length t)
structure DkR (K:KW) (F:Hp) (io:Io) (ks us:List D) (xs:DkX):Prop where
 keys:RepL K F io ks (xs.map fun x=>.ref x.2.1)
 tk:ks.map D.tk=xs.map (fun x=>some x.1)
 vals:∃vs,Vals vs (xs.map (·.2.2))∧RepL K F io us vs
theorem DkR.mono {K:KW} {F F':Hp} {io io':Io} (hF:Same F F') (hi:IoLe io io') {ks us:List D} {xs:DkX} (h:DkR K F io ks us xs):DkR K F' io' ks us xs:=
 ⟨h.keys.mono hF hi,h.tk,let ⟨vs,v,r⟩:=h.vals;⟨vs,v,r.mono hF hi⟩⟩
def ObjR (G:G3) (s:S3) (a:Addr):MO→Prop
 | .lst xs=>∃vs,s.H a=some (.lst vs)∧RepL G.R s.F s.io xs vs
 | .dic ks us=>∃kvs:List (Key×V),s.H a=some (.dK kvs)∧kvs.map (·.1)=ks∧RepL G.R s.F s.io us (kvs.map (·.2))
 | .ddi ks us=>∃xs,s.H a=some (DkO G.w a xs)∧DkR G.R s.F s.io ks us xs
 | .ins c fs=>∃C dx gs,G.cls c=some C∧s.H a=some (.ins C dx gs)∧FsR G.R s.F s.io fs gs
 | .cell d=>∃v,s.H a=some (CellO a v)∧Rep G.R s.F s.io d v
 | _=>False
def UntR (G:G3) (s:S3) (a:Addr):MO→Prop
 | .kc d=>∃v u,L2.RelV v u∧G.base.IsCell a (some u)∧Rep G.R s.F s.io d v
 | .slp i=>G.own i=some a
 | .dead=>True
 | .rdd ks us=>∃od xs,s.F a=some (.frz od (.frz od (DkO G.w a xs)))∧DkR G.R s.F s.io ks us xs
 | _=>False
def NoTbl (o:HO):Prop:=∀ps,o≠.tbl ps
theorem code_wit (c:Addr) (q:Str):∃h:Heap,(∃(oc:Obj) (vs:Array Value) (t:Tok),h.get? c=some oc∧oc.data=.fields vs∧vs[1]?=some (.str q t))∧∀a o,h.get? a=some o→∃vs,o.data=.fields vs:=by
 refine⟨{ objs:=Array.replicate (c+1) { cls:=.none,data:=.fields #[.none,.str q 0] } },⟨{ cls:=.none,data:=.fields #[.none,.str q 0] },_,0,?_,rfl,rfl⟩,fun a o e=>?_⟩
 ·unfold Heap.get?
  simp
 ·unfold Heap.get? at e
  simp only[Array.getElem?_replicate] at e
  split at e
  ·cases e
  ·split at e
   ·cases e;exact⟨_,rfl⟩
   ·cases e
theorem code_ext {c:Addr} {q:Str} {φ:Heap→Prop} (e:HO.ext φ=LamX.CodeO c q) (k:∀h,φ h→∃a o,h.get? a=some o∧∀vs,o.data≠.fields vs):False:=by
 obtain⟨h,h1,h2⟩:=code_wit c q
 unfold LamX.CodeO at e
 injection e with e
 have:φ h:=by rw[e];exact h1
 obtain⟨a,o,e1,e2⟩:=k h this
 obtain⟨vs,e3⟩:=h2 a o e1
 exact e2 vs e3
theorem dkO_code {w:World} {p:Addr} {xs:DkX} {c:Addr} {q:Str} (e:DkO w p xs=LamX.CodeO c q):False:=
 code_ext e fun h ⟨_,_,_,o,es,ep,e1,_,e2,_⟩=>⟨p,o,e1,fun vs z=>by rw[e2] at z;cases z⟩
theorem cellO_code {a:Addr} {v:V} {c:Addr} {q:Str} (e:CellO a v=LamX.CodeO c q):False:=
 code_ext e fun h ⟨_,_,o,e1,e2⟩=>⟨a,o,e1,fun vs z=>by rw[e2] at z;cases z⟩
structure OwnH (o:HO):Prop where
 tbl:NoTbl o
 code:∀c q,o≠LamX.CodeO c q
def TabR (s:S3) (p:NdefX.NTab):Prop:=∃ps:Array Value,s.H p.1=some (.tbl ps)∧TriplesOk ps.toList∧∀(pos:Pos) (cv:Value),codeAmong pos ps.toList=some cv→∃c,cv=.ref c∧s.F c=some (LamX.CodeO c (p.2 pos.line pos.col))
theorem TabR.mono {s s':S3} {p:NdefX.NTab} (hf:Same s.F s'.F) (hh:∀ps,s.H p.1=some (.tbl ps)→s'.H p.1=some (.tbl ps)) (x:TabR s p):TabR s' p:=
 let ⟨ps,e,t,r⟩:=x
 ⟨ps,hh ps e,t,fun pos cv q=>let ⟨c,e1,e2⟩:=r pos cv q;⟨c,e1,hf _ _ e2⟩⟩
structure Wd (G:G3) (B:Addr→Prop) (st:Store) (s:S3):Prop where
 sub:Same s.F s.H
 hid:∀a,B a→s.F a=none∧∃o,s.H a=some o∧OwnH o
 ftb:∀a o,s.F a=some o→NoTbl o
 dom:∀k a,s.io k=some a→k<st.length
 inj:∀j k a oj ok,s.io j=some a→s.io k=some a→st[j]?=some oj→oj.tr=true→st[k]?=some ok→ok.tr=true→j=k
 obj:∀k o,st[k]?=some o→o.tr=true→∃a,s.io k=some a∧¬B a∧s.F a=none∧ObjR G s a o
 unt:∀k o,st[k]?=some o→o.tr=false→∃a,s.io k=some a∧UntR G s a o
 tabs:∀p∈G.tabs,TabR s p
theorem Wd.freshF {G:G3} {B:Addr→Prop} {st:Store} {s:S3} (w:Wd G B st s) {p:Addr} (h:s.H p=none):s.F p=none:=by
 cases q:s.F p with
 | none=>rfl
 | some o=>rw[w.sub p o q] at h;cases h
theorem Wd.freshB {G:G3} {B:Addr→Prop} {st:Store} {s:S3} (w:Wd G B st s) {p:Addr} (h:s.H p=none):¬B p:=fun b=>by
 obtain⟨_,o,e,_⟩:=w.hid p b
 rw[e] at h;cases h
theorem ObjR.there {G:G3} {s:S3} {a:Addr} {o:MO} (x:ObjR G s a o):∃u,s.H a=some u:=by
 cases o with
 | lst xs=>obtain⟨vs,q,_⟩:=x;exact⟨_,q⟩
 | dic ks us=>obtain⟨vs,q,_⟩:=x;exact⟨_,q⟩
 | ddi ks us=>obtain⟨vs,q,_⟩:=x;exact⟨_,q⟩
 | ins c fs=>obtain⟨_,_,_,_,q,_⟩:=x;exact⟨_,q⟩
 | cell d=>obtain⟨_,q,_⟩:=x;exact⟨_,q⟩
 | _=>exact False.elim x
theorem Wd.tabM {G:G3} {B:Addr→Prop} {st:Store} {s s':S3} (w:Wd G B st s) (hf:Same s.F s'.F) (hh:∀P ps,s.H P=some (.tbl ps)→s'.H P=some (.tbl ps)):∀p∈G.tabs,TabR s' p:=fun p hp=>
 (w.tabs p hp).mono hf (hh p.1)
theorem upd_tbl {H:Hp} {p:Addr} {o:HO} (h:∀ps,H p≠some (.tbl ps)):∀P ps,H P=some (.tbl ps)→upd H p o P=some (.tbl ps):=fun P ps e=>by
 rw[upd_ne (fun z=>by subst z;exact h ps e)];exact e
theorem ObjR.ntbl {G:G3} {s:S3} {a:Addr} {o:MO} (x:ObjR G s a o):∀ps,s.H a≠some (.tbl ps):=fun ps z=>by
 cases o with
 | lst xs=>obtain⟨vs,q,_⟩:=x;rw[z] at q;cases q
 | dic ks us=>obtain⟨vs,q,_⟩:=x;rw[z] at q;cases q
 | ddi ks us=>obtain⟨vs,q,_⟩:=x;rw[z] at q;cases q
 | ins c fs=>obtain⟨_,_,_,_,q,_⟩:=x;rw[z] at q;cases q
 | cell d=>obtain⟨_,q,_⟩:=x;rw[z] at q;cases q
 | _=>exact False.elim x
theorem Wd.ntbl {G:G3} {B:Addr→Prop} {st:Store} {s:S3} (w:Wd G B st s) {p:Addr} (b:B p):∀ps,s.H p≠some (.tbl ps):=fun ps z=>by
 obtain⟨_,o,e,n⟩:=w.hid p b
 rw[z] at e;cases e
 exact n.tbl ps rfl
theorem ntbl_none {H:Hp} {p:Addr} (h:H p=none):∀ps,H p≠some (.tbl ps):=fun ps z=>by rw[h] at z;cases z
theorem ObjR.tr {G:G3} {s:S3} {a:Addr} {o:MO} (x:ObjR G s a o):o.tr=true:=by
 cases o <;> first | rfl | exact False.elim x
theorem Wd.freshI {G:G3} {B:Addr→Prop} {st:Store} {s:S3} (w:Wd G B st s) {p:Addr} (h:s.H p=none) {k:Nat} {o:MO} (eo:st[k]?=some o) (t:o.tr=true):s.io k≠some p:=fun e=>by
 obtain⟨a,e',_,_,x⟩:=w.obj k o eo t
 rw[e] at e';cases e'
 obtain⟨u,q⟩:=x.there
 rw[h] at q;cases q
theorem UntR.mono {G:G3} {s s':S3} {a:Addr} {o:MO} (hi:IoLe s.io s'.io) (hf:Same s.F s'.F) (x:UntR G s a o):UntR G s' a o:=by
 cases o with
 | kc d=>obtain⟨v,u,r,b,q⟩:=x;exact⟨v,u,r,b,q.mono hf hi⟩
 | slp i=>exact x
 | dead=>exact x
 | rdd ks us=>obtain⟨od,xs,e,r⟩:=x;exact⟨od,xs,hf _ _ e,r.mono hf hi⟩
 | _=>exact False.elim x
theorem Wd.untM {G:G3} {B:Addr→Prop} {st:Store} {s s':S3} (w:Wd G B st s) (hi:IoLe s.io s'.io) (hf:Same s.F s'.F):∀k o,st[k]?=some o→o.tr=false→∃a,s'.io k=some a∧UntR G s' a o:=fun k o e t=>
 let ⟨a,e1,x⟩:=w.unt k o e t
 ⟨a,hi k a e1,x.mono hi hf⟩
theorem ObjR.mono {G:G3} {s s':S3} {a:Addr} {o:MO} (hi:IoLe s.io s'.io) (hf:Same s.F s'.F) (hh:s'.H a=s.H a) (x:ObjR G s a o):ObjR G s' a o:=by
 cases o with
 | lst xs=>obtain⟨vs,e,r⟩:=x;exact⟨vs,hh.trans e,r.mono hf hi⟩
 | dic ks us=>obtain⟨vs,e,e2,r⟩:=x;exact⟨vs,hh.trans e,e2,r.mono hf hi⟩
 | ddi ks us=>obtain⟨vs,e,r⟩:=x;exact⟨vs,hh.trans e,r.mono hf hi⟩
 | ins c fs=>obtain⟨C,dx,gs,e0,e,r⟩:=x;exact⟨C,dx,gs,e0,hh.trans e,r.mono hf hi⟩
 | cell d=>obtain⟨v,e,r⟩:=x;exact⟨v,hh.trans e,r.mono hf hi⟩
 | _=>exact False.elim x
def S3.froz (s:S3) (p:Addr) (o:HO):S3:=⟨s.io,upd s.F p o,upd s.H p o⟩
theorem same_upd {H:Hp} {p:Addr} {o:HO} (h:H p=none):Same H (upd H p o):=fun b u e=>by
 rw[upd_ne (ne_of_none e h)];exact e
theorem Wd.froz {G:G3} {B:Addr→Prop} {st:Store} {s:S3} (w:Wd G B st s) {p:Addr} (h:s.H p=none) (o:HO) (nt:NoTbl o:=by intro _ q;cases q):Wd G B st (s.froz p o)∧Le B s (s.froz p o):=by
 have hF:=w.freshF h
 have nB:∀a,B a→a≠p:=fun a b e=>w.freshB h (e▸b)
 refine⟨⟨fun b u e=>?_,fun a b=>?_,fun a u e=>?_,w.dom,w.inj,fun k u e t=>?_,w.untM (IoLe.refl _) (same_upd hF),w.tabM (same_upd hF) (upd_tbl (ntbl_none h))⟩,IoLe.refl _,same_upd hF,fun a b=>upd_ne (nB a b)⟩
 ·show upd s.H p o b=some u
  have e:upd s.F p o b=some u:=e
  by_cases hb:b=p
  ·subst hb;rw[upd_same] at e⊢;exact e
  ·rw[upd_ne hb] at e⊢;exact w.sub b u e
 ·obtain⟨h1,u,h2,h3⟩:=w.hid a b
  exact⟨by show upd s.F p o a=none;rw[upd_ne (nB a b)];exact h1,u,by show upd s.H p o a=some u;rw[upd_ne (nB a b)];exact h2,h3⟩
 ·have e:upd s.F p o a=some u:=e
  by_cases hb:a=p
  ·subst hb;rw[upd_same] at e;cases e;exact nt
  ·rw[upd_ne hb] at e;exact w.ftb a u e
 ·obtain⟨a,e1,b1,f1,o1⟩:=w.obj k u e t
  have na:a≠p:=fun z=>w.freshI h e t (z▸e1)
  exact⟨a,e1,b1,by show upd s.F p o a=none;rw[upd_ne na];exact f1,ObjR.mono (s:=s) (s':=s.froz p o) (IoLe.refl _) (same_upd hF) (upd_ne na) o1⟩
theorem Wd.newT {G:G3} {B:Addr→Prop} {st:Store} {s:S3} {xs:List D} {vs:List V} {Q:VK} (w:Wd G B st s) (r:RepL G.R s.F s.io xs vs)
  (k:∀(s':S3) (v:V),Le B s s'→Wd G B st s'→Rep G.R s'.F s'.io (.tup xs) v→Q v s'.H):NewT vs s.H Q:=fun p o hp hd=>
 let ⟨w2,l2⟩:=w.froz hp (.frz o (.tup vs))
 k (s.froz p (.frz o (.tup vs))) (.ref p) l2 w2 (.tup ⟨o,upd_same,hd⟩ (r.mono l2.fr l2.io))
def ExR (G:G3) (s:S3) (c:String) (x:D) (cv:Value) (dd:Option Addr):Prop:=
 match G.cls c with
 | none=>cv=.type c
 | some C=>cv=.ref C∧(match G.fld c with
  | none=>dd=none
  | some f=>∃d fs v,dd=some d∧s.F d=some (.xd fs)∧fs.lookup f=some v∧Rep G.R s.F s.io x v)
abbrev Hex:=Option (Addr×String×D×Option Addr)
def XFld (G:G3) (s:S3) (c:String) (x:D) (dd:Option Addr):Prop:=∀C f,G.cls c=some C→G.fld c=some f→∃d fs v,dd=some d∧s.F d=some (.xd fs)∧fs.lookup f=some v∧Rep G.R s.F s.io x v
theorem XFld.mono {G:G3} {s s':S3} {c:String} {x:D} {dd:Option Addr} (hi:IoLe s.io s'.io) (hf:Same s.F s'.F) (h:XFld G s c x dd):XFld G s' c x dd:=fun C f h1 h2=>
 let ⟨d,fs,v,q1,q2,q3,q4⟩:=h C f h1 h2
 ⟨d,fs,v,q1,hf _ _ q2,q3,q4.mono hf hi⟩
def RepW (G:G3) (X:Hex) (B:Addr→Prop) (s:S3):W→V→Prop
 | .val d,v=>Rep G.R s.F s.io d v
 | .bor xs,v=>∃p vs,v=.ref p∧B p∧s.H p=some (.lst vs)∧RepL G.R s.F s.io xs vs
 | .bod ks us,v=>∃(p:Addr) (kvs:List (Key×V)),v=.ref p∧B p∧s.H p=some (.dK kvs)∧kvs.map (·.1)=ks∧RepL G.R s.F s.io us (kvs.map (·.2))
 | .bdd ks us,v=>∃(p:Addr) (xs:DkX),v=.ref p∧B p∧s.H p=some (DkO G.w p xs)∧DkR G.R s.F s.io ks us xs
 | .exn c x,v=>∃a dd,X=some (a,c,x,dd)∧v=.ref a∧XFld G s c x dd
 | .len xs,v=>∃p vs o,v=.ref p∧B p∧s.H p=some (.frz o (.lst vs))∧RepL G.R s.F s.io xs vs
theorem RepW.mono {G:G3} {X:Hex} {B:Addr→Prop} {s s':S3} (l:Le B s s') {w:W} {v:V} (r:RepW G X B s w v):RepW G X B s' w v:=by
 cases w with
 | val d=>exact Rep.mono l.fr l.io r
 | bor xs=>obtain⟨p,vs,e,b,h,r⟩:=r;exact⟨p,vs,e,b,(l.hid p b).trans h,r.mono l.fr l.io⟩
 | bod ks us=>obtain⟨p,vs,e,b,h,e2,r⟩:=r;exact⟨p,vs,e,b,(l.hid p b).trans h,e2,r.mono l.fr l.io⟩
 | bdd ks us=>obtain⟨p,vs,e,b,h,r⟩:=r;exact⟨p,vs,e,b,(l.hid p b).trans h,r.mono l.fr l.io⟩
 | exn c x=>
  obtain⟨a,dd,e1,e2,xf⟩:=r
  exact⟨a,dd,e1,e2,xf.mono l.io l.fr⟩
 | len xs=>obtain⟨p,vs,o,e,b,h,r⟩:=r;exact⟨p,vs,o,e,b,(l.hid p b).trans h,r.mono l.fr l.io⟩
structure Slo (G:G3) (X:Hex) (B0 B:Addr→Prop) (s:S3) (u:Sl3) (z:L2.St):Prop where
 len:u.length=z.length
 ex:∃ow:Nat→Addr,(∀(i:Nat) (w:W),u[i]?=some (some w)→∃v,z[i]?=some (some v)∧RepW G X B s w v∧(w.own=true→v=.ref (ow i)∧¬B0 (ow i)))∧
  ∀(i j:Nat) (w w':W),w.own=true→w'.own=true→u[i]?=some (some w)→u[j]?=some (some w')→ow i=ow j→i=j
theorem Slo.mono {G:G3} {X:Hex} {B0 B:Addr→Prop} {s s':S3} {u:Sl3} {z:L2.St} (l:Le B s s') (h:Slo G X B0 B s u z):Slo G X B0 B s' u z:=by
 obtain⟨hl,ow,h1,h2⟩:=h
 exact⟨hl,ow,fun i w e=>let ⟨v,e1,r,q⟩:=h1 i w e;⟨v,e1,r.mono l,q⟩,h2⟩
theorem Slo.get {G:G3} {X:Hex} {B0 B:Addr→Prop} {s:S3} {u:Sl3} {z:L2.St} (h:Slo G X B0 B s u z) {i:Nat} {w:W} (e:u[i]?=some (some w)):∃v,z[i]?=some (some v)∧RepW G X B s w v:=by
 obtain⟨hl,ow,h1,h2⟩:=h
 obtain⟨v,e1,r,_⟩:=h1 i w e
 exact⟨v,e1,r⟩
def Post {α β:Type} (G:G3) (B:Addr→Prop) (R:S3→α→β→Prop) (E:XK) (s:S3) (Q:β→Hp→Prop):Res α→Prop
 | .ok a st'=>∀(s':S3) (b:β),Le B s s'→Wd G B st' s'→R s' a b→Q b s'.H
 | .err c x st'=>∀(s':S3) (cv:Value) (dd:Option Addr),Le B s s'→Wd G B st' s'→ExR G s' c x cv dd→E cv dd s'.H
 | .bad=>False
theorem Post.mono {α β:Type} {G:G3} {B:Addr→Prop} {R:S3→α→β→Prop} {E:XK} {s s1:S3} {Q:β→Hp→Prop} {r:Res α} (l:Le B s s1) (h:Post G B R E s Q r):Post G B R E s1 Q r:=by
 cases r with
 | ok a st'=>exact fun s' b l' w r=>h s' b (l.trans l') w r
 | err c x st'=>exact fun s' cv dd l' w r=>h s' cv dd (l.trans l') w r
 | bad=>exact h
theorem Post.bind {α β γ δ:Type} {G:G3} {B:Addr→Prop} {R:S3→α→β→Prop} {R':S3→γ→δ→Prop} {E:XK} {s:S3} {Q:δ→Hp→Prop} {Q1:β→Hp→Prop} {m:M α} {f:α→M γ} {st:Store} (h:Post G B R' E s Q (M.bind m f st))
  (k:∀a st' s' b,Le B s s'→Wd G B st' s'→R s' a b→Post G B R' E s' Q (f a st')→Q1 b s'.H):Post G B R E s Q1 (m st):=by
 unfold M.bind at h
 cases e:m st with
 | ok a st'=>
  rw[e] at h
  exact fun s' b l w r=>k a st' s' b l w r (Post.mono l h)
 | err c x st'=>rw[e] at h;exact h
 | bad=>rw[e] at h;exact h
theorem Post.pure {α β:Type} {G:G3} {B:Addr→Prop} {R:S3→α→β→Prop} {E:XK} {s:S3} {Q:β→Hp→Prop} {a:α} {b:β} {st:Store} (h:Post G B R E s Q (.ok a st)) (w:Wd G B st s) (r:R s a b):Q b s.H:=h s b (Le.refl _) w r
abbrev EM:=Sl3→M W
abbrev TM:=Sl3→M Bool
abbrev AM:=Sl3→M (List W)
inductive RepWs (G:G3) (X:Hex) (B:Addr→Prop) (s:S3):List W→List V→Prop where
 | nil:RepWs G X B s [] []
 | cons {w v ws vs}:RepW G X B s w v→RepWs G X B s ws vs→RepWs G X B s (w :: ws) (v :: vs)
theorem RepWs.mono {G:G3} {X:Hex} {B:Addr→Prop} {s s':S3} (l:Le B s s'):∀{ws:List W} {vs:List V},RepWs G X B s ws vs→RepWs G X B s' ws vs
 | _,_,.nil=>.nil
 | _,_,.cons r t=>.cons (r.mono l) (RepWs.mono l t)
theorem RepWs.length {G:G3} {X:Hex} {B:Addr→Prop} {s:S3}:∀{ws:List W} {vs:List V},RepWs G X B s ws vs→ws.length=vs.length
 | _,_,.nil=>rfl
 | _,_,.cons _ t=>congrArg Nat.succ (RepWs.length t)
structure P3 where
 X:Cx
 G:G3
 hx:Hex
 wx:WX
 hK:X.K=G.K
 hw:X.w=G.w
def tE (G:G3) (hx:Hex) (wx:WX) (m:EM):TE:=fun z H Q=>∃(B0 B:Addr→Prop) (s:S3) (st:Store) (u:Sl3),s.H=H∧Wd G B st s∧Slo G hx B0 B s u z∧Post G B (RepW G hx B) (fun c d H=>wx c d z H) s Q (m u st)
def tT (G:G3) (hx:Hex) (wx:WX) (m:TM):TT:=fun z H Q=>∃(B0 B:Addr→Prop) (s:S3) (st:Store) (u:Sl3),s.H=H∧Wd G B st s∧Slo G hx B0 B s u z∧Post G B (fun _ a b=>a=b) (fun c d H=>wx c d z H) s Q (m u st)
def tA (G:G3) (hx:Hex) (wx:WX) (m:AM):TA:=fun z H Q=>∃(B0 B:Addr→Prop) (s:S3) (st:Store) (u:Sl3),s.H=H∧Wd G B st s∧Slo G hx B0 B s u z∧Post G B (RepWs G hx B) (fun c d H=>wx c d z H) s Q (m u st)
structure ME (P:P3) (e:Expr) (m:EM):Prop where
 pe:PE P.X e (tE P.G P.hx P.wx m)
structure MT (P:P3) (e:Expr) (m:TM):Prop where
 pt:PT P.X e (tT P.G P.hx P.wx m)
structure MW (P:P3) (e:Expr) (m:TM):Prop where
 pw:PW P.X e (tT P.G P.hx P.wx m)
structure MA (P:P3) (es:List Expr) (m:AM):Prop where
 pa:PA P.X es (tA P.G P.hx P.wx m)
section
variable {P:P3} {e:Expr} {es:List Expr}
theorem ME.mk' {m:EM} {t:TE} (h:PE P.X e t) (k:∀(B0 B:Addr→Prop) (s:S3) (st:Store) (u:Sl3) (z:L2.St) (Q:VK),Wd P.G B st s→Slo P.G P.hx B0 B s u z→
  Post P.G B (RepW P.G P.hx B) (fun c d H=>P.wx c d z H) s Q (m u st)→t z s.H Q):ME P e m:=
 ⟨⟨fun pins s0 z H Q I ⟨B0,B,s,st,u,e,wd,sl,p⟩=>by subst e;exact h.run pins s0 z _ Q I (k B0 B s st u z Q wd sl p)⟩⟩
theorem MT.mk' {m:TM} {t:TT} (h:PT P.X e t) (k:∀(B0 B:Addr→Prop) (s:S3) (st:Store) (u:Sl3) (z:L2.St) (Q:Bool→Hp→Prop),Wd P.G B st s→Slo P.G P.hx B0 B s u z→
  Post P.G B (fun _ a b=>a=b) (fun c d H=>P.wx c d z H) s Q (m u st)→t z s.H Q):MT P e m:=
 ⟨⟨fun pins s0 z H Q I ⟨B0,B,s,st,u,e,wd,sl,p⟩=>by subst e;exact h.run pins s0 z _ Q I (k B0 B s st u z Q wd sl p)⟩⟩
theorem MA.mk' {m:AM} {t:TA} (h:PA P.X es t) (k:∀(B0 B:Addr→Prop) (s:S3) (st:Store) (u:Sl3) (z:L2.St) (Q:List V→Hp→Prop),Wd P.G B st s→Slo P.G P.hx B0 B s u z→
  Post P.G B (RepWs P.G P.hx B) (fun c d H=>P.wx c d z H) s Q (m u st)→t z s.H Q):MA P es m:=
 ⟨⟨fun pos pins s0 z H Q I ⟨B0,B,s,st,u,e,wd,sl,p⟩=>by subst e;exact h.run pos pins s0 z _ Q I (k B0 B s st u z Q wd sl p)⟩⟩
theorem ME.out {m:EM} (h:ME P e m):∃t,PE P.X e t∧∀(B0 B:Addr→Prop) (s:S3) (st:Store) (u:Sl3) (z:L2.St) (Q:VK),Wd P.G B st s→Slo P.G P.hx B0 B s u z→
  Post P.G B (RepW P.G P.hx B) (fun c d H=>P.wx c d z H) s Q (m u st)→t z s.H Q:=⟨_,h.pe,fun B0 B s st u z Q wd sl p=>⟨B0,B,s,st,u,rfl,wd,sl,p⟩⟩
theorem MT.out {m:TM} (h:MT P e m):∃t,PT P.X e t∧∀(B0 B:Addr→Prop) (s:S3) (st:Store) (u:Sl3) (z:L2.St) (Q:Bool→Hp→Prop),Wd P.G B st s→Slo P.G P.hx B0 B s u z→
  Post P.G B (fun _ a b=>a=b) (fun c d H=>P.wx c d z H) s Q (m u st)→t z s.H Q:=⟨_,h.pt,fun B0 B s st u z Q wd sl p=>⟨B0,B,s,st,u,rfl,wd,sl,p⟩⟩
theorem MW.out {m:TM} (h:MW P e m):∃t,PW P.X e t∧∀(B0 B:Addr→Prop) (s:S3) (st:Store) (u:Sl3) (z:L2.St) (Q:Bool→Hp→Prop),Wd P.G B st s→Slo P.G P.hx B0 B s u z→
  Post P.G B (fun _ a b=>a=b) (fun c d H=>P.wx c d z H) s Q (m u st)→t z s.H Q:=⟨_,h.pw,fun B0 B s st u z Q wd sl p=>⟨B0,B,s,st,u,rfl,wd,sl,p⟩⟩
theorem MA.out {m:AM} (h:MA P es m):∃t,PA P.X es t∧∀(B0 B:Addr→Prop) (s:S3) (st:Store) (u:Sl3) (z:L2.St) (Q:List V→Hp→Prop),Wd P.G B st s→Slo P.G P.hx B0 B s u z→
  Post P.G B (RepWs P.G P.hx B) (fun c d H=>P.wx c d z H) s Q (m u st)→t z s.H Q:=⟨_,h.pa,fun B0 B s st u z Q wd sl p=>⟨B0,B,s,st,u,rfl,wd,sl,p⟩⟩
end
abbrev FM:=Sl3→M (List D)
def plus (B:Addr→Prop) (p:Addr):Addr→Prop:=fun a=>B a∨a=p
def PostF (G:G3) (B:Addr→Prop) (E:XK) (s:S3) (Q:VK):Res (List D)→Prop
 | .ok xs st'=>∀(s':S3) (p:Addr) (vs:List V),Le B s s'→Wd G (plus B p) st' s'→¬B p→s'.H p=some (.lst vs)→RepL G.R s'.F s'.io xs vs→Q (.ref p) s'.H
 | .err c x st'=>∀(s':S3) (cv:Value) (dd:Option Addr),Le B s s'→Wd G B st' s'→ExR G s' c x cv dd→E cv dd s'.H
 | .bad=>False
def tF (G:G3) (hx:Hex) (wx:WX) (m:FM):TE:=fun z H Q=>∃(B0 B:Addr→Prop) (s:S3) (st:Store) (u:Sl3),s.H=H∧Wd G B st s∧Slo G hx B0 B s u z∧PostF G B (fun c d H=>wx c d z H) s Q (m u st)
structure MF (P:P3) (e:Expr) (m:FM):Prop where
 pe:PE P.X e (tF P.G P.hx P.wx m)
theorem MF.mk' {P:P3} {e:Expr} {m:FM} {t:TE} (h:PE P.X e t) (k:∀(B0 B:Addr→Prop) (s:S3) (st:Store) (u:Sl3) (z:L2.St) (Q:VK),Wd P.G B st s→Slo P.G P.hx B0 B s u z→
  PostF P.G B (fun c d H=>P.wx c d z H) s Q (m u st)→t z s.H Q):MF P e m:=
 ⟨⟨fun pins s0 z H Q I ⟨B0,B,s,st,u,e,wd,sl,p⟩=>by subst e;exact h.run pins s0 z _ Q I (k B0 B s st u z Q wd sl p)⟩⟩
theorem MF.out {P:P3} {e:Expr} {m:FM} (h:MF P e m):∃t,PE P.X e t∧∀(B0 B:Addr→Prop) (s:S3) (st:Store) (u:Sl3) (z:L2.St) (Q:VK),Wd P.G B st s→Slo P.G P.hx B0 B s u z→
  PostF P.G B (fun c d H=>P.wx c d z H) s Q (m u st)→t z s.H Q:=⟨_,h.pe,fun B0 B s st u z Q wd sl p=>⟨B0,B,s,st,u,rfl,wd,sl,p⟩⟩
section
variable {G:G3} {B:Addr→Prop} {E:XK} {s s1:S3} {Q:VK}
theorem PostF.mono {r:Res (List D)} (l:Le B s s1) (h:PostF G B E s Q r):PostF G B E s1 Q r:=by
 cases r with
 | ok a st'=>exact fun s' p vs l' w nb hp r=>h s' p vs (l.trans l') w nb hp r
 | err c x st'=>exact fun s' cv dd l' w r=>h s' cv dd (l.trans l') w r
 | bad=>exact h
theorem PostF.bind {α β:Type} {R:S3→α→β→Prop} {Q1:β→Hp→Prop} {m:M α} {f:α→M (List D)} {st:Store} (h:PostF G B E s Q (M.bind m f st))
  (k:∀a st' s' b,Le B s s'→Wd G B st' s'→R s' a b→PostF G B E s' Q (f a st')→Q1 b s'.H):Post G B R E s Q1 (m st):=by
 unfold M.bind at h
 cases e:m st with
 | ok a st'=>
  rw[e] at h
  exact fun s' b l w r=>k a st' s' b l w r (PostF.mono l h)
 | err c x st'=>rw[e] at h;exact h
 | bad=>rw[e] at h;exact h
theorem PostF.of_chk {c:Prop} [Decidable c] {f:M (List D)} {st:Store} (h:PostF G B E s Q (M.bind (M.chk c) (fun _=>f) st)):c∧PostF G B E s Q (f st):=by
 by_cases hc:c
 ·refine⟨hc,?_⟩
  have e:M.bind (M.chk c) (fun _=>f) st=f st:=by unfold M.bind M.chk;rw[if_pos hc]
  rw[e] at h;exact h
 ·have e:M.bind (M.chk c) (fun _=>f) st=.bad:=by unfold M.bind M.chk;rw[if_neg hc]
  rw[e] at h;exact h.elim
theorem Wd.less {B':Addr→Prop} {st:Store} (w:Wd G B' st s) (h:∀a,B a→B' a):Wd G B st s:=
 ⟨w.sub,fun a b=>w.hid a (h a b),w.ftb,w.dom,w.inj,fun k o e t=>let ⟨a,e1,b,f,r⟩:=w.obj k o e t;⟨a,e1,fun z=>b (h a z),f,r⟩,w.unt,w.tabs⟩
theorem freeze_le {p:Addr} {ho:HO} {st:Store} (w:Wd G (plus B p) st s):Le B s ⟨s.io,upd s.F p ho,s.H⟩:=
 ⟨IoLe.refl _,same_upd (w.hid p (.inr rfl)).1,fun _ _=>rfl⟩
theorem freeze_wd {p:Addr} {ho:HO} {st:Store} (w:Wd G (plus B p) st s) (nb:¬B p) (h:s.H p=some ho):Wd G B st ⟨s.io,upd s.F p ho,s.H⟩:=by
 have hF:=(w.hid p (.inr rfl)).1
 have nt:NoTbl ho:=by
  obtain⟨_,o,e,n⟩:=w.hid p (.inr rfl)
  rw[h] at e;cases e;exact n.tbl
 refine⟨fun b o e=>?_,fun a b=>?_,fun a o e=>?_,w.dom,w.inj,fun k o e t=>?_,w.untM (IoLe.refl _) (same_upd hF),w.tabM (same_upd hF) fun _ _ e=>e⟩
 ·have e:upd s.F p ho b=some o:=e
  by_cases hb:b=p
  ·subst hb;rw[upd_same] at e;cases e;exact h
  ·rw[upd_ne hb] at e;exact w.sub b o e
 ·obtain⟨h1,h2⟩:=w.hid a (.inl b)
  exact⟨by show upd s.F p ho a=none;rw[upd_ne (show a≠p from fun z=>by subst z;exact nb b)];exact h1,h2⟩
 ·have e:upd s.F p ho a=some o:=e
  by_cases hb:a=p
  ·subst hb;rw[upd_same] at e;cases e;exact nt
  ·rw[upd_ne hb] at e;exact w.ftb a o e
 ·obtain⟨a,e1,b1,f1,o1⟩:=w.obj k o e t
  have na:a≠p:=fun z=>b1 (.inr z)
  exact⟨a,e1,fun z=>b1 (.inl z),by show upd s.F p ho a=none;rw[upd_ne na];exact f1,ObjR.mono (s:=s) (s':=⟨s.io,upd s.F p ho,s.H⟩) (IoLe.refl _) (same_upd hF) rfl o1⟩
theorem own_wd {p:Addr} {ho:HO} {st:Store} (w:Wd G B st s) (hp:s.H p=none) (nt:OwnH ho:=by exact⟨fun _ q=>(by cases q),fun _ _ q=>(by first | exact dkO_code q | exact cellO_code q | (unfold LamX.CodeO at q;cases q))⟩):Wd G (plus B p) st ⟨s.io,s.F,upd s.H p ho⟩∧Le B s ⟨s.io,s.F,upd s.H p ho⟩:=by
 have nB:∀a,B a→a≠p:=fun a b e=>w.freshB hp (e▸b)
 have hF:=w.freshF hp
 refine⟨⟨fun b o e=>?_,fun a b=>?_,w.ftb,w.dom,w.inj,fun k o e t=>?_,w.untM (IoLe.refl _) (Same.refl _),w.tabM (Same.refl _) (upd_tbl (ntbl_none hp))⟩,IoLe.refl _,Same.refl _,fun a b=>upd_ne (nB a b)⟩
 ·show upd s.H p _ b=some o
  rw[upd_ne (fun z=>by subst z;have e:s.F b=some o:=e;rw[hF] at e;cases e)];exact w.sub b o e
 ·rcases b with b | b
  ·obtain⟨h1,o,h2,h3⟩:=w.hid a b
   exact⟨h1,o,by show upd s.H p _ a=some o;rw[upd_ne (nB a b)];exact h2,h3⟩
  ·subst b
   exact⟨hF,_,upd_same,nt⟩
 ·obtain⟨a,e1,b1,f1,o1⟩:=w.obj k o e t
  have na:a≠p:=fun z=>w.freshI hp e t (z▸e1)
  exact⟨a,e1,fun z=>z.elim b1 na,f1,ObjR.mono (s:=s) (s':=⟨s.io,s.F,upd s.H p ho⟩) (IoLe.refl _) (Same.refl _) (upd_ne na) o1⟩
theorem PostF.fresh {p:Addr} {xs:List D} {vs:List V} {st:Store} (h:PostF G B E s Q (.ok xs st)) (w:Wd G B st s) (r:RepL G.R s.F s.io xs vs) (hp:s.H p=none):Q (.ref p) (upd s.H p (.lst vs)):=
 let ⟨w2,l2⟩:=own_wd (ho:=.lst vs) w hp
 h ⟨s.io,s.F,upd s.H p (.lst vs)⟩ p vs l2 w2 (w.freshB hp) upd_same r
end
inductive SRes where
 | nx (u:Sl3) (st:Store) | rt (w:W) (st:Store) | bk (u:Sl3) (st:Store) | ct (u:Sl3) (st:Store)
 | err (c:String) (x:D) (u:Sl3) (st:Store) | bad
abbrev SM:=Sl3→Store→SRes
def PostS (G:G3) (hx:Hex) (wx:WX) (B0:Addr→Prop) (s:S3) (D:Ends):SRes→Prop
 | .nx u' st'=>∀(B':Addr→Prop) (s':S3) (z':L2.St),(∀a,B0 a→B' a)→Le B0 s s'→Wd G B' st' s'→Slo G hx B0 B' s' u' z'→D.nx z' s'.H
 | .bk u' st'=>∀(B':Addr→Prop) (s':S3) (z':L2.St),(∀a,B0 a→B' a)→Le B0 s s'→Wd G B' st' s'→Slo G hx B0 B' s' u' z'→D.bk z' s'.H
 | .ct u' st'=>∀(B':Addr→Prop) (s':S3) (z':L2.St),(∀a,B0 a→B' a)→Le B0 s s'→Wd G B' st' s'→Slo G hx B0 B' s' u' z'→D.ct z' s'.H
 | .rt w st'=>∀(B':Addr→Prop) (s':S3) (v:V),(∀a,B0 a→B' a)→Le B0 s s'→Wd G B' st' s'→RepR G B0 B' s' w v→D.rt v s'.H
 | .err c x u' st'=>∀(B':Addr→Prop) (s':S3) (z':L2.St) (cv:Value) (dd:Option Addr),(∀a,B0 a→B' a)→Le B0 s s'→Wd G B' st' s'→Slo G hx B0 B' s' u' z'→ExR G s' c x cv dd→wx cv dd z' s'.H
 | .bad=>False
where
 RepR (G:G3) (B0 B:Addr→Prop) (s:S3):W→V→Prop
  | .val d,v=>Rep G.R s.F s.io d v
  | .bor xs,v=>∃p vs,v=.ref p∧B p∧¬B0 p∧s.H p=some (.lst vs)∧RepL G.R s.F s.io xs vs
  | .bod ks us,v=>∃(p:Addr) (kvs:List (Key×V)),v=.ref p∧B p∧¬B0 p∧s.H p=some (.dK kvs)∧kvs.map (·.1)=ks∧RepL G.R s.F s.io us (kvs.map (·.2))
  | .bdd ks us,v=>∃(p:Addr) (xs:DkX),v=.ref p∧B p∧¬B0 p∧s.H p=some (DkO G.w p xs)∧DkR G.R s.F s.io ks us xs
  | .exn _ _,_=>False
  | .len _,_=>False
def tS (G:G3) (hx:Hex) (wx:WX) (m:SM):TS:=fun D z H=>∃(B0 B:Addr→Prop) (s:S3) (o:Store) (u:Sl3),s.H=H∧(∀a,B0 a→B a)∧Wd G B o s∧Slo G hx B0 B s u z∧PostS G hx wx B0 s D (m u o)
structure MS (P:P3) (st:Stmt) (m:SM):Prop where
 ps:PS P.X st (tS P.G P.hx P.wx m)
structure MSs (P:P3) (st:List Stmt) (m:SM):Prop where
 pss:PSs P.X st (tS P.G P.hx P.wx m)
theorem MS.mk' {P:P3} {st:Stmt} {m:SM} {t:TS} (h:PS P.X st t) (k:∀(B0 B:Addr→Prop) (s:S3) (o:Store) (u:Sl3) (z:L2.St) (D:Ends),(∀a,B0 a→B a)→Wd P.G B o s→Slo P.G P.hx B0 B s u z→PostS P.G P.hx P.wx B0 s D (m u o)→t D z s.H):MS P st m:=
 ⟨⟨fun pins s0 z H D I ⟨B0,B,s,o,u,e,b,wd,sl,p⟩=>by subst e;exact h.run pins s0 z _ D I (k B0 B s o u z D b wd sl p)⟩⟩
theorem MSs.mk' {P:P3} {st:List Stmt} {m:SM} {t:TS} (h:PSs P.X st t) (k:∀(B0 B:Addr→Prop) (s:S3) (o:Store) (u:Sl3) (z:L2.St) (D:Ends),(∀a,B0 a→B a)→Wd P.G B o s→Slo P.G P.hx B0 B s u z→PostS P.G P.hx P.wx B0 s D (m u o)→t D z s.H):MSs P st m:=
 ⟨⟨fun pins s0 z H D I ⟨B0,B,s,o,u,e,b,wd,sl,p⟩=>by subst e;exact h.run pins s0 z _ D I (k B0 B s o u z D b wd sl p)⟩⟩
theorem MS.out {P:P3} {st:Stmt} {m:SM} (h:MS P st m):∃t,PS P.X st t∧∀(B0 B:Addr→Prop) (s:S3) (o:Store) (u:Sl3) (z:L2.St) (D:Ends),(∀a,B0 a→B a)→Wd P.G B o s→Slo P.G P.hx B0 B s u z→PostS P.G P.hx P.wx B0 s D (m u o)→t D z s.H:=
 ⟨_,h.ps,fun B0 B s o u z D b wd sl p=>⟨B0,B,s,o,u,rfl,b,wd,sl,p⟩⟩
theorem MSs.out {P:P3} {st:List Stmt} {m:SM} (h:MSs P st m):∃t,PSs P.X st t∧∀(B0 B:Addr→Prop) (s:S3) (o:Store) (u:Sl3) (z:L2.St) (D:Ends),(∀a,B0 a→B a)→Wd P.G B o s→Slo P.G P.hx B0 B s u z→PostS P.G P.hx P.wx B0 s D (m u o)→t D z s.H:=
 ⟨_,h.pss,fun B0 B s o u z D b wd sl p=>⟨B0,B,s,o,u,rfl,b,wd,sl,p⟩⟩
theorem PostS.mono {G:G3} {hx:Hex} {wx:WX} {B0:Addr→Prop} {s s1:S3} {D:Ends} {r:SRes} (l:Le B0 s s1) (h:PostS G hx wx B0 s D r):PostS G hx wx B0 s1 D r:=by
 cases r with
 | nx u' st'=>exact fun B' s' z' b l' w r=>h B' s' z' b (l.trans l') w r
 | bk u' st'=>exact fun B' s' z' b l' w r=>h B' s' z' b (l.trans l') w r
 | ct u' st'=>exact fun B' s' z' b l' w r=>h B' s' z' b (l.trans l') w r
 | rt w st'=>exact fun B' s' v b l' w r=>h B' s' v b (l.trans l') w r
 | err c x u' st'=>exact fun B' s' z' cv dd b l' w r=>h B' s' z' cv dd b (l.trans l') w r
 | bad=>exact h
end M3
namespace M3
open PySem PySem.Spec PyProof.Rows L2
def W.d:W→Option D
 | .val d=>some d
 | _=>none
def W.rd:W→Option D
 | .val d=>some d
 | .bor xs=>some (.lst xs)
 | .len xs=>some (.ro xs)
 | _=>none
def asDs:List W→Option (List D)
 | []=>some []
 | .val d :: ws=>(asDs ws).map (d :: ·)
 | _ :: _=>none
section
variable {G:G3} {X:Hex} {B:Addr→Prop} {s:S3}
theorem rd_ok {w:M3.W} {v:V} {d:D} {st:Store} (wd:Wd G B st s) (r:RepW G X B s w v) (e:w.rd=some d):Rep G.R s.H s.io d v:=by
 cases w with
 | val d'=>cases e;exact Rep.mono wd.sub (IoLe.refl _) r
 | bor xs=>cases e;obtain⟨p,vs,rfl,b,h,r⟩:=r;exact .lst h (r.mono wd.sub (IoLe.refl _))
 | bod ks us=>cases e
 | bdd ks us=>cases e
 | exn c x=>cases e
 | len xs=>cases e;obtain⟨p,vs,o,rfl,b,h,r⟩:=r;exact .ro (.inl (.inr ⟨o,h⟩)) (r.mono wd.sub (IoLe.refl _))
theorem asDs_ok:∀{ws:List W} {vs:List V} {ds:List D},RepWs G X B s ws vs→asDs ws=some ds→RepL G.R s.F s.io ds vs
 | _,_,_,.nil,e=>by cases e;exact .nil
 | w :: ws,_,ds,.cons r t,e=>by
  cases w with
  | val d=>
   unfold asDs at e
   cases h:asDs ws with
   | none=>rw[h] at e;cases e
   | some ds'=>rw[h] at e;cases e;exact .cons r (asDs_ok t h)
  | _=>cases e
end
section
variable {α β γ δ:Type} {G:G3} {B:Addr→Prop} {R:S3→α→β→Prop} {R':S3→γ→δ→Prop} {E:XK} {s:S3} {Q:δ→Hp→Prop}
theorem Post.of_chk {c:Prop} [Decidable c] {f:M γ} {st:Store} (h:Post G B R' E s Q (M.bind (M.chk c) (fun _=>f) st)):c∧Post G B R' E s Q (f st):=by
 by_cases hc:c
 ·refine⟨hc,?_⟩
  have e:M.bind (M.chk c) (fun _=>f) st=f st:=by unfold M.bind M.chk;rw[if_pos hc]
  rw[e] at h;exact h
 ·have e:M.bind (M.chk c) (fun _=>f) st=.bad:=by unfold M.bind M.chk;rw[if_neg hc]
  rw[e] at h;exact h.elim
theorem Post.of_of {a:Option α} {f:α→M γ} {st:Store} (h:Post G B R' E s Q (M.bind (M.of a) f st)):∃x,a=some x∧Post G B R' E s Q (f x st):=by
 cases a with
 | none=>exact h.elim
 | some x=>exact⟨x,rfl,h⟩
end
section
variable {G:G3} {B:Addr→Prop} {E:XK} {s:S3} {Q:VK}
theorem PostF.of_of {α:Type} {a:Option α} {f:α→M (List D)} {st:Store} (h:PostF G B E s Q (M.bind (M.of a) f st)):∃x,a=some x∧PostF G B E s Q (f x st):=by
 cases a with
 | none=>exact h.elim
 | some x=>exact⟨x,rfl,h⟩
end
def eVar (i:Nat):EM:=fun u st=>match u[i]? with
 | some (some w)=>.ok w st
 | _=>.bad
def eC (d:D):EM:=fun _=>M.pure (.val d)
section
variable {P:P3} {pos p pos':Pos}
theorem me_var (i:Nat) {x:Str} (hN:P.X.N[i]?=some x:=by rfl) (hv:Vis P.X.env.scope x:=by first | exact Or.inl rfl | exact Or.inr (Or.inl rfl) | exact Or.inr (Or.inr rfl)) (hd:(x == ("__debug__" : Str))=false:=by decide)
  (hcd:(x == ("__classdict__" : Str))=false:=by decide):ME P (.Name x pos) (eVar i):=by
 refine ME.mk' (pe_var hN hv hd hcd) fun B0 B s st u z Q wd sl h=>?_
 unfold eVar at h
 cases e:u[i]? with
 | none=>rw[e] at h;exact h.elim
 | some o=>
  cases o with
  | none=>rw[e] at h;exact h.elim
  | some w=>
   rw[e] at h
   obtain⟨v,e1,r⟩:=sl.get e
   exact⟨v,e1,h.pure wd r⟩
theorem me_c {e:Expr} {d:D} {v:V} (h:PE P.X e (tC v)) (r:∀F io,Rep P.G.R F io d v):ME P e (eC d):=
 ME.mk' h fun B0 B s st u z Q wd sl h=>h.pure wd (show Rep P.G.R s.F s.io d v from r _ _)
theorem me_int {i j}:ME P (.Constant (.int i) j pos) (eC (.int i)):=me_c pe_int fun _ _=>.int
theorem me_bl {b j}:ME P (.Constant (.bool b) j pos) (eC (.bl b)):=me_c pe_bl fun _ _=>.bl
theorem me_str {x j}:ME P (.Constant (.str x) j pos) (eC (.str x)):=me_c pe_str fun _ _=>.str
theorem me_ty {x:Str} {T:String} (hg:Gl P.X x) (hm:P.X.mg x=none) (hv:bootBuiltins x=some (.type T)) (hn:x≠"__name__":=by decide) (hd:(x == ("__debug__" : Str))=false:=by decide):ME P (.Name x pos) (eC (.ty T)):=
 me_c (pe_bltn (v:=.ty T) hg hm hv rfl hn hd) fun _ _=>.ty
def aNil:AM:=fun _=>M.pure []
def aCons (m:EM) (ms:AM):AM:=fun u=>M.bind (m u) fun w=>M.bind (ms u) fun ws=>M.pure (w :: ws)
theorem ma_nil:MA P [] aNil:=MA.mk' pa_nil fun B0 B s st u z Q wd sl h=>h.pure wd .nil
theorem ma_cons {e:Expr} {es:List Expr} {m:EM} {ms:AM} (he:ME P e m) (hs:MA P es ms) (hst:starEach (e :: es) P.X.env=(false,eval e P.X.env) :: starEach es P.X.env:=by rfl):MA P (e :: es) (aCons m ms):=by
 obtain⟨t,pt,ht⟩:=he.out
 obtain⟨r,pr,hr⟩:=hs.out
 refine MA.mk' (pa_cons pt pr hst) fun B0 B s st u z Q wd sl h=>ht B0 B s st u z _ wd sl (Post.bind h fun w st1 s1 v l1 wd1 r1 h1=>?_)
 refine hr B0 B s1 st1 u z _ wd1 (sl.mono l1) (Post.bind h1 fun ws st2 s2 vs l2 wd2 r2 h2=>?_)
 exact h2.pure wd2 (.cons (r1.mono l2) r2)
def eTup (m:AM):EM:=fun u=>M.bind (m u) fun ws=>M.bind (M.of (asDs ws)) fun ds=>M.bind (M.chk (ds.length≤1000000)) fun _=>M.pure (.val (.tup ds))
theorem me_tup {es:List Expr} {m:AM} {x1} (hs:MA P es m):ME P (.Tuple es x1 pos) (eTup m):=by
 obtain⟨t,pt,ht⟩:=hs.out
 refine ME.mk' (pe_tupZ pt) fun B0 B s st u z Q wd sl h=>ht B0 B s st u z _ wd sl (Post.bind h fun ws st1 s1 vs l1 wd1 r1 h1=>?_)
 obtain⟨ds,e,h1⟩:=Post.of_of h1
 have rl:=asDs_ok r1 e
 obtain⟨hz,h1⟩:=Post.of_chk h1
 exact⟨by rw[←rl.length];exact szL hz,wd1.newT rl fun s' v l w r=>h1 s' v l w r⟩
def fLst (m:AM):FM:=fun u=>M.bind (m u) fun ws=>M.bind (M.of (asDs ws)) fun ds=>M.bind (M.chk (ds.length≤1000000)) fun _=>M.pure ds
theorem mf_lst {es:List Expr} {m:AM} (hs:MA P es m):MF P (.List es pos) (fLst m):=by
 obtain⟨t,pt,ht⟩:=hs.out
 refine MF.mk' (pe_lst pt) fun B0 B s st u z Q wd sl h=>ht B0 B s st u z _ wd sl (PostF.bind h fun ws st1 s1 vs l1 wd1 r1 h1=>?_)
 obtain⟨ds,e,h1⟩:=PostF.of_of h1
 have rl:=asDs_ok r1 e
 obtain⟨hz,h1⟩:=PostF.of_chk h1
 exact⟨by rw[←rl.length];exact szL hz,fun p hp=>PostF.fresh h1 wd1 rl hp⟩
def eF (m:FM):EM:=fun u=>M.bind (m u) fun xs=>M.pure (.val (.lst xs))
theorem me_f {e:Expr} {m:FM} (h:MF P e m):ME P e (eF m):=by
 obtain⟨t,pt,ht⟩:=h.out
 refine ME.mk' pt fun B0 B s st u z Q wd sl h=>ht B0 B s st u z _ wd sl ?_
 unfold eF M.bind at h
 cases e:m u st with
 | ok xs st'=>
  rw[e] at h
  exact fun s' p vs l w nb hp r=>h ⟨s'.io,upd s'.F p (.lst vs),s'.H⟩ (.ref p) (l.trans (freeze_le w)) (freeze_wd w nb hp) (.lst upd_same (r.mono (freeze_le w).fr (freeze_le w).io))
 | err c x st'=>rw[e] at h;exact h
 | bad=>rw[e] at h;exact h
end
end M3
namespace M3
open PySem PySem.Spec PyProof.Rows L2
def OpM (P:P3) (f:Value→Value→Sem Value) (g:W→W→Option W):Prop:=∃r,OpR P.X f r∧∀(B:Addr→Prop) (s:S3) (st:Store) (w1 w2 w:W) (v1 v2:V) (Q:VK),Wd P.G B st s→RepW P.G P.hx B s w1 v1→RepW P.G P.hx B s w2 v2→
 g w1 w2=some w→(∀(s':S3) (v:V),Le B s s'→Wd P.G B st s'→RepW P.G P.hx B s' w v→Q v s'.H)→r v1 v2 s.H Q
def eBin (g:W→W→Option W) (a b:EM):EM:=fun u=>M.bind (a u) fun x=>M.bind (b u) fun y=>M.of (g x y)
section
variable {P:P3} {pos:Pos} {a b c:Expr} {ma mb mc:EM} {g g':W→W→Option W}
theorem op_use {R:R2} (h:OpM P f g) {B0 B:Addr→Prop} {s:S3} {st:Store} {u:Sl3} {z:L2.St} {Q:VK} {ta tb:TE}
  (ha:∀(B0 B:Addr→Prop) (s:S3) (st:Store) (u:Sl3) (z:L2.St) (Q:VK),Wd P.G B st s→Slo P.G P.hx B0 B s u z→Post P.G B (RepW P.G P.hx B) (fun c d H=>P.wx c d z H) s Q (ma u st)→ta z s.H Q)
  (hb:∀(B0 B:Addr→Prop) (s:S3) (st:Store) (u:Sl3) (z:L2.St) (Q:VK),Wd P.G B st s→Slo P.G P.hx B0 B s u z→Post P.G B (RepW P.G P.hx B) (fun c d H=>P.wx c d z H) s Q (mb u st)→tb z s.H Q)
  (hr:∀(B:Addr→Prop) (s:S3) (st:Store) (w1 w2 w:W) (v1 v2:V) (Q:VK),Wd P.G B st s→RepW P.G P.hx B s w1 v1→RepW P.G P.hx B s w2 v2→
   g w1 w2=some w→(∀(s':S3) (v:V),Le B s s'→Wd P.G B st s'→RepW P.G P.hx B s' w v→Q v s'.H)→R v1 v2 s.H Q)
  (wd:Wd P.G B st s) (sl:Slo P.G P.hx B0 B s u z) (hp:Post P.G B (RepW P.G P.hx B) (fun c d H=>P.wx c d z H) s Q (eBin g ma mb u st)):tOp R ta tb z s.H Q:=by
 refine ha B0 B s st u z _ wd sl (Post.bind hp fun w1 st1 s1 v1 l1 wd1 r1 h1=>?_)
 refine hb B0 B s1 st1 u z _ wd1 (sl.mono l1) (Post.bind h1 fun w2 st2 s2 v2 l2 wd2 r2 h2=>?_)
 cases e:g w1 w2 with
 | none=>rw[e] at h2;exact h2.elim
 | some w=>rw[e] at h2;exact hr B s2 st2 w1 w2 w v1 v2 Q wd2 (r1.mono l2) r2 e fun s' v l w' r=>h2 s' v l w' r
theorem me_bin {op:Operator} (h:OpM P (binaryOp op) g) (ha:ME P a ma) (hb:ME P b mb):ME P (.BinOp a op b pos) (eBin g ma mb):=by
 obtain⟨ta,pa,ha⟩:=ha.out
 obtain⟨tb,pb,hb⟩:=hb.out
 obtain⟨r,hr,hq⟩:=id h
 exact ME.mk' (pe_op hr pa pb) fun B0 B s st u z Q wd sl hp=>op_use h ha hb hq wd sl hp
theorem me_cmp {op:CmpOp} (h:OpM P (compareOp op) g) (ha:ME P a ma) (hb:ME P b mb) (hm:behindInMarks op b=false):ME P (.Compare a [op] [b] pos) (eBin g ma mb):=by
 obtain⟨ta,pa,ha⟩:=ha.out
 obtain⟨tb,pb,hb⟩:=hb.out
 obtain⟨r,hr,hq⟩:=id h
 exact ME.mk' (pe_cmpR hr pa pb hm) fun B0 B s st u z Q wd sl hp=>op_use h ha hb hq wd sl hp
def W.bool:W→Option Bool
 | .val (.bl b)=>some b
 | _=>none
theorem bool_inv {w:M3.W} {k:Bool} (e:w.bool=some k):w=.val (.bl k):=by
 unfold W.bool at e
 split at e
 ·cases e;rfl
 ·cases e
def tOf (m:EM):TM:=fun u=>M.bind (m u) fun w=>M.of w.bool
theorem mt_cmp {op:CmpOp} (h:OpM P (compareOp op) g) (ha:ME P a ma) (hb:ME P b mb) (hm:behindInMarks op b=false):MT P (.Compare a [op] [b] pos) (tOf (eBin g ma mb)):=by
 obtain⟨ta,pa,ha⟩:=ha.out
 obtain⟨tb,pb,hb⟩:=hb.out
 obtain⟨r,hr,hq⟩:=id h
 refine MT.mk' (pt_cmpR hr pa pb hm) fun B0 B s st u z Q wd sl hp=>?_
 refine op_use h ha hb hq wd sl (Post.bind hp fun w st1 s1 v l1 wd1 r1 h1=>?_)
 obtain⟨k,e,h1⟩:∃k,w.bool=some k∧Post P.G B (fun _ a b=>a=b) (fun c d H=>P.wx c d z H) s1 Q (.ok k st1):=by
  cases e:w.bool with
  | none=>rw[e] at h1;exact h1.elim
  | some k=>rw[e] at h1;exact⟨k,rfl,h1⟩
 obtain rfl:=bool_inv e
 cases r1
 exact⟨k,rfl,h1.pure wd1 rfl⟩
end
def W.ls:W→Option (List D)
 | .val (.lst xs)=>some xs
 | .bor xs=>some xs
 | _=>none
def addF:W→W→Option W
 | .val (.int i),.val (.int j)=>some (.val (.int (i+j)))
 | .val (.str a),.val (.str b)=>if a.length+b.length≤1000000 then some (.val (.str (a++b))) else none
 | .val (.tup xs),.val (.tup ys)=>if xs.length+ys.length≤1000000 then some (.val (.tup (xs++ys))) else none
 | x,y=>match x.ls,y.ls with
  | some xs,some ys=>if xs.length+ys.length≤1000000 then some (.val (.lst (xs++ys))) else none
  | _,_=>none
theorem ls_ok {G:G3} {X:Hex} {B:Addr→Prop} {s:S3} {st:Store} {w:W} {v:V} {xs:List D} (wd:Wd G B st s) (r:RepW G X B s w v) (e:w.ls=some xs):∃p vs,v=.ref p∧s.H p=some (.lst vs)∧RepL G.R s.F s.io xs vs:=by
 cases w with
 | val d=>
  cases d with
  | lst ys=>cases e;cases r with | lst h r=>exact⟨_,_,rfl,wd.sub _ _ h,r⟩
  | _=>cases e
 | bor ys=>cases e;obtain⟨p,vs,rfl,b,h,r⟩:=r;exact⟨p,vs,rfl,h,r⟩
 | _=>cases e
section
variable {P:P3}
theorem om_add:OpM P (binaryOp .Add) addF:=by
 refine⟨_,op_add.or (op_add_str.or (op_catZ.or op_cat)),fun B s st w1 w2 w v1 v2 Q wd r1 r2 e k=>?_⟩
 unfold addF at e
 split at e
 ·cases e;cases r1;cases r2;exact .inl ⟨_,_,rfl,rfl,k s _ (Le.refl _) wd .int⟩
 ·split at e
  ·rename_i hz
   cases e;cases r1;cases r2
   exact .inr (.inl ⟨_,_,rfl,rfl,szL hz,k s _ (Le.refl _) wd .str⟩)
  ·cases e
 ·split at e
  ·rename_i xs ys hz
   cases e
   cases r1 with
   | tup s1 q1=>
    cases r2 with
    | tup s2 q2=>
     have hs:=wd.sub
     refine .inr (.inr (.inl ⟨_,_,_,_,rfl,rfl,(s1.mono hs).sq,(s2.mono hs).sq,by rw[←q1.length,←q2.length];exact szL hz,fun z=>?_,fun z1 z2=>?_,fun z1 z2=>?_⟩))
     ·subst z
      cases q1
      exact k s _ (Le.refl _) wd (.tup s2 q2)
     ·subst z2
      cases q2
      rw[List.append_nil] at k
      exact k s _ (Le.refl _) wd (.tup s1 q1)
     ·exact wd.newT (q1.append q2) fun s' v l w r=>k s' v l w r
  ·cases e
 ·split at e
  ·rename_i e1 e2
   obtain⟨p,vs,rfl,hp,rp⟩:=ls_ok wd r1 e1
   obtain⟨q,us,rfl,hq,rq⟩:=ls_ok wd r2 e2
   split at e
   ·rename_i hz
    cases e
    refine Or.inr (Or.inr (Or.inr ⟨p,q,vs,us,rfl,rfl,hp,hq,by rw[←rp.length,←rq.length];exact szL hz,fun l hl=>?_⟩))
    obtain⟨wd2,l2⟩:=wd.froz hl (.lst (vs++us))
    exact k _ _ l2 wd2 (.lst upd_same ((rp.append rq).mono l2.fr l2.io))
   ·cases e
  ·cases e
def intF (C:Int→Int→Bool) (f:Int→Int→D):W→W→Option W
 | .val (.int i),.val (.int j)=>if C i j=true then some (.val (f i j)) else none
 | _,_=>none
theorem om_int {f:Value→Value→Sem Value} {C:Int→Int→Prop} {Cb:Int→Int→Bool} {g:Int→Int→V} {gd:Int→Int→D} (h:OpR P.X f (rI C g)) (hC:∀i j,Cb i j=true→C i j) (hg:∀i j K F io,Rep K F io (gd i j) (g i j)):OpM P f (intF Cb gd):=by
 refine⟨_,h,fun B s st w1 w2 w v1 v2 Q wd r1 r2 e k=>?_⟩
 unfold intF at e
 split at e
 ·split at e
  ·rename_i hc
   cases e;cases r1;cases r2
   exact⟨_,_,rfl,rfl,hC _ _ hc,k s _ (Le.refl _) wd (hg _ _ _ _ _)⟩
  ·cases e
 ·cases e
theorem om_int0 {f:Value→Value→Sem Value} {g:Int→Int→V} {gd:Int→Int→D} (h:OpR P.X f (rI0 g)) (hg:∀i j K F io,Rep K F io (gd i j) (g i j)):OpM P f (intF (fun _ _=>true) gd):=by
 refine⟨_,h,fun B s st w1 w2 w v1 v2 Q wd r1 r2 e k=>?_⟩
 unfold intF at e
 split at e
 ·rw[if_pos rfl] at e
  cases e;cases r1;cases r2
  exact⟨_,_,rfl,rfl,k s _ (Le.refl _) wd (hg _ _ _ _ _)⟩
 ·cases e
def subF:W→W→Option W:=intF (fun _ _=>true) fun i j=>.int (i - j)
def modF:W→W→Option W:=intF (fun _ j=>decide (0<j)) fun i j=>.int (i % j)
def divF:W→W→Option W:=intF (fun _ j=>decide (0<j∧j<1073741824)) fun i j=>.int (i / j)
def powF:W→W→Option W:=intF (fun i j=>decide (0≤j∧j≤1000∧i.natAbs<1000000)) fun i j=>.int (i ^ j.toNat)
def ltF:W→W→Option W:=intF (fun _ _=>true) fun i j=>.bl (decide (i<j))
def gtF:W→W→Option W:=intF (fun _ _=>true) fun i j=>.bl (decide (j<i))
def geF:W→W→Option W:=intF (fun _ _=>true) fun i j=>.bl (decide (j≤i))
theorem om_sub:OpM P (binaryOp .Sub) subF:=om_int0 op_sub fun _ _ _ _ _=>.int
theorem om_mod:OpM P (binaryOp .Mod) modF:=om_int op_mod (fun i j h=>of_decide_eq_true h) fun _ _ _ _ _=>.int
theorem om_div:OpM P (binaryOp .FloorDiv) divF:=om_int op_fdiv (fun i j h=>of_decide_eq_true (p:=0<j∧j<1073741824) h) fun _ _ _ _ _=>.int
theorem om_pow:OpM P (binaryOp .Pow) powF:=om_int op_pow (fun i j h=>by have:=of_decide_eq_true (p:=0≤j∧j≤1000∧i.natAbs<1000000) h;exact⟨this.1,by omega,by omega⟩) fun _ _ _ _ _=>.int
theorem om_lt:OpM P (compareOp .Lt) ltF:=om_int0 op_lt fun _ _ _ _ _=>.bl
theorem om_gt:OpM P (compareOp .Gt) gtF:=om_int0 op_gt fun _ _ _ _ _=>.bl
theorem om_ge:OpM P (compareOp .GtE) geF:=om_int0 op_ge fun _ _ _ _ _=>.bl
def mulC (i j:Int):Bool:=decide (i.natAbs.log2+j.natAbs.log2<100000000)
def MulS (x:Str) (n:Int):Bool:=decide (0≤n∧n≤1000∧x.length≤1000)
def mulF:W→W→Option W
 | .val (.int i),.val (.int j)=>if mulC i j=true then some (.val (.int (i * j))) else none
 | .val (.str x),.val (.int j)=>if MulS x j=true then some (.val (.str (Txt.mul x j))) else none
 | _,_=>none
theorem bits_log (x:Int):Builtin.Int.intBits x≤x.natAbs.log2+1:=by simp only[Builtin.Int.intBits];split <;> omega
theorem line_bits:bitsLine=2 ^ 27:=by decide
theorem mulC_ok {i j:Int} (h:mulC i j=true):IntMulOk i j:=fun big=>by
 have few:i.natAbs.log2+j.natAbs.log2<100000000:=of_decide_eq_true h
 have far:=of_decide_eq_true (show decide _=true from((Bool.and_eq_true _ _).mp big).2)
 have li:=bits_log i
 have lj:=bits_log j
 simp only[line_bits] at far
 omega
theorem MulS_ok {x:Str} {n:Int} (h:MulS x n=true):MulOk x n:=by
 obtain⟨h0,h1,h2⟩:=of_decide_eq_true h
 refine⟨?_,fun hn _=>?_,fun hn _=>?_⟩
 ·rw[Bool.or_eq_false_iff]
  exact⟨decide_eq_false (by omega),decide_eq_false (by omega)⟩
 ·intro z
  have:(1000:Int)≤(2 ^ 63 - 1) / n:=by
   rw[Int.le_ediv_iff_mul_le (by omega)]
   omega
  omega
 ·have long:x.length * n.toNat≤1000 * 1000:=Nat.mul_le_mul h2 (by omega)
  have line:=szL (n:=1000 * 1000) (by decide)
  unfold Builtin.Str.tooLong
  exact decide_eq_false fun q=>by omega
theorem om_mul:OpM P (binaryOp .Mult) mulF:=by
 have hI:OpR P.X (binaryOp .Mult) (rI (fun i j=>IntMulOk i j) fun i j=>.int (i * j)):=opI fun _ _ _ _ _ _ _ hc q=>mul_int q hc
 have hS:OpR P.X (binaryOp .Mult) (fun x y H Q=>∃a n,x=.str a∧y=.int n∧MulOk a n∧Q (.str (Txt.mul a n)) H):=by
  intro pins s z H x y v u Q I rx ry h
  obtain⟨a,n,rfl,rfl,hm,q⟩:=h
  obtain⟨t,rfl⟩:=rx
  obtain⟨t2,rfl⟩:=ry
  exact SB.mul hm fun t' k=>⟨.str (Txt.mul a n),H,I.tok _,⟨_,rfl⟩,q⟩
 refine⟨_,hI.or hS,fun B s st w1 w2 w v1 v2 Q wd r1 r2 e k=>?_⟩
 unfold mulF at e
 split at e
 ·split at e
  ·rename_i hc
   cases e;cases r1;cases r2
   exact .inl ⟨_,_,rfl,rfl,mulC_ok hc,k s _ (Le.refl _) wd .int⟩
  ·cases e
 ·split at e
  ·rename_i hc
   cases e;cases r1;cases r2
   exact .inr ⟨_,_,rfl,rfl,MulS_ok hc,k s _ (Le.refl _) wd .str⟩
  ·cases e
 ·cases e
mutual
def D.py:D→Option PyData
 | .non=>some .none
 | .bl b=>some (.bool b)
 | .int i=>some (.int i)
 | .str x=>some (.str x)
 | .tup xs=>(D.pys xs).map .tuple
 | .lst xs=>(D.pys xs).map .list
 | .ro xs=>(D.pys xs).map .list
 | .ctup xs=>(D.pys xs).map .tuple
 | .ty _=>none
 | .ref _=>none
 | .dict _ _=>none
 | .dd _ _=>none
 | .fn _ _=>none
def D.pys:List D→Option (List PyData)
 | []=>some []
 | d :: ds=>match D.py d,D.pys ds with
  | some x,some xs=>some (x :: xs)
  | _,_=>none
end
section
variable {K:KW} {F:Hp} {io:Io}
mutual
theorem py_ok:∀{d:D} {v:V} {x:PyData},Rep K F io d v→d.py=some x→Dp K.K F v x
 | _,_,_,.non,e=>by rw[D.py] at e;cases e;exact .non
 | _,_,_,.bl,e=>by rw[D.py] at e;cases e;exact .bl _
 | _,_,_,.int,e=>by rw[D.py] at e;cases e;exact .int _
 | _,_,_,.str,e=>by rw[D.py] at e;cases e;exact .str _
 | _,_,_,.ty,e=>by rw[D.py] at e;cases e
 | _,_,_,.ref _,e=>by rw[D.py] at e;cases e
 | _,_,_,.dict _ _ _,e=>by rw[D.py] at e;cases e
 | _,_,_,.dd _ _ _ _ _,e=>by rw[D.py] at e;cases e
 | _,_,_,.fn _ _ _ _ _,e=>by rw[D.py] at e;cases e
 | .tup xs,_,x,.tup s r,e=>by
  rw[D.py] at e
  cases h:D.pys xs with
  | none=>rw[h] at e;cases e
  | some ys=>rw[h] at e;cases e;exact .tup s.sq (pys_ok r h)
 | .ctup xs,_,x,.ctup s r,e=>by
  rw[D.py] at e
  cases h:D.pys xs with
  | none=>rw[h] at e;cases e
  | some ys=>rw[h] at e;cases e;exact .tup s (pys_ok r h)
 | .lst xs,_,x,.lst s r,e=>by
  rw[D.py] at e
  cases h:D.pys xs with
  | none=>rw[h] at e;cases e
  | some ys=>rw[h] at e;cases e;exact .lst (.inl (.inl s)) (pys_ok r h)
 | .ro xs,_,x,.ro s r,e=>by
  rw[D.py] at e
  cases h:D.pys xs with
  | none=>rw[h] at e;cases e
  | some ys=>rw[h] at e;cases e;exact .lst s (pys_ok r h)
theorem pys_ok:∀{ds:List D} {vs:List V} {xs:List PyData},RepL K F io ds vs→D.pys ds=some xs→DpAll K.K F vs xs
 | _,_,_,.nil,e=>by rw[D.pys] at e;cases e;exact .nil
 | d :: ds,_,xs,.cons r t,e=>by
  rw[D.pys] at e
  cases h:D.py d with
  | none=>rw[h] at e;cases e
  | some x=>
   cases h2:D.pys ds with
   | none=>rw[h,h2] at e;cases e
   | some ys=>rw[h,h2] at e;cases e;exact .cons (py_ok r h) (pys_ok t h2)
end
end
def D.eqv? (a b:D):Option Bool:=match a.py,b.py with
 | some x,some y=>if SeqAt.shaped x=true∧SeqAt.shaped y=true then some (PyData.eqv x y) else none
 | _,_=>none
def eqF (neg:Bool) (x y:W):Option W:=match x.rd,y.rd with
 | some a,some b=>(a.eqv? b).map fun k=>.val (.bl (if neg then !k else k))
 | _,_=>none
theorem eqv_of {a b:D} {k:Bool} (h:a.eqv? b=some k):∃x y,a.py=some x∧b.py=some y∧SeqAt.shaped x=true∧SeqAt.shaped y=true∧k=PyData.eqv x y:=by
 unfold D.eqv? at h
 split at h
 ·rename_i x y e1 e2
  split at h
  ·rename_i hs
   cases h
   exact⟨x,y,e1,e2,hs.1,hs.2,rfl⟩
  ·cases h
 ·cases h
theorem eqF_ok {B:Addr→Prop} {s:S3} {st:Store} {w1 w2 w:W} {v1 v2:V} {neg:Bool} (wd:Wd P.G B st s) (r1:RepW P.G P.hx B s w1 v1) (r2:RepW P.G P.hx B s w2 v2) (e:eqF neg w1 w2=some w) :
  ∃x y,Dp P.X.K s.H v1 x∧Dp P.X.K s.H v2 y∧SeqAt.shaped x=true∧SeqAt.shaped y=true∧w=.val (.bl (if neg then !PyData.eqv x y else PyData.eqv x y)):=by
 unfold eqF at e
 split at e
 ·rename_i a b e1 e2
  cases h:a.eqv? b with
  | none=>rw[h] at e;cases e
  | some k=>
   rw[h] at e
   cases e
   obtain⟨x,y,p1,p2,q1,q2,rfl⟩:=eqv_of h
   rw[P.hK]
   exact⟨x,y,py_ok (rd_ok wd r1 e1) p1,py_ok (rd_ok wd r2 e2) p2,q1,q2,rfl⟩
 ·cases e
theorem om_eq (hu:P.X.A.units+64<cLine):OpM P (compareOp .Eq) (eqF false):=by
 refine⟨_,op_eqD hu,fun B s st w1 w2 w v1 v2 Q wd r1 r2 e k=>?_⟩
 obtain⟨x,y,h1,h2,s1,s2,rfl⟩:=eqF_ok wd r1 r2 e
 exact⟨x,y,h1,h2,s1,s2,k s _ (Le.refl _) wd .bl⟩
theorem om_ne (hu:P.X.A.units+64<cLine):OpM P (compareOp .NotEq) (eqF true):=by
 refine⟨_,op_neD hu,fun B s st w1 w2 w v1 v2 Q wd r1 r2 e k=>?_⟩
 obtain⟨x,y,h1,h2,s1,s2,rfl⟩:=eqF_ok wd r1 r2 e
 exact⟨x,y,h1,h2,s1,s2,k s _ (Le.refl _) wd .bl⟩
end
end M3
namespace M3
open PySem PySem.Spec PyProof.Rows L2
def D.tru:D→Option Bool
 | .non=>some false
 | .bl b=>some b
 | .int i=>some (i != 0)
 | .str y=>if y.length≤1000000 then some (y.length != 0) else none
 | .tup xs=>some (!xs.isEmpty)
 | .ctup xs=>some (!xs.isEmpty)
 | .lst xs=>some (!xs.isEmpty)
 | .ro xs=>some (!xs.isEmpty)
 | _=>none
def W.tru (w:W):Option Bool:=w.rd.bind D.tru
theorem isEmpty_repL {K:KW} {F:Hp} {io:Io} {xs:List D} {vs:List V} (r:RepL K F io xs vs):xs.isEmpty=vs.isEmpty:=by cases r <;> rfl
theorem tru_rep {K:KW} {F:Hp} {io:Io} {d:D} {v:V} {k:Bool} (r:Rep K F io d v) (e:d.tru=some k):TruV K.K v F k:=by
 cases r with
 | non=>cases e;rfl
 | bl=>cases e;rfl
 | int=>cases e;rfl
 | @str x=>
  have e:(if x.length≤1000000 then some (x.length != 0) else none)=some k:=e
  split at e
  ·rename_i hl
   cases e
   refine⟨szL hl,?_⟩
   cases hx:x.length with
   | zero=>rfl
   | succ n=>rfl
  ·cases e
 | ty=>cases e
 | tup s q=>cases e;exact .inr (.inl ⟨_,s.sq,by rw[isEmpty_repL q]⟩)
 | ctup s q=>cases e;exact .inr (.inl ⟨_,s,by rw[isEmpty_repL q]⟩)
 | lst s q=>cases e;exact .inl ⟨_,.inl (.inl s),by rw[isEmpty_repL q]⟩
 | ro s q=>cases e;exact .inl ⟨_,s,by rw[isEmpty_repL q]⟩
 | _=>cases e
theorem tru_ok3 {P:P3} {B:Addr→Prop} {s:S3} {st:Store} {w:W} {v:V} {k:Bool} (wd:Wd P.G B st s) (r:RepW P.G P.hx B s w v) (e:w.tru=some k):TruV P.X.K v s.H k:=by
 unfold W.tru at e
 cases h:w.rd with
 | none=>rw[h] at e;cases e
 | some d=>rw[h] at e;rw[P.hK];exact tru_rep (rd_ok wd r h) e
def tTru (m:EM):TM:=fun u=>M.bind (m u) fun w=>M.of w.tru
section
variable {P:P3} {pos:Pos} {a b c:Expr} {rest:List Expr} {ma mb mc:EM}
theorem of_eq {α:Type} {o:Option α} {st:Store} {G:G3} {B:Addr→Prop} {β:Type} {R:S3→α→β→Prop} {E:XK} {s:S3} {Q:β→Hp→Prop} (h:Post G B R E s Q (M.of o st)):∃x,o=some x∧Post G B R E s Q (.ok x st):=by
 cases o with
 | none=>exact h.elim
 | some x=>exact⟨x,rfl,h⟩
theorem mt_tru (ha:ME P a ma) (he:∀whole,isTrue a P.X.env whole=(do let v ← whole;standAt a.pos;holding [v] (truthy v)):=by intro _;rfl):MT P a (tTru ma):=by
 obtain⟨ta,pa,ha⟩:=ha.out
 refine MT.mk' (pt_truth pa he) fun B0 B s st u z Q wd sl hp=>ha B0 B s st u z _ wd sl (Post.bind hp fun w st1 s1 v l1 wd1 r1 h1=>?_)
 obtain⟨k,e,h1⟩:=of_eq h1
 exact⟨k,tru_ok3 wd1 r1 e,h1.pure wd1 rfl⟩
def eAnd (a b:EM):EM:=fun u=>M.bind (a u) fun w=>M.bind (M.of w.tru) fun k=>if k=true then b u else M.pure w
def eOr (a b:EM):EM:=fun u=>M.bind (a u) fun w=>M.bind (M.of w.tru) fun k=>if k=true then M.pure w else b u
def eNot (a:EM):EM:=fun u=>M.bind (a u) fun w=>M.bind (M.of w.tru) fun k=>M.pure (.val (.bl (!k)))
theorem me_one {op} (ha:ME P a ma):ME P (.BoolOp op [a] pos) ma:=⟨pe_one ha.pe⟩
theorem me_and (ha:ME P a ma) (hb:ME P (.BoolOp .And (b :: rest) pos) mb):ME P (.BoolOp .And (a :: b :: rest) pos) (eAnd ma mb):=by
 obtain⟨ta,pa,ha⟩:=ha.out
 obtain⟨tb,pb,hb⟩:=hb.out
 refine ME.mk' (pe_andT pa pb) fun B0 B s st u z Q wd sl hp=>ha B0 B s st u z _ wd sl (Post.bind hp fun w st1 s1 v l1 wd1 r1 h1=>?_)
 obtain⟨k,e,h1⟩:=Post.of_of h1
 refine⟨k,tru_ok3 wd1 r1 e,?_⟩
 cases k with
 | true=>exact hb B0 B s1 st1 u z Q wd1 (sl.mono l1) h1
 | false=>exact h1.pure wd1 r1
def tAnd3 (a b:TM):TM:=fun u=>M.bind (a u) fun k=>if k=true then b u else M.pure false
def tOr3 (a b:TM):TM:=fun u=>M.bind (a u) fun k=>if k=true then M.pure true else b u
def tNot3 (a:TM):TM:=fun u=>M.bind (a u) fun k=>M.pure (!k)
variable {na nb:TM}
theorem mt_not (ha:MT P a na):MT P (.UnaryOp .Not a pos) (tNot3 na):=by
 obtain⟨ta,pa,ha⟩:=ha.out
 refine MT.mk' (pt_not pa) fun B0 B s st u z Q wd sl hp=>ha B0 B s st u z _ wd sl (Post.bind hp fun k st1 s1 k' l1 wd1 r1 h1=>?_)
 subst r1
 exact h1.pure wd1 rfl
def eChain (g g':W→W→Option W) (a b c:EM):EM:=fun u=>M.bind (a u) fun x=>M.bind (b u) fun y=>M.bind (M.of (g x y)) fun k=>M.bind (M.of k.bool) fun k=>if k=true then M.bind (c u) fun w=>M.of (g' y w) else M.pure (.val (.bl false))
def eIf (t:TM) (a b:EM):EM:=fun u=>M.bind (t u) fun k=>if k=true then a u else b u
end
def D.items:D→Option (List D)
 | .tup xs=>some xs
 | .ctup xs=>some xs
 | .lst xs=>some xs
 | .ro xs=>some xs
 | _=>none
def ixF (x y:W):Option W:=match x,y with
 | .val (.str z),.val (.int i)=>if z.length≤1000000 then (atI z.cps.toList i).map fun c=>.val (.str ⟨#[c]⟩) else none
 | x,.val (.int i)=>(x.rd.bind D.items).bind fun xs=>(atI xs i).map .val
 | _,_=>none
theorem atI_rep {K:KW} {F:Hp} {io:Io} {xs:List D} {vs:List V} {i:Int} {d:D} (r:RepL K F io xs vs) (e:atI xs i=some d):∃v,atI vs i=some v∧Rep K F io d v:=by
 unfold atI at e⊢
 rw[r.length] at e
 cases h:ixN vs.length i with
 | none=>rw[h] at e;cases e
 | some j=>rw[h] at e;exact r.get e
section
variable {P:P3} {pos:Pos} {a b:Expr} {ma mb:EM}
theorem items_ok {B:Addr→Prop} {s:S3} {st:Store} {w:W} {v:V} {d:D} {xs:List D} (wd:Wd P.G B st s) (r:RepW P.G P.hx B s w v) (e:w.rd=some d) (e2:d.items=some xs) :
  ∃p vs,v=.ref p∧(SqL P.X.K s.H p vs∨SqT P.X.K s.H p vs)∧RepL P.G.R s.F s.io xs vs:=by
 rw[P.hK]
 cases w with
 | val d'=>
  cases e
  cases r with
  | tup h q=>cases e2;exact⟨_,_,rfl,.inr (h.mono wd.sub).sq,q⟩
  | ctup h q=>cases e2;exact⟨_,_,rfl,.inr (same_sqT wd.sub h),q⟩
  | lst h q=>cases e2;exact⟨_,_,rfl,.inl (.inl (.inl (wd.sub _ _ h))),q⟩
  | ro h q=>cases e2;exact⟨_,_,rfl,.inl (same_sqL wd.sub h),q⟩
  | _=>cases e2
 | bor ys=>cases e;cases e2;obtain⟨p,vs,rfl,b,h,r⟩:=r;exact⟨p,vs,rfl,.inl (.inl (.inl h)),r⟩
 | bod ks us=>cases e
 | bdd ks us=>cases e
 | exn c x=>cases e
 | len ys=>cases e;cases e2;obtain⟨p,vs,o,rfl,b,h,r⟩:=r;exact⟨p,vs,rfl,.inl (.inl (.inr ⟨o,h⟩)),r⟩
theorem me_ix (ha:ME P a ma) (hb:ME P b mb) (hs:PlainIx b:=by first | exact fun _ _=>rfl | (intro _ _;rfl)):ME P (.Subscript a b pos) (eBin ixF ma mb):=by
 obtain⟨ta,pa,ha⟩:=ha.out
 obtain⟨tb,pb,hb⟩:=hb.out
 refine ME.mk' (pe_ix ix_seq pa pb hs) fun B0 B s st u z Q wd sl hp=>ha B0 B s st u z _ wd sl (Post.bind hp fun w1 st1 s1 v1 l1 wd1 r1 h1=>?_)
 refine hb B0 B s1 st1 u z _ wd1 (sl.mono l1) (Post.bind h1 fun w2 st2 s2 v2 l2 wd2 r2 h2=>?_)
 obtain⟨w,e,h2⟩:=of_eq h2
 have r1:=r1.mono l2
 unfold ixF at e
 split at e
 ·split at e
  ·rename_i hz
   cases r1;cases r2
   rename_i zs i
   cases h:atI zs.cps.toList i with
   | none=>rw[h] at e;cases e
   | some c=>rw[h] at e;cases e;exact .inr (.inr ⟨zs,i,c,rfl,rfl,szL hz,h,h2.pure wd2 .str⟩)
  ·cases e
 ·rename_i i _
  cases r2
  cases h3:w1.rd with
  | none=>rw[h3] at e;cases e
  | some d=>
   rw[h3] at e
   cases h4:d.items with
   | none=>rw[Option.bind_some,h4] at e;cases e
   | some xs=>
    rw[Option.bind_some,h4,Option.bind_some] at e
    cases h5:atI xs i with
    | none=>rw[h5] at e;cases e
    | some d'=>
     rw[h5] at e
     cases e
     obtain⟨p,vs,rfl,hq,rl⟩:=items_ok wd2 r1 h3 h4
     obtain⟨v,e6,rv⟩:=atI_rep rl h5
     rcases hq with hq | hq
     ·exact .inl ⟨p,vs,i,v,rfl,rfl,hq,e6,h2.pure wd2 rv⟩
     ·exact .inr (.inl ⟨p,vs,i,v,rfl,rfl,hq,e6,h2.pure wd2 rv⟩)
 ·cases e
end
end M3
namespace M3
open PySem PySem.Spec PyProof.Rows L2
section
variable {G:G3} {X:Hex} {B0 B:Addr→Prop} {s:S3} {u:Sl3} {z:L2.St}
theorem get_set {α:Type} {l:List (Option α)} {i j:Nat} {w w':α} (h:(l.set i (some w))[j]?=some (some w')):(i=j∧w'=w)∨(i≠j∧l[j]?=some (some w')):=by
 by_cases e:i=j
 ·subst e
  by_cases hl:i<l.length
  ·rw[List.getElem?_set_self hl] at h;cases h;exact .inl ⟨rfl,rfl⟩
  ·rw[List.getElem?_eq_none (by simpa using hl)] at h;cases h
 ·rw[List.getElem?_set_ne e] at h;exact .inr ⟨e,h⟩
theorem Slo.set {d:D} {v:V} (h:Slo G X B0 B s u z) (r:Rep G.R s.F s.io d v) (i:Nat):Slo G X B0 B s (u.set i (some (.val d))) (z.set i (some v)):=by
 obtain⟨hl,ow,h1,h2⟩:=h
 refine⟨by simpa using hl,ow,fun j w e=>?_,fun j k w w' o1 o2 e1 e2 e=>?_⟩
 ·rcases get_set e with⟨rfl,rfl⟩ | ⟨ne,e⟩
  ·have hi:i<u.length:=by
    rcases Nat.lt_or_ge i u.length with q | q
    ·exact q
    ·rw[List.getElem?_eq_none (by simpa using q)] at e;cases e
   exact⟨v,by rw[List.getElem?_set_self (by omega)],r,fun q=>by cases q⟩
  ·obtain⟨v',e1,r',q⟩:=h1 j w e
   exact⟨v',by rw[List.getElem?_set_ne ne];exact e1,r',q⟩
 ·rcases get_set e1 with⟨_,q⟩ | ⟨_,e1⟩
  ·subst q;cases o1
  ·rcases get_set e2 with⟨_,q⟩ | ⟨_,e2⟩
   ·subst q;cases o2
   ·exact h2 j k w w' o1 o2 e1 e2 e
theorem Slo.del (h:Slo G X B0 B s u z) (i:Nat) (o:Option V):Slo G X B0 B s (u.set i none) (z.set i o):=by
 obtain⟨hl,ow,h1,h2⟩:=h
 have old:∀{j:Nat} {w:M3.W},(u.set i none)[j]?=some (some w)→i≠j∧u[j]?=some (some w):=fun {j w} e=>by
  by_cases q:i=j
  ·subst q
   by_cases hl:i<u.length
   ·rw[List.getElem?_set_self hl] at e;cases e
   ·rw[List.getElem?_eq_none (by simpa using hl)] at e;cases e
  ·rw[List.getElem?_set_ne q] at e;exact⟨q,e⟩
 refine⟨by simpa using hl,ow,fun j w e=>?_,fun j k w w' o1 o2 e1 e2 e=>h2 j k w w' o1 o2 (old e1).2 (old e2).2 e⟩
 obtain⟨ne,e⟩:=old e
 obtain⟨v',e1,r',q⟩:=h1 j w e
 exact⟨v',by rw[List.getElem?_set_ne ne];exact e1,r',q⟩
theorem RepW.wider {B':Addr→Prop} (hb:∀a,B a→B' a) {w:M3.W} {v:V} (r:RepW G X B s w v):RepW G X B' s w v:=by
 cases w with
 | val d=>exact r
 | bor xs=>obtain⟨p,vs,e,b,h,r⟩:=r;exact⟨p,vs,e,hb p b,h,r⟩
 | bod ks us=>obtain⟨p,vs,e,b,h,r⟩:=r;exact⟨p,vs,e,hb p b,h,r⟩
 | bdd ks us=>obtain⟨p,vs,e,b,h,r⟩:=r;exact⟨p,vs,e,hb p b,h,r⟩
 | exn c x=>exact r
 | len xs=>obtain⟨p,vs,o,e,b,h,r⟩:=r;exact⟨p,vs,o,e,hb p b,h,r⟩
theorem own_ref {w:M3.W} {v:V} (o:w.own=true) (r:RepW G X B s w v):∃p,v=.ref p∧B p:=by
 cases w with
 | val d=>cases o
 | bor xs=>obtain⟨p,vs,e,b,h,r⟩:=r;exact⟨p,e,b⟩
 | bod ks us=>obtain⟨p,vs,e,b,h,r⟩:=r;exact⟨p,e,b⟩
 | bdd ks us=>obtain⟨p,vs,e,b,h,r⟩:=r;exact⟨p,e,b⟩
 | exn c x=>cases o
 | len xs=>cases o
theorem Slo.ownW {p:Addr} {w0:M3.W} (h:Slo G X B0 B s u z) (nb:¬B p) (nb0:¬B0 p) (r:RepW G X (plus B p) s w0 (.ref p)) (i:Nat) :
  Slo G X B0 (plus B p) s (u.set i (some w0)) (z.set i (some (.ref p))):=by
 obtain⟨hl,ow,h1,h2⟩:=h
 have at_:∀{j:Nat} {w:M3.W},w.own=true→u[j]?=some (some w)→ow j≠p:=fun {j w} o e q=>by
  obtain⟨v,e1,r,q'⟩:=h1 j _ e
  obtain⟨p',e2,b⟩:=own_ref o r
  obtain⟨e3,_⟩:=q' o
  rw[e2] at e3;cases e3
  exact nb (q▸b)
 refine⟨by simpa using hl,fun j=>if j=i then p else ow j,fun j w e=>?_,fun j k w w' o1 o2 e1 e2 e=>?_⟩
 ·rcases get_set e with⟨rfl,rfl⟩ | ⟨ne,e⟩
  ·have hi:i<u.length:=by
    rcases Nat.lt_or_ge i u.length with q | q
    ·exact q
    ·rw[List.getElem?_eq_none (by simpa using q)] at e;cases e
   exact⟨.ref p,by rw[List.getElem?_set_self (by omega)],r,fun q=>⟨by simp,by simpa using nb0⟩⟩
  ·obtain⟨v',e1,r',q⟩:=h1 j w e
   exact⟨v',by rw[List.getElem?_set_ne ne];exact e1,r'.wider fun a b=>.inl b,fun q'=>by simp only[Ne.symm ne,if_false];exact q q'⟩
 ·rcases get_set e1 with⟨rfl,q⟩ | ⟨n1,e1⟩
  ·rcases get_set e2 with⟨rfl,q⟩ | ⟨n2,e2⟩
   ·rfl
   ·simp only[if_true,Ne.symm n2,if_false] at e
    exact absurd e.symm (at_ o2 e2)
  ·rcases get_set e2 with⟨rfl,q⟩ | ⟨n2,e2⟩
   ·simp only[if_true,Ne.symm n1,if_false] at e
    exact absurd e (at_ o1 e1)
   ·simp only[Ne.symm n1,Ne.symm n2,if_false] at e
    exact h2 j k w w' o1 o2 e1 e2 e
theorem Slo.own {p:Addr} {xs:List D} {vs:List V} (h:Slo G X B0 B s u z) (nb:¬B p) (nb0:¬B0 p) (hp:s.H p=some (.lst vs)) (r:RepL G.R s.F s.io xs vs) (i:Nat) :
  Slo G X B0 (plus B p) s (u.set i (some (.bor xs))) (z.set i (some (.ref p))):=h.ownW (w0:=.bor xs) nb nb0 ⟨p,vs,rfl,.inr rfl,hp,r⟩ i
end
def sNext:SM:=fun u st=>.nx u st
def sSeq (a b:SM):SM:=fun u st=>match a u st with
 | .nx u' st'=>b u' st'
 | r=>r
def sBreak:SM:=fun u st=>.bk u st
def sCont:SM:=fun u st=>.ct u st
def sDrop (m:EM):SM:=fun u st=>match m u st with
 | .ok _ st'=>.nx u st'
 | .err c x st'=>.err c x u st'
 | .bad=>.bad
def sRetN:SM:=fun _ st=>.rt (.val .non) st
def sSet (i:Nat) (m:EM):SM:=fun u st=>match m u st with
 | .ok (.val d) st'=>.nx (u.set i (some (.val d))) st'
 | .ok _ _=>.bad
 | .err c x st'=>.err c x u st'
 | .bad=>.bad
def sOwn (i:Nat) (m:FM):SM:=fun u st=>match m u st with
 | .ok xs st'=>.nx (u.set i (some (.bor xs))) st'
 | .err c x st'=>.err c x u st'
 | .bad=>.bad
def sIf (c:TM) (a b:SM):SM:=fun u st=>match c u st with
 | .ok true st'=>a u st'
 | .ok false st'=>b u st'
 | .err c x st'=>.err c x u st'
 | .bad=>.bad
section
variable {P:P3} {pos:Pos} {e:Expr} {m:EM}
theorem Slo.mono' {G:G3} {X:Hex} {B0 B:Addr→Prop} {s s':S3} {u:Sl3} {z:L2.St} (h:Slo G X B0 B s u z) (l:Le B s s'):Slo G X B0 B s' u z:=Slo.mono l h
theorem mss_nil:MSs P [] sNext:=MSs.mk' pss_nil fun B0 B s o u z D b wd sl h=>h B s z b (Le.refl _) wd sl
theorem seq_post {G:G3} {hx:Hex} {wx:WX} {B0:Addr→Prop} {s:S3} {D:Ends} {a b:SM} {u:Sl3} {o:Store} (h:PostS G hx wx B0 s D (sSeq a b u o)) :
  PostS G hx wx B0 s { D with nx:=fun z H=>∃(B:Addr→Prop) (s':S3) (o':Store) (u':Sl3),s'.H=H∧(∀a,B0 a→B a)∧Le B0 s s'∧Wd G B o' s'∧Slo G hx B0 B s' u' z∧PostS G hx wx B0 s' D (b u' o') } (a u o):=by
 unfold sSeq at h
 cases e:a u o with
 | nx u' o'=>rw[e] at h;exact fun B' s' z' hb l w sl=>⟨B',s',o',u',rfl,hb,l,w,sl,PostS.mono l h⟩
 | rt w o'=>rw[e] at h;exact h
 | bk u' o'=>rw[e] at h;exact h
 | ct u' o'=>rw[e] at h;exact h
 | err c x u' o'=>rw[e] at h;exact h
 | bad=>rw[e] at h;exact h
theorem mss_cons {st:Stmt} {rest:List Stmt} {a b:SM} (h1:MS P st a) (h2:MSs P rest b):MSs P (st :: rest) (sSeq a b):=by
 obtain⟨ta,pa,ha⟩:=h1.out
 obtain⟨tb,pb,hb⟩:=h2.out
 refine MSs.mk' (pss_cons pa pb) fun B0 B s o u z D b0 wd sl h=>?_
 have q:=ha B0 B s o u z _ b0 wd sl (seq_post h)
 show ta { D with nx:=tb D } z s.H
 refine ha B0 B s o u z { D with nx:=tb D } b0 wd sl ?_
 have h':=seq_post h
 cases e:a u o with
 | nx u' o'=>
  rw[e] at h'
  intro B' s' z' hb' l w sl'
  obtain⟨B2,s2,o2,u2,e2,b2,l2,w2,sl2,p2⟩:=h' B' s' z' hb' l w sl'
  rw[←e2]
  exact hb B0 B2 s2 o2 u2 z' D b2 w2 sl2 p2
 | rt w o'=>rw[e] at h';exact h'
 | bk u' o'=>rw[e] at h';exact h'
 | ct u' o'=>rw[e] at h';exact h'
 | err c x u' o'=>rw[e] at h';exact h'
 | bad=>rw[e] at h';exact h'
theorem mss_one {st:Stmt} {a:SM} (h1:MS P st a):MSs P [st] a:=by
 obtain⟨ta,pa,ha⟩:=h1.out
 exact MSs.mk' (pss_one pa) fun B0 B s o u z D b0 wd sl h=>ha B0 B s o u z D b0 wd sl h
theorem RepW.ret {G:G3} {X:Hex} {B0 B:Addr→Prop} {s:S3} {d:D} {v:V} (r:RepW G X B s (.val d) v):PostS.RepR G B0 B s (.val d) v:=r
def sRetV (m:EM):SM:=fun u st=>match m u st with
 | .ok (.val d) st'=>.rt (.val d) st'
 | .ok _ _=>.bad
 | .err c x st'=>.err c x u st'
 | .bad=>.bad
theorem ms_ret (he:ME P e m):MS P (.Return (some e) pos) (sRetV m):=by
 obtain⟨t,pt,ht⟩:=he.out
 refine MS.mk' (ps_ret pt) fun B0 B s o u z D b0 wd sl h=>ht B0 B s o u z _ wd sl ?_
 unfold sRetV at h
 cases e:m u o with
 | ok w st'=>
  rw[e] at h
  cases w with
  | val d=>exact fun s' v l w r=>h B s' v b0 (l.less b0) w r
  | _=>exact h.elim
 | err c x st'=>rw[e] at h;exact fun s' cv dd l w q=>h B s' z cv dd b0 (l.less b0) w (sl.mono' l) q
 | bad=>rw[e] at h;exact h
def sRetO (i:Nat):SM:=fun u st=>match u[i]? with
 | some (some (.bor xs))=>.rt (.bor xs) st
 | _=>.bad
theorem ms_retO (i:Nat) {x:Str} {p:Pos} (hN:P.X.N[i]?=some x:=by rfl) (hv:Vis P.X.env.scope x:=by first | exact Or.inl rfl | exact Or.inr (Or.inl rfl) | exact Or.inr (Or.inr rfl)) (hd:(x == ("__debug__" : Str))=false:=by decide)
  (hcd:(x == ("__classdict__" : Str))=false:=by decide):MS P (.Return (some (.Name x p)) pos) (sRetO i):=by
 refine MS.mk' (ps_ret (pe_var hN hv hd hcd)) fun B0 B s o u z D b0 wd sl h=>?_
 unfold sRetO at h
 split at h
 ·rename_i xs e
  obtain⟨hl,ow,h1,h2⟩:=sl
  obtain⟨v,e1,⟨p',vs,e2,b,hp,r⟩,q⟩:=h1 i _ e
  obtain⟨e3,nb⟩:=q rfl
  subst e2
  cases e3
  exact⟨_,e1,h B s _ b0 (Le.refl _) wd ⟨_,vs,rfl,b,nb,hp,r⟩⟩
 ·exact h.elim
theorem ms_set (i:Nat) {x:Str} {p:Pos} (hN:P.X.N.Nodup) (he:ME P e m) (hi:P.X.N[i]?=some x:=by rfl) (hx:Loc P.X.env.scope x:=by first | exact Or.inl rfl | exact Or.inr rfl) (hs:swapsWith e (some (.Name x p)) pos.line P.X.env=pure false:=by rfl)
  (hf:P.X.fn x=true∨P.X.env.scope.names.lookup x=some .local:=by first | exact .inl rfl | exact .inr rfl | assumption):MS P (.Assign [.Name x p] e pos) (sSet i m):=by
 obtain⟨t,pt,ht⟩:=he.out
 refine MS.mk' (ps_set hN hi hx pt hs hf) fun B0 B s o u z D b0 wd sl h=>ht B0 B s o u z _ wd sl ?_
 unfold sSet at h
 cases e:m u o with
 | ok w st'=>
  rw[e] at h
  cases w with
  | val d=>exact fun s' v l w r=>h B s' _ b0 (l.less b0) w ((sl.mono' l).set r i)
  | _=>exact h.elim
 | err c x st'=>rw[e] at h;exact fun s' cv dd l w q=>h B s' z cv dd b0 (l.less b0) w (sl.mono' l) q
 | bad=>rw[e] at h;exact h
theorem ms_own (i:Nat) {x:Str} {p:Pos} {m:FM} (hN:P.X.N.Nodup) (he:MF P e m) (hi:P.X.N[i]?=some x:=by rfl) (hx:Loc P.X.env.scope x:=by first | exact Or.inl rfl | exact Or.inr rfl) (hs:swapsWith e (some (.Name x p)) pos.line P.X.env=pure false:=by rfl)
  (hf:P.X.fn x=true∨P.X.env.scope.names.lookup x=some .local:=by first | exact .inl rfl | exact .inr rfl | assumption):MS P (.Assign [.Name x p] e pos) (sOwn i m):=by
 obtain⟨t,pt,ht⟩:=he.out
 refine MS.mk' (ps_set hN hi hx pt hs hf) fun B0 B s o u z D b0 wd sl h=>ht B0 B s o u z _ wd sl ?_
 unfold sOwn at h
 cases e:m u o with
 | ok xs st'=>
  rw[e] at h
  exact fun s' p vs l w nb hp r=>h (plus B p) s' _ (fun a q=>.inl (b0 a q)) (l.less b0) w ((sl.mono' l).own nb (fun q=>nb (b0 p q)) hp r i)
 | err c x st'=>rw[e] at h;exact fun s' cv dd l w q=>h B s' z cv dd b0 (l.less b0) w (sl.mono' l) q
 | bad=>rw[e] at h;exact h
theorem ms_if {c:Expr} {a b:List Stmt} {mc:TM} {ma mb:SM} (hc:MT P c mc) (ha:MSs P a ma) (hb:MSs P b mb):MS P (.If c a b pos) (sIf mc ma mb):=by
 obtain⟨tc,pc,hc⟩:=hc.out
 obtain⟨ta,pa,ha⟩:=ha.out
 obtain⟨tb,pb,hb⟩:=hb.out
 refine MS.mk' (ps_if pc pa pb) fun B0 B s o u z D b0 wd sl h=>hc B0 B s o u z _ wd sl ?_
 unfold sIf at h
 cases e:mc u o with
 | ok k st'=>
  rw[e] at h
  intro s' k' l w r
  subst r
  cases k with
  | true=>exact ha B0 B s' st' u z D b0 w (sl.mono' l) (PostS.mono (l.less b0) h)
  | false=>exact hb B0 B s' st' u z D b0 w (sl.mono' l) (PostS.mono (l.less b0) h)
 | err c x st'=>rw[e] at h;exact fun s' cv dd l w q=>h B s' z cv dd b0 (l.less b0) w (sl.mono' l) q
 | bad=>rw[e] at h;exact h
end
end M3
namespace M3
open PySem PySem.Spec PyProof.Rows L2
def CoolAt (A:Around) (h:Heap):Prop:=A.handled=none∨∃x,HotX.HotAt A x h
structure OldS (s0:Shared) (H0:Hp) (fs ex:List Addr) (p:Addr×Obj):Prop where
 get:s0.heap.get? p.1=some p.2
 free:H0 p.1=none
 nofs:p.1∉fs
 noex:p.1∉ex
 nocell:∀v,p.2.data≠.cell v
abbrev Old (X:Cx) (p:Addr×Obj):Prop:=OldS X.s_0 X.H_0 X.fs X.ex p
def CoolS (A:Around) (s0:Shared) (H0:Hp) (fs ex:List Addr):Prop:=A.handled=none∨∃p:Addr×Obj,L2H.Hot1 A p∧OldS s0 H0 fs ex p
def Cool (X:Cx):Prop:=X.A.handled=none∨∃p:Addr×Obj,L2H.Hot1 X.A p∧(p∈X.pn∨Old X p)
theorem CoolS.cool {X:Cx} (c:CoolS X.A X.s_0 X.H_0 X.fs X.ex):Cool X:=c.imp id fun ⟨p,h,o⟩=>⟨p,h,.inr o⟩
structure Now (X:Cx) (pins:List (Addr×Obj)) (H:Hp) (s:Shared) (p:Addr×Obj):Prop where
 get:s.heap.get? p.1=some p.2
 free:H p.1=none
 nofr:p.1∉frs X.stack
 nofp:∀b,FpOk X pins H b→p.1≠b
 nocell:∀v,p.2.data≠.cell v
section
variable {X:Cx} {pins:List (Addr×Obj)} {z:L2.St} {H:Hp} {s:Shared}
theorem now_of {p:Addr×Obj} (I:Inv X pins z H s) (h:p∈X.pn∨Old X p):Now X pins H s p:=by
 have away:p.1≠X.env.locals→p.1∉X.fs→p.1∉frs X.stack:=fun h1 h2 hm=>(List.mem_cons.mp (I.stkSub p.1 hm)).elim h1 h2
 rcases h with h | o
 ·obtain⟨g,f,l,n,c⟩:=I.pin p (List.mem_append_left _ h)
  exact⟨g,f,away l n,fun b q=>q.2.2.2.2.2 p (List.mem_append_left _ h),c⟩
 ·have lt:=Heap.lt_size o.get
  refine⟨I.base.keep p.1 p.2 o.get o.free o.nofs o.noex,I.base.free p.1 p.2 o.get o.free o.noex,away (Nat.ne_of_lt (Nat.lt_of_lt_of_le lt I.ok.above)) o.nofs,fun b q e=>?_,o.nocell⟩
  rcases q.2.2.2.1 with y | y
  ·exact o.noex (e▸y)
  ·exact absurd (Nat.lt_of_lt_of_le lt (e▸y)) (Nat.lt_irrefl _)
theorem Cool.at (c:Cool X) (I:Inv X pins z H s):CoolAt X.A s.heap:=by
 rcases c with c | ⟨p,⟨hh,vs,e,n⟩,h⟩
 ·exact .inl c
 ·exact .inr ⟨p.1,hh,p.2,vs,(now_of I h).get,e,n⟩
theorem Cool.blk {fp:List Addr} (c:Cool X) (I:Inv X pins z H s) (hf:∀b∈fp,FpOk X pins H b):CoolS X.A s H (frs X.stack) fp:=by
 rcases c with c | ⟨p,h1,h⟩
 ·exact .inl c
 ·have n:=now_of I h
  exact .inr ⟨p,h1,n.get,n.free,n.nofr,fun hb=>n.nofp _ (hf _ hb) rfl,n.nocell⟩
end
def CoolBut (A:Around) (h:Heap) (it:Addr):Prop:=A.handled=none∨∃x,x≠it∧HotX.HotAt A x h
theorem Cool.but {X:Cx} {pins:List (Addr×Obj)} {z:L2.St} {H:Hp} {s:Shared} {it:Addr} (c:Cool X) (I:Inv X pins z H s) (f:FpOk X pins H it):CoolBut X.A s.heap it:=by
 rcases c with c | ⟨p,⟨hh,vs,e,n⟩,h⟩
 ·exact .inl c
 ·exact .inr ⟨p.1,(now_of I h).nofp _ f,hh,p.2,vs,(now_of I h).get,e,n⟩
theorem CoolBut.put {A:Around} {h h':Heap} {it:Addr} (c:CoolBut A h it) (k:Heap.ExtBut it h h'):CoolAt A h':=by
 rcases c with c | ⟨x,ne,hh,o,vs,g,d,n⟩
 ·exact .inl c
 ·exact .inr ⟨x,hh,o,vs,k x o ne g,d,n⟩
section
variable {prog:Program} {w:World} {A:Around} {E:Value→Shared→Prop} {s:Shared}
theorem stop_cool {α:Type} {Q:α→Shared→Prop} (c:CoolAt A s.heap)
  (hE:∀a h',(∀b o,s.heap.get? b=some o→h'.get? b=some o)→(∃o,h'.get? a=some o∧o.cls=.type "StopIteration")→E (.ref a) { s with heap:=h' }) :
  wpAny (model prog w) A (newExc (.type "StopIteration") [] >>= fun e=>(raiseNew e:Sem α)) Q E s:=by
 refine wpAny_bind ?_
 unfold newExc newTuple
 refine wpAny_bind (wpAny_newObj_type ?_ (by size_fits))
 refine wpAny_bind (m:=firstArgMember _ _) (wpAny_of_eq (a:=Value.none) (by first | rfl | (unfold firstArgMember;rfl)) (wpAny_newObj_type ?_ (by size_fits)))
 have old:∀{o1 o2:Obj},∀b o,s.heap.get? b=some o→((s.heap.push o1).push o2).get? b=some o:=fun b o e=>Heap.get?_push_of_some _ (Heap.get?_push_of_some _ e)
 rcases c with c | ⟨x,hh,o,vs,g,d,n⟩
 ·unfold raiseNew
  refine wpAny_bind (wpAny_handled ?_)
  rw[c]
  exact wpAny_bind (wpAny_pure (wpAny_throw (hE _ _ old ⟨_,Heap.get?_push_size _ rfl,rfl⟩)))
 ·refine HotX.raiseNew_hot ⟨hh,o,vs,old _ _ g,d,n⟩ (Nat.ne_of_lt (Heap.lt_size (Heap.get?_push_of_some _ g))) (Heap.get?_push_size _ rfl) rfl (by first | (simp;done) | (simp;omega)) (hE _ _ (fun b o e=>?_) ⟨_,Heap.get?_update_self _ (Heap.get?_push_size _ rfl) rfl,rfl⟩)
  rw[Heap.get?_update_other _ _ (Nat.ne_of_gt (Heap.lt_size (Heap.get?_push_of_some _ e)))]
  exact old b o e
variable {it l:Addr} {i:Nat} {items:Array Value} {Q:Option Value→Shared→Prop}
theorem CoolBut.over {α:Type} {Q':α→Shared→Prop} {h1:Heap} (c:CoolBut A s.heap it) (k:Heap.ExtBut it s.heap h1)
  (hE:∀a h',Heap.ExtBut it s.heap h'→(∃o,h'.get? a=some o∧o.cls=.type "StopIteration")→E (.ref a) { s with heap:=h' }) :
  wpAny (model prog w) A (newExc (.type "StopIteration") [] >>= fun e=>(raiseNew e:Sem α)) Q' E { s with heap:=h1 }:=
 stop_cool (s:={ s with heap:=h1 }) (c.put k) fun a h' keep o=>hE a h' (fun b o' ne e=>keep b o' (k b o' ne e)) o
theorem listStop (c:CoolBut A s.heap it) (hit:s.heap.IsListIter it l i) (hl:s.heap.IsList l items) (hx:items[i]?=none) (hQ:∀h',Heap.ExtBut it s.heap h'→Q none { s with heap:=h' }) :
  wpAny (model prog w) A (pyNext (.ref it)) Q E s:=by
 obtain⟨oi,gi,ci,di⟩:=id hit
 obtain⟨ol,gl,_,_,dl⟩:=hl
 unfold pyNext
 refine wpAny_bind (wpAny_attempt (wpAny_callSpecial?_slot (name:=Str.ofString "__next__") hit.typeIs slot_listiter_next (wpAny_call_entry slot_listiter_next hit.typeIs entry_listiter_next ?_ (args_listiter_next _))))
 refine(show wpAny _ _ (field (.ref it) 0 >>= _) _ _ s from wpAny_bind (wpAny_field gi di (x:=.ref l) rfl ?_))
 refine(show wpAny _ _ (if (Value.ref l == Value.none)=true then _ else _) _ _ s from ?_)
 rw[if_neg (by intro z;cases z)]
 refine(show wpAny _ _ (field (.ref it) 1 >>= _) _ _ s from wpAny_bind (wpAny_field gi di (x:=.int i 0) rfl ?_))
 refine(show wpAny _ _ (seqItems? (.ref l) >>= _) _ _ s from wpAny_bind (wpAny_seqItems gl dl ?_))
 simp only[Int.toNat_natCast,hx]
 refine wpAny_bind (wpAny_rule (wpAny_bind (wpAny_setField gi di (by simp) ?_)))
 refine(show CoolBut A.in1 s.heap it from c).over (Heap.SameBut.update ..).extBut fun a h' k ⟨o,e,cl⟩=>?_
 exact wpAny_bind (wpAny_isInstance (T:="StopIteration") (b:=true) ⟨o,e,cl⟩ isSubtype_stop (wpAny_pure (hQ h' k)))
theorem tupleStop (c:CoolBut A s.heap it) (hit:s.heap.IsTupleIter it l i) (hl:s.heap.IsTuple l items) (hx:items[i]?=none) (hQ:∀h',Heap.ExtBut it s.heap h'→Q none { s with heap:=h' }) :
  wpAny (model prog w) A (pyNext (.ref it)) Q E s:=by
 obtain⟨oi,gi,ci,di⟩:=id hit
 obtain⟨ol,gl,_,_,dl⟩:=hl
 unfold pyNext
 refine wpAny_bind (wpAny_attempt (wpAny_callSpecial?_slot (name:=Str.ofString "__next__") hit.typeIs F.slot_tuple_iterator_next (wpAny_call_entry F.slot_tuple_iterator_next hit.typeIs F.entry_tuple_iterator_next ?_ (F.args_tuple_iterator_next_1 _))))
 refine(show wpAny _ _ (field (.ref it) 0 >>= _) _ _ s from wpAny_bind (wpAny_field gi di (x:=.ref l) rfl ?_))
 refine(show wpAny _ _ (if (Value.ref l == Value.none)=true then _ else _) _ _ s from ?_)
 rw[if_neg (by intro z;cases z)]
 refine(show wpAny _ _ (field (.ref it) 1 >>= _) _ _ s from wpAny_bind (wpAny_field gi di (x:=.int i 0) rfl ?_))
 refine(show wpAny _ _ (seqItems? (.ref l) >>= _) _ _ s from wpAny_bind (wpAny_seqItems gl dl ?_))
 simp only[Int.toNat_natCast,hx]
 refine wpAny_bind (wpAny_rule (wpAny_bind (wpAny_setField gi di (by simp) ?_)))
 refine(show CoolBut A.in1 s.heap it from c).over (Heap.SameBut.update ..).extBut fun a h' k ⟨o,e,cl⟩=>?_
 exact wpAny_bind (wpAny_isInstance (T:="StopIteration") (b:=true) ⟨o,e,cl⟩ isSubtype_stop (wpAny_pure (hQ h' k)))
theorem asciiStop {x:Str} {t:Tok} (c:CoolBut A s.heap it) (hit:s.heap.IsStrIter it "str_ascii_iterator" x t i) (hx:x.cps[i]?=none) (hQ:∀h',Heap.ExtBut it s.heap h'→Q none { s with heap:=h' }):wpAny (model prog w) A (pyNext (.ref it)) Q E s:=by
 obtain⟨oi,gi,ci,di⟩:=id hit
 unfold pyNext
 refine wpAny_bind (wpAny_attempt (wpAny_callSpecial?_slot (name:=Str.ofString "__next__") hit.typeIs F.slot_str_ascii_iterator_next (wpAny_call_entry F.slot_str_ascii_iterator_next hit.typeIs F.entry_str_ascii_iterator_next ?_ (F.args_str_ascii_iterator_next_1 _))))
 refine(show wpAny _ _ (field (.ref it) 0 >>= _) _ _ s from wpAny_bind (wpAny_field gi di (x:=.str x t) rfl ?_))
 refine(show wpAny _ _ (field (.ref it) 1 >>= _) _ _ s from wpAny_bind (wpAny_field gi di (x:=.int i 0) rfl ?_))
 simp only[Int.toNat_natCast,hx]
 refine wpAny_bind (wpAny_rule (wpAny_bind (wpAny_setField gi di (by simp) (wpAny_bind (wpAny_letGo ?_)))))
 refine(show CoolBut A.in1 s.heap it from c).over (Heap.SameBut.update ..).extBut fun a h' k ⟨o,e,cl⟩=>?_
 exact wpAny_bind (wpAny_isInstance (T:="StopIteration") (b:=true) ⟨o,e,cl⟩ isSubtype_stop (wpAny_pure (hQ h' k)))
theorem wideStop {x:Str} {t:Tok} (c:CoolBut A s.heap it) (hit:s.heap.IsStrIter it "str_iterator" x t i) (hx:x.cps[i]?=none) (hQ:∀h',Heap.ExtBut it s.heap h'→Q none { s with heap:=h' }):wpAny (model prog w) A (pyNext (.ref it)) Q E s:=by
 obtain⟨oi,gi,ci,di⟩:=id hit
 unfold pyNext
 refine wpAny_bind (wpAny_attempt (wpAny_callSpecial?_slot (name:=Str.ofString "__next__") hit.typeIs F.slot_str_iterator_next (wpAny_call_entry F.slot_str_iterator_next hit.typeIs F.entry_str_iterator_next ?_ (F.args_str_iterator_next_1 _))))
 refine(show wpAny _ _ (field (.ref it) 0 >>= _) _ _ s from wpAny_bind (wpAny_field gi di (x:=.str x t) rfl ?_))
 refine(show wpAny _ _ (field (.ref it) 1 >>= _) _ _ s from wpAny_bind (wpAny_field gi di (x:=.int i 0) rfl ?_))
 simp only[Int.toNat_natCast,hx]
 refine wpAny_bind (wpAny_rule (wpAny_bind (wpAny_setField gi di (by simp) (wpAny_bind (wpAny_letGo ?_)))))
 refine(show CoolBut A.in1 s.heap it from c).over (Heap.SameBut.update ..).extBut fun a h' k ⟨o,e,cl⟩=>?_
 exact wpAny_bind (wpAny_isInstance (T:="StopIteration") (b:=true) ⟨o,e,cl⟩ isSubtype_stop (wpAny_pure (hQ h' k)))
theorem rangeStop {x left step:Int} (c:CoolBut A s.heap it) (hit:IsRangeIter s.heap it x left step) (hl:left≤0) (hQ:∀h',Heap.ExtBut it s.heap h'→Q none { s with heap:=h' }):wpAny (model prog w) A (pyNext (.ref it)) Q E s:=by
 rcases c with c | ⟨y,_,hot⟩
 ·exact wpAny_pyNext_range_end c hit hl hQ
 ·exact HotX.pyNext_range_end_hot hot hit hl fun h' k=>hQ h' fun b o _ e=>k b o e
end
end M3
namespace M3
open PySem PySem.Spec PyProof.Rows L2
structure Turn (P:Program) (w:World) (K:PySem.W.Frag) (tg:Expr) (J:It) (fp:List Addr) (it:Addr) (tn:Nat→Heap→Prop):Prop where
 mem:it∈fp
 obj:∀i h,tn i h→∀b∈fp,∃o,h.get? b=some o∧∀v,o.data≠.cell v
 keep:∀i h h',tn i h→(∀b∈fp,∀o,h.get? b=some o→h'.get? b=some o)→tn i h'
 item:∀(X:Cx),X.prog=P→X.w=w→X.K=K→Cool X→∀(i:Nat) (pins:List (Addr×Obj)) (s:Shared) (z:L2.St) (H:Hp) (E:Value→Shared→Prop),Inv X pins z H s→(∀b∈fp,FpOk X pins H b)→tn i s.heap→J.go i H→
  wpAny (model P w) X.A (pyNext (.ref it)) (fun r s1=>∃u,r=some u∧wpAny (model P w) X.A (letOwnedTupleGo tg (.ref it) u) (fun _ s2=>∃x H',Inv X pins z H' s2∧RelV x u∧J.yld i H x H'∧tn (i+1) s2.heap∧∀b∈fp,H' b=none) E s1) E s
 done:∀(X:Cx),X.prog=P→X.w=w→X.K=K→Cool X→∀(i:Nat) (pins:List (Addr×Obj)) (s:Shared) (z:L2.St) (H:Hp) (E:Value→Shared→Prop),Inv X pins z H s→(∀b∈fp,FpOk X pins H b)→tn i s.heap→J.stop i H→
  wpAny (model P w) X.A (pyNext (.ref it)) (fun r s1=>r=none∧Inv X pins z H s1) E s
 self:∀(A:Around) (i:Nat) (s:Shared) (Q:Value→Shared→Prop) (E:Value→Shared→Prop),tn i s.heap→Q (.ref it) s→wpAny (model P w) A (pyIter (.ref it)) Q E s
def plainIt (n:String):Prop:=["enumerate","zip","dict_itemiterator","dict_reverseitemiterator","odict_iterator","itertools.zip_longest","itertools.pairwise"].contains n=false
theorem turn_one {P:Program} {w:World} {K:PySem.W.Frag} {tg:Expr} {J:It} {it:Addr} {tn:Nat→Heap→Prop} {n:String} (hn:plainIt n)
  (data:∀i h,tn i h→∃o vs,h.get? it=some o∧o.cls=.type n∧o.data=.fields vs)
  (keep:∀i h h',tn i h→(∀o,h.get? it=some o→h'.get? it=some o)→tn i h')
  (item:∀(X:Cx),X.prog=P→X.w=w→X.K=K→∀(pins:List (Addr×Obj)) (s:Shared) (z:L2.St) (H:Hp),Inv X pins z H s→∀i,tn i s.heap→J.go i H→∀(Q:Option Value→Shared→Prop) (E:Value→Shared→Prop),
   (∀u x h' tk,Heap.ExtBut it s.heap h'→tn (i+1) h'→RelV x u→J.yld i H x H→Q (some u) { s with heap:=h',toks:=tk })→wpAny (model P w) X.A (pyNext (.ref it)) Q E s)
  (done:∀(X:Cx),X.prog=P→X.w=w→X.K=K→∀(pins:List (Addr×Obj)) (s:Shared) (z:L2.St) (H:Hp),Inv X pins z H s→∀i,CoolBut X.A s.heap it→tn i s.heap→J.stop i H→∀(Q:Option Value→Shared→Prop) (E:Value→Shared→Prop),
   (∀h',Heap.ExtBut it s.heap h'→Q none { s with heap:=h' })→wpAny (model P w) X.A (pyNext (.ref it)) Q E s)
  (self:∀(A:Around) (i:Nat) (s:Shared) (Q:Value→Shared→Prop) (E:Value→Shared→Prop),tn i s.heap→Q (.ref it) s→wpAny (model P w) A (pyIter (.ref it)) Q E s):Turn P w K tg J [it] it tn:=by
 have only:∀{b:Addr},b∈[it]→b=it:=List.mem_singleton.mp
 refine⟨List.mem_cons_self,fun i h st b hb=>?_,fun i h h' st k=>keep i h h' st (k it List.mem_cons_self),fun X e1 e2 e3 c i pins s z H E I f st g=>?_,fun X e1 e2 e3 c i pins s z H E I f st g=>?_,self⟩
 ·obtain⟨o,vs,e,_,d⟩:=data i h st
  rw[only hb]
  exact⟨o,e,fun v y=>by rw[d] at y;cases y⟩
 ·have fi:=f it List.mem_cons_self
  refine item X e1 e2 e3 pins s z H I i st g _ _ fun u x h' tk k st' r y=>⟨u,rfl,?_⟩
  have I':Inv X pins z H { s with heap:=h',toks:=tk }:=I.turned (fun b o hb e=>k b o hb e) fi.1 fi.2.1 fi.2.2.2.1 fi.2.2.2.2.1 fi.2.2.2.2.2
  obtain⟨o,vs,e,cl,d⟩:=data _ _ st'
  exact go_of (s:={ s with heap:=h',toks:=tk }) e cl d hn ⟨x,H,I',r,y,st',fun b hb=>(f b hb).1⟩
 ·have fi:=f it List.mem_cons_self
  exact done X e1 e2 e3 pins s z H I i (c.but I fi) st g _ _ fun h' k=>⟨rfl,I.turned (t':=s.toks) (fun b o hb e=>k b o hb e) fi.1 fi.2.1 fi.2.2.2.1 fi.2.2.2.2.1 fi.2.2.2.2.2⟩
section
variable {P:Program} {w:World} {K:PySem.W.Frag} {tg:Expr}
theorem turn_list (a it:Addr):Turn P w K tg (Itl K a) [it] it (fun i h=>h.IsListIter it a i):=by
 refine turn_one (n:="list_iterator") (by unfold plainIt;decide) (fun i h ⟨o,e,c,d⟩=>⟨o,_,e,c,d⟩) (fun i h h' st k=>st.at fun o e=>k o e) (fun X e1 e2 e3 pins s z H I i st ⟨xs,x,hq,hx⟩ Q E hQ=>?_) (fun X e1 e2 e3 pins s z H I i c st ⟨xs,hq,hx⟩ Q E hQ=>?_) (fun _ _ _ _ _ st h=>wpAny_pyIter_listiter st h)
 ·subst e1 e2 e3
  obtain⟨its,rv,p,_⟩:=I.list hq
  obtain⟨u,hu,ru⟩:=rv.get hx
  exact wpAny_pyNext_list_item st p.isList (x:=u) (by simpa using hu) fun h' st' sb=>hQ u x h' s.toks sb.extBut st' ru ⟨rfl,fun ys hy=>by rw[I.list_inj hy hq];exact hx⟩
 ·subst e1 e2 e3
  obtain⟨its,rv,p,_⟩:=I.list hq
  have hl:=rv.length
  exact listStop c st p.isList (by simp;omega) hQ
theorem turn_tuple (a it:Addr):Turn P w K tg (Itt K a) [it] it (fun i h=>h.IsTupleIter it a i):=by
 refine turn_one (n:="tuple_iterator") (by unfold plainIt;decide) (fun i h ⟨o,e,c,d⟩=>⟨o,_,e,c,d⟩) (fun i h h' st k=>st.at fun o e=>k o e) (fun X e1 e2 e3 pins s z H I i st ⟨xs,x,hq,hx⟩ Q E hQ=>?_) (fun X e1 e2 e3 pins s z H I i c st ⟨xs,hq,hx⟩ Q E hQ=>?_) (fun _ _ _ _ _ st h=>wpAny_pyIter_tupleiter st h)
 ·subst e1 e2 e3
  obtain⟨its,rv,p,_⟩:=I.tuple hq
  obtain⟨u,hu,ru⟩:=rv.get hx
  exact wpAny_pyNext_tuple_item st (show s.heap.IsTuple a its.toArray from p) (x:=u) (by simpa using hu) fun h' st' sb=>hQ u x h' s.toks sb.extBut st' ru ⟨rfl,fun ys hy=>by rw[I.tuple_inj hy hq];exact hx⟩
 ·subst e1 e2 e3
  obtain⟨its,rv,p,_⟩:=I.tuple hq
  have hl:=rv.length
  exact tupleStop c st (show s.heap.IsTuple a its.toArray from p) (by simp;omega) hQ
theorem turn_range (it:Addr) (lo:Int) (n:Nat):Turn P w K tg (Itr lo n) [it] it (fun i h=>IsRangeIter h it (lo+(i:Nat) * 1) ((n:Int) - (i:Nat)) 1):=by
 refine turn_one (n:="range_iterator") (by unfold plainIt;decide) (fun i h st=>⟨_,_,st,rfl,rfl⟩) (fun i h h' st k=>k _ st) (fun X e1 e2 e3 pins s z H I i st g Q E hQ=>?_) (fun X e1 e2 e3 pins s z H I i c st g Q E hQ=>?_) (fun _ _ _ _ _ st h=>wpAny_pyIter_rangeiter st h)
 ·have lt:i<n:=g
  refine wpAny_pyNext_range_item st (by omega) fun h' st' sb=>hQ _ (.int (lo+i)) h' _ sb.extBut ?_ ⟨s.toks,by rw[Int.mul_one]⟩ ⟨rfl,rfl⟩
  have e1:lo+((i:Nat):Int) * 1+1=lo+((i+1:Nat):Int) * 1:=by omega
  have e2:(n:Int) - ((i:Nat):Int) - 1=(n:Int) - ((i+1:Nat):Int):=by omega
  exact e1▸e2▸st'
 ·have le:n≤i:=g
  exact rangeStop c st (by omega) hQ
theorem turn_str (it:Addr) (x:Str) (t:Tok) (ty:String) (hty:ty="str_ascii_iterator"∨ty="str_iterator"):Turn P w K tg (Its x) [it] it (fun i h=>h.IsStrIter it ty x t i):=by
 refine turn_one (n:=ty) (by unfold plainIt;rcases hty with rfl | rfl <;> decide) (fun i h ⟨o,e,c,d⟩=>⟨o,_,e,c,d⟩) (fun i h h' ⟨o,e,r⟩ k=>⟨o,k o e,r⟩) (fun X e1 e2 e3 pins s z H I i st g Q E hQ=>?_) (fun X e1 e2 e3 pins s z H I i c st g Q E hQ=>?_) (fun A i s Q E st h=>?_)
 ·have lt:i<x.cps.size:=g
  have hx:x.cps[i]?=some x.cps[i]:=Array.getElem?_eq_getElem lt
  rcases hty with rfl | rfl
  ·exact wpAny_pyNext_ascii_item st hx fun h' st' sb=>hQ _ (.str ⟨#[x.cps[i]]⟩) h' _ sb.extBut st' ⟨s.toks,rfl⟩ ⟨rfl,_,hx,rfl⟩
  ·exact wpAny_pyNext_wide_item st hx fun h' st' sb=>hQ _ (.str ⟨#[x.cps[i]]⟩) h' _ sb.extBut st' ⟨s.toks,rfl⟩ ⟨rfl,_,hx,rfl⟩
 ·have hx:x.cps[i]?=none:=Array.getElem?_eq_none g
  rcases hty with rfl | rfl
  ·exact asciiStop c st hx hQ
  ·exact wideStop c st hx hQ
 ·rcases hty with rfl | rfl
  ·exact wpAny_pyIter_striter_ascii st h
  ·exact wpAny_pyIter_striter_wide st h
end
end M3
namespace M3
open PySem PySem.Spec PyProof.Rows L2
section
variable {X:Cx} {tg:Expr}
def PIE (X:Cx) (pins:List (Addr×Obj)) (z:L2.St) (tg:Expr) (R:It→Hp→Prop) (v:Value) (s2:Shared):Prop:=
 ∃(it:Addr) (fp:List Addr) (tn:Nat→Heap→Prop) (J:It) (H':Hp),v=.ref it∧Inv X pins z H' s2∧Turn X.prog X.w X.K tg J fp it tn∧tn 0 s2.heap∧(∀b∈fp,FpOk X pins H' b)∧R J H'
structure PI (X:Cx) (tg iter:Expr) (wi:TI):Prop where
 run:∀(pins:List (Addr×Obj)) (s:Shared) (z:L2.St) (H:Hp) (R:It→Hp→Prop),Inv X pins z H s→wi z H R→
  wpAny (model X.prog X.w) X.A (eval iter X.env) (fun v s1=>wpAny (model X.prog X.w) X.A (pyIter v) (PIE X pins z tg R) X.xe s1) X.xe s
theorem pi_one {pins:List (Addr×Obj)} {z:L2.St} {H:Hp} {s:Shared} {R:It→Hp→Prop} {J:It} {tn:Nat→Heap→Prop} {tk:Nat} (I:Inv X pins z H s) (o:Obj)
  (T:Turn X.prog X.w X.K tg J [s.heap.objs.size] s.heap.objs.size tn) (st:tn 0 (s.heap.push o)) (q:R J H):PIE X pins z tg R (.ref s.heap.objs.size) { s with heap:=s.heap.push o,toks:=tk }:=
 ⟨_,_,tn,J,H,rfl,I.kept fun b ob e=>Heap.get?_push_of_some _ e,T,st,fun b hb=>by rw[List.mem_singleton.mp hb];exact I.fpOk (Nat.le_refl _) (I.hok.fresh (Nat.le_refl _)),q⟩
theorem range_it {pins:List (Addr×Obj)} {z:L2.St} {H:Hp} {s:Shared} {R:It→Hp→Prop} {E:Value→Shared→Prop} {lo hi:Int} {t u v:Tok} {tk:Nat} (I:Inv X pins z H s) (b:(-(2 ^ 62)≤lo∧lo<2 ^ 62)∧-(2 ^ 62)≤hi∧hi<2 ^ 62)
  (q:R (Itr lo (hi - lo).toNat) H):wpAny (model X.prog X.w) X.A (pyIter (.ref s.heap.objs.size)) (PIE X pins z tg R) E { s with heap:=s.heap.push { cls:=.type "range",data:=.fields #[.int lo t,.int hi u,.int 1 v] },toks:=tk }:=by
 have I1:Inv X pins z H { s with heap:=s.heap.push { cls:=.type "range",data:=.fields #[.int lo t,.int hi u,.int 1 v] },toks:=tk }:=I.kept fun b o e=>Heap.get?_push_of_some _ e
 refine wpAny_pyIter_range (IsRange.new ..) (small_one b.1.1 b.1.2 b.2.1 b.2.2) (pi_one I1 _ (turn_range _ lo (hi - lo).toNat) ?_ q)
 have e1:lo+((0:Nat):Int) * 1=lo:=by simp
 have e2:(((hi - lo).toNat:Nat):Int) - ((0:Nat):Int)=Builtin.Range.rangeSize lo hi 1:=by rw[rangeSize_one];split <;> omega
 show IsRangeIter _ _ (lo+((0:Nat):Int) * 1) ((((hi - lo).toNat:Nat):Int) - ((0:Nat):Int)) 1
 rw[e1,e2]
 exact Heap.get?_push_size _ rfl
theorem pi_range1 {a:Expr} {ta:TA} {p pos:Pos} (hg:Gl X "range") (hm:X.mg "range" = none) (ha:PA X [a] ta) (hs:starEach [a] X.env=[(false,eval a X.env)]:=by rfl):PI X tg (.Call (.Name "range" p) [a] [] pos) (iRng1 ta):=by
 constructor
 intro pins s z H R I h
 refine Call_ (ld_blt I hg hm boot_range (PyProof.Rows.callWith_type1 (thn (ha.run pos pins s z H _ I h) ?_) hs rfl))
 rintro us s1 ⟨vs,H1,I1,r1,j,rfl,q1,q2,q⟩
 obtain⟨_,rfl,t,rfl⟩:=vals1 r1
 exact call_range_1 (range_it I1 ⟨by omega,by omega⟩ (by simpa using q))
theorem fp_at {pins:List (Addr×Obj)} {fp:List Addr} {H H':Hp} (f:∀b∈fp,FpOk X pins H b) (n:∀b∈fp,H' b=none):∀b∈fp,FpOk X pins H' b:=fun b hb=>⟨n b hb,(f b hb).2⟩
theorem Turn.after {tg:Expr} {J:It} {fp:List Addr} {it:Addr} {tn:Nat→Heap→Prop} (T:Turn X.prog X.w X.K tg J fp it tn) {pins:List (Addr×Obj)} {z:L2.St} {H:Hp} {s s':Shared} {i:Nat} (st:tn i s.heap)
  (I:Inv X (pins++pinsAt fp s.heap) z H s'):Inv X pins z H s'∧tn i s'.heap∧∀b∈fp,H b=none:=by
 have p:∀b∈fp,∀o,s.heap.get? b=some o→s'.heap.get? b=some o∧H b=none:=fun b hb o e=>
  have q:=I.pin (b,o) (List.mem_append_right _ (List.mem_append_right _ (mem_pinsAt hb e)))
  ⟨q.1,q.2.1⟩
 refine⟨I.unpinned,T.keep _ _ _ st fun b hb o e=>(p b hb o e).1,fun b hb=>?_⟩
 obtain⟨o,e,_⟩:=T.obj _ _ st b hb
 exact(p b hb o e).2
theorem ps_for {iter:Expr} {body:List Stmt} {wi:TI} {g:TG} {tb:TS} {pos:Pos} (hp:PassesOwn (model X.prog X.w) X.A X.env X.xe) (c:Cool X) (hi:PI X tg iter wi) (hg:PG X tg g) (hb:PSs X body tb)
  (hs:∀x,foldedSetIterable iter X.env x=pure x:=by intro _;rfl):PS X (.For tg iter body [] pos) (tFor wi g tb):=by
 constructor
 intro pins s z H D I h
 refine wpAny_For (thn (hi.run pins s z H _ I h) fun v s1 h1=>thn h1 ?_) hs
 rintro _ s2 ⟨it,fp,tn,J,H2,rfl,I2,T,st2,f2,W,⟨m0,w0⟩,turn⟩
 refine codeAny_forLoop_any (fun n now=>∃i z' H',(Inv X pins z' H' now∧tn i now.heap∧∀b∈fp,H' b=none)∧W i n z' H') (fun n s3=>?_) m0 ⟨0,z,H2,⟨I2,st2,fun b hb=>(f2 b hb).1⟩,w0⟩
 rintro⟨i,z3,H3,⟨I3,st3,n3⟩,w3⟩
 rcases turn i n z3 H3 w3 with⟨stop,qn⟩ | ⟨go,N,hN,step⟩
 ·refine wpAny_passesOwn hp (thn (T.done X rfl rfl rfl c i pins s3 z3 H3 X.xe I3 (fp_at f2 n3) st3 stop) ?_)
  rintro _ s4 ⟨rfl,I4⟩
  exact wpAny_execs_nil ⟨z3,H3,I4,qn⟩
 ·refine wpAny_passesOwn hp (thn (T.item X rfl rfl rfl c i pins s3 z3 H3 X.xe I3 (fp_at f2 n3) st3 go) ?_)
  rintro _ s4 ⟨u,rfl,h4⟩
  refine wpAny_passesOwn hp (thn h4 fun _ s5 ⟨x,H5,I5,r5,y5,st5,n5⟩=>?_)
  refine wpAny_passesOwn hp (thn (hg.run _ s5 z3 H5 x u _ (I5.pinned (fp_at f2 n5) (T.obj _ _ st5)) r5 (step x H5 y5)) fun _ s6 ⟨z6,H6,I6,q6⟩=>?_)
  refine wpAny_passesOwn hp (thn (hb.run _ s6 z6 H6 _ I6 q6) fun f s7 q7=>?_)
  have go:∀{z7:L2.St} {H7:Hp},Inv X (pins++pinsAt fp s5.heap) z7 H7 s7→N z7 H7→∃m,m<n∧∃i z' H',(Inv X pins z' H' s7∧tn i s7.heap∧∀b∈fp,H' b=none)∧W i m z' H':=fun {z7 H7} I7 n7=>
   have ⟨m,hm,w7⟩:=hN z7 H7 n7
   ⟨m,hm,i+1,z7,H7,T.after st5 I7,w7⟩
  cases f with
  | next=>obtain⟨z7,H7,I7,n7⟩:=q7;exact go I7 n7
  | cont=>obtain⟨z7,H7,I7,n7⟩:=q7;exact go I7 n7
  | brk=>obtain⟨z7,H7,I7,y⟩:=q7;exact⟨z7,H7,I7.unpinned,y⟩
  | ret v=>obtain⟨x7,z7,H7,I7,y⟩:=q7;exact⟨x7,z7,H7,I7.unpinned,y⟩
end
end M3
namespace M3
open PySem PySem.Spec PyProof.Rows L2
structure Opened (X:Cx) (pins:List (Addr×Obj)) (z:L2.St) (scope:Scope) (own:List (Str×Nat)) (fp:List Addr) (tn:Nat→Heap→Prop) (start:Shared) (Hd:Hp) (ce:Env) (first:Shared):Prop where
 ins:Inv (X.blk start Hd scope ce fp) [] (wipe z (own.map (·.2))) Hd first
 st:tn 0 first.heap
 clear:∀b∈fp,Hd b=none
 cools:CoolS X.A start Hd (frs X.stack) fp
 foot:∀{t:L2.St} {H':Hp} {s':Shared},Inv (X.blk start Hd scope ce fp) [] t H' s'→(∀b∈fp,H' b=none)→∀b∈fp,FpOk (X.blk start Hd scope ce fp) [] H' b
 back:∀{t:L2.St} {H':Hp} {s':Shared},Inv (X.blk start Hd scope ce fp) [] t H' s'→Inv X pins z H' s'∧(∃m,s'.heap.Ns start.heap.objs.size m)∧FpOk X pins H' start.heap.objs.size
theorem Opened.cool {X:Cx} {pins:List (Addr×Obj)} {z:L2.St} {scope:Scope} {own:List (Str×Nat)} {fp:List Addr} {tn:Nat→Heap→Prop} {start:Shared} {Hd:Hp} {ce:Env} {first:Shared} (O:Opened X pins z scope own fp tn start Hd ce first):Cool (X.blk start Hd scope ce fp):=CoolS.cool (X:=X.blk start Hd scope ce fp) O.cools
section
variable {X:Cx}
abbrev blkEnv (X:Cx) (scope:Scope) (start:Shared):Env:=compEnvC scope (cellsFrom (start.heap.objs.size+1) scope.names (cloFrom X.env.cells scope.names [])) start.heap.objs.size X.env
abbrev blkFirst (scope:Scope) (start:Shared):Shared:={ start with heap:=pushCells (start.heap.push { cls:=.type "dict",data:=.dict #[] }) scope.names }
theorem comp_open {pins:List (Addr×Obj)} {z:L2.St} {H:Hp} {s:Shared} {tg:Expr} {J:It} {fp:List Addr} {it:Addr} {tn:Nat→Heap→Prop} {scope:Scope} {own:List (Str×Nat)} {ho:HO} {ob:Obj} (c:Cool X) (nd:X.N.Nodup) (ok:BlkOk X.N X.env.scope scope own)
  (I:Inv X pins z H s) (T:Turn X.prog X.w X.K tg J fp it tn) (st:tn 0 s.heap) (feet:∀b∈fp,FpOk X pins H b) (hob:∀H',ObjOk X.prog X.w H' (s.heap.push ob) s.heap.objs.size ho) :
  Opened X pins z scope own fp tn { s with heap:=s.heap.push ob } (upd H s.heap.objs.size ho) (blkEnv X scope { s with heap:=s.heap.push ob }) (blkFirst scope { s with heap:=s.heap.push ob }):=by
 have laid:Inv X pins z (upd H s.heap.objs.size ho) { s with heap:=s.heap.push ob }:=I.laid (t':=s.toks) (fun b o e=>Heap.get?_push_of_some _ e) (Nat.le_refl _) (hob _)
 have size:({ s with heap:=s.heap.push ob }:Shared).heap.objs.size=s.heap.objs.size+1:=Heap.size_push ..
 have feet2:∀b∈fp,FpOk X pins (upd H s.heap.objs.size ho) b∧b<({ s with heap:=s.heap.push ob }:Shared).heap.objs.size:=fun b hb=>by
  obtain⟨o,e,_⟩:=T.obj _ _ st b hb
  have lt:=Heap.lt_size e
  exact⟨⟨(upd_ne (Nat.ne_of_lt lt)).trans (feet b hb).1,(feet b hb).2⟩,by rw[size];exact Nat.lt_succ_of_lt lt⟩
 have ins:=block_start laid ok nd feet2
 revert laid feet2 ins
 generalize eS:({ s with heap:=s.heap.push ob }:Shared)=start
 generalize upd H s.heap.objs.size ho=Hd
 intro laid feet2 ins
 refine⟨ins,T.keep _ _ _ st fun b _ o e=>pushCells_keeps _ _ _ _ (Heap.get?_push_of_some _ (by rw[←eS];exact Heap.get?_push_of_some _ e)),fun b hb=>(feet2 b hb).1.1,c.blk laid fun b hb=>(feet2 b hb).1,fun {t H' s'} I' n b hb=>?_,fun {t H' s'} I'=>?_⟩
 ·exact⟨n b hb,(I'.ok.exf b hb).1,I'.ok.exfs b hb,.inl hb,fun x c e=>(I'.ok.exf b hb).2 x c e,fun p hp=>by cases hp⟩
 ·obtain⟨m,hn,_⟩:=I'.loc
  refine⟨laid.call' (ch:=fp) I'.os I'.base I'.hok I'.bare fun b hb=>?_,⟨m,hn⟩,laid.fpOk (Nat.le_refl _) I'.free⟩
  obtain⟨_,f1,_,f3,f4,f5⟩:=(feet2 b hb).1
  exact⟨f3,f1,f4,f5⟩
theorem Turn.next {pins:List (Addr×Obj)} {tg:Expr} {J:It} {fp:List Addr} {it:Addr} {tn:Nat→Heap→Prop} (T:Turn X.prog X.w X.K tg J fp it tn) {t t0:L2.St} {H:Hp} {s s':Shared} {i:Nat} (st:tn i s.heap)
  (I:Inv X (pins++pinsAt fp s.heap) t H s') (hl:t0.length=t.length) (hk:∀(j:Nat) v,t0[j]?=some (some v)→t[j]?=some (some v)):Inv X pins t0 H s'∧tn i s'.heap∧∀b∈fp,H b=none:=
 have ⟨a,b,c⟩:=T.after st I
 ⟨a.weak hl hk,b,c⟩
theorem wiped {t u:L2.St} {own:List Nat} (e:wipe t own=wipe u own):(wipe u own).length=t.length∧∀(j:Nat) v,(wipe u own)[j]?=some (some v)→t[j]?=some (some v):=
 ⟨by rw[←e,wipe_length],fun j v h=>by rw[←e] at h;exact(wipe_some h).1⟩
abbrev InBlk (X:Cx) (scope:Scope) (R:Cx→Prop):Prop:=∀(s:Shared) (H:Hp) (C:Addr) (cl:List (Str×Addr)) (fp:List Addr),CoolS X.A s H (frs X.stack) fp→R (X.blk s H scope (compEnvC scope cl C X.env) fp)
abbrev laidL (s:Shared):Shared:={ s with heap:=s.heap.push { cls:=.type "list",data:=.seq ([]:List Value).toArray } }
theorem InBlk.at {scope:Scope} {R:Cx→Prop} (h:InBlk X scope R) (start:Shared) (Hd:Hp) (fp:List Addr) (c:CoolS X.A start Hd (frs X.stack) fp):R (X.blk start Hd scope (blkEnv X scope start) fp):=h start Hd start.heap.objs.size _ fp c
theorem lc_core {pins:List (Addr×Obj)} {s:Shared} {z:L2.St} {H:Hp} {Q:VK} {elt tg iter:Expr} {ifs:List Expr} {scope:Scope} {own:List (Str×Nat)} {pos pos':Pos} {wi:TI} {g:TG} {tt:TT} {te:TE} {use:Option (Value→Sem Unit)} {Qf:Value→Shared→Prop}
  (c:Cool X) (nd:X.N.Nodup) (I:Inv X pins z H s) (hi:PI X tg iter wi) (ok:BlkOk X.N X.env.scope scope own) (hg:InBlk X scope fun Y=>PG Y tg g) (ht:InBlk X scope fun Y=>PTs Y ifs tt) (he:InBlk X scope fun Y=>PE Y elt te) (hs:∀x,foldedSetIterable iter X.env x=pure x)
  (h:tLc wi g tt te (own.map (·.2)) z H Q)
  (out:∀D C s' m H',Inv X pins z H' s'→Q (.ref D) H'→s'.heap.Ns C m→FpOk X pins H' C→compPost (model X.prog X.w) X.A X.xe use Qf (.ref D) C (.ok .next) s') :
  wpAny (model X.prog X.w) X.A (comprehension (.ListComp elt [⟨tg,iter,ifs,0⟩] scope pos) scope X.env pos' (newList []) false (eval iter X.env) use) Qf X.xe s:=by
 refine wpAny_comprehension_free (use:=use) rfl hs (closure_ok fun y hy e=>I.ok.has _ (ok.free y hy e)) ok.kind (fun y hy e=>(ok.uniq y hy).trans (congrArg some e)) (thn (hi.run pins s z H _ I h) fun _ s1 h1=>thn h1 ?_)
 rintro _ s2 ⟨it,fp,tn,J,H2,rfl,I2,T,st2,f2,q⟩
 refine wpAny_newObj_type (newEnv_comp ?_) (by show 0≤sizeLine;decide)
 obtain⟨W,⟨m0,w0⟩,turn⟩:=q s2.heap.objs.size (I2.hok.fresh (Nat.le_refl _))
 have O:=comp_open (ho:=.lst []) (ob:={ cls:=.type "list",data:=.seq ([]:List Value).toArray }) c nd ok I2 T st2 f2 fun H'=>⟨Nat.zero_le _,[],0,.nil,Heap.get?_push_size _ rfl⟩
 have gG:=InBlk.at hg (laidL s2) (upd H2 s2.heap.objs.size (.lst [])) fp O.cools
 have gT:=InBlk.at ht (laidL s2) (upd H2 s2.heap.objs.size (.lst [])) fp O.cools
 have gE:=InBlk.at he (laidL s2) (upd H2 s2.heap.objs.size (.lst [])) fp O.cools
 refine(show codeAny _ _ (.compStart (.ListComp elt [⟨tg,iter,ifs,0⟩] scope pos) 0 (.ref it) (.ref s2.heap.objs.size) (blkEnv X scope (laidL s2))) (compPost _ _ _ use Qf (.ref s2.heap.objs.size) (laidL s2).heap.objs.size) (blkFirst scope (laidL s2)) from ?_)
 revert O gG gT gE w0 turn
 show (∀i m H,W i m H→_)→W 0 m0 (upd H2 s2.heap.objs.size (.lst []))→Opened X pins z scope own fp tn (laidL s2) (upd H2 s2.heap.objs.size (.lst [])) (blkEnv X scope (laidL s2)) (blkFirst scope (laidL s2))→_
 generalize upd H2 s2.heap.objs.size (.lst [])=Hd
 generalize s2.heap.objs.size=D
 generalize laidL s2=start
 generalize blkEnv X scope start=ce
 generalize blkFirst scope start=first
 intro turn w0 O gG gT gE
 refine(fun loop=>codeAny_compStart_list loop (T.self X.A 0 _ _ _ O.st loop)) ?_
 refine compLoop_any (fun n now=>∃i H',(Inv (X.blk start Hd scope ce fp) [] (wipe z (own.map (·.2))) H' now∧tn i now.heap∧∀b∈fp,H' b=none)∧W i n H') (fun n s5=>?_) m0 ⟨0,Hd,⟨O.ins,O.st,O.clear⟩,w0⟩
 rintro⟨i,H5,⟨I5,st5,n5⟩,w5⟩
 rcases turn i n H5 w5 with⟨stop,qq⟩ | ⟨go,Nx,hNx,step⟩
 ·refine thnF (T.done (X.blk start Hd scope ce fp) rfl rfl rfl O.cool i [] s5 _ H5 (fun _ _=>False) I5 (O.foot I5 n5) st5 stop) ?_
  rintro _ s6 ⟨rfl,I6⟩
  obtain⟨I7,⟨m,hn⟩,fC⟩:=O.back I6
  exact out D start.heap.objs.size s6 m H5 I7 qq hn fC
 ·refine thnF (T.item (X.blk start Hd scope ce fp) rfl rfl rfl O.cool i [] s5 _ H5 (fun _ _=>False) I5 (O.foot I5 n5) st5 go) ?_
  rintro _ s6 ⟨u,rfl,h6⟩
  refine thnF h6 fun _ s7 ⟨x,H7,I7,r7,y7,st7,n7⟩=>?_
  refine thnF (gG.run _ s7 _ H7 x u _ (I7.pinned (O.foot I7 n7) (T.obj _ _ st7)) r7 (step x H7 y7)) fun _ s8 ⟨z8,H8,I8,same,q8⟩=>?_
  have fin:∀{s':Shared} {H':Hp},Inv (X.blk start Hd scope ce fp) ([]++pinsAt fp s7.heap) z8 H' s'→Nx H'→∃m,m<n∧∃i H',(Inv (X.blk start Hd scope ce fp) [] (wipe z (own.map (·.2))) H' s'∧tn i s'.heap∧∀b∈fp,H' b=none)∧W i m H':=fun {s' H'} I' nx=>
   have ⟨m',less,w'⟩:=hNx H' nx
   ⟨m',less,i+1,H',Turn.next (X:=X.blk start Hd scope ce fp) T st7 I' (wiped same).1 (wiped same).2,w'⟩
  refine thnF (gT.run _ s8 z8 H8 _ I8 q8) fun b s9 ⟨H9,I9,q9⟩=>?_
  cases b with
  | false=>rw[if_neg Bool.false_ne_true] at q9⊢;exact fin I9 q9
  | true=>
   rw[if_pos rfl] at q9⊢
   refine thnF (gE.run _ s9 z8 H9 _ I9 q9) fun v s10 ⟨y,H10,I10,r10,acc,hD,hz,nx⟩=>?_
   exact app_ok (X:=X.blk start Hd scope ce fp) I10 hD hz r10 fun s11 I11=>fin I11 nx
theorem out_val {pins:List (Addr×Obj)} {z:L2.St} {Q:VK} {D C:Addr} {s':Shared} {m:Str→Option Value} {H':Hp} (I:Inv X pins z H' s') (q:Q (.ref D) H') (hn:s'.heap.Ns C m) (f:FpOk X pins H' C) :
  compPost (model X.prog X.w) X.A X.xe none (EP X pins z Q) (.ref D) C (.ok .next) s':=
 ⟨m,hn,fun h'' sb=>⟨.ref D,H',I.turned (t':=s'.toks) (fun b o hb e=>(sb.2 b hb).trans e) f.1 f.2.1 f.2.2.2.1 f.2.2.2.2.1 f.2.2.2.2.2,rfl,q⟩⟩
theorem out_set {pins:List (Addr×Obj)} {z:L2.St} {E:Ends} {i:Nat} {y:Str} {py:Pos} {D C:Addr} {s':Shared} {m:Str→Option Value} {H':Hp} (nd:X.N.Nodup) (hy:X.N[i]?=some y) (hyl:X.env.scope.names.lookup y=some .local)
  (I:Inv X pins z H' s') (q:gName i (.ref D) z H' E.nx) (hn:s'.heap.Ns C m) (f:FpOk X pins H' C):compPost (model X.prog X.w) X.A X.xe (some (assign (.Name y py) X.env)) (fun _ s'=>SP X pins E .next s') (.ref D) C (.ok .next) s':=by
 refine wpAny_assign_Name (store_ok2 (v:=V.ref D) I nd hy (.inl hyl) rfl (fun s2 I2 ⟨a,sb,ha⟩=>?_) (.inr hyl))
 have ne:C≠a:=ha.elim (fun e=>e▸f.2.1) fun e=>fun e'=>f.2.2.2.2.1 y a e e'.symm
 exact⟨m,hn.sameBut sb ne,fun h3 sb3=>⟨_,H',I2.turned (t':=s2.toks) (fun b o hb e=>(sb3.2 b hb).trans e) f.1 f.2.1 f.2.2.2.1 f.2.2.2.2.1 f.2.2.2.2.2,q⟩⟩
section
variable {elt tg iter tg1 iter1:Expr} {ifs ifs1:List Expr} {scope:Scope} {own:List (Str×Nat)} {vs1:List Nat} {pos pos' spos py:Pos} {wi wi1:TI} {g g1:TG} {tt tt1:TT} {te:TE} {i:Nat} {y:Str}
theorem pe_lc (c:Cool X) (nd:X.N.Nodup) (hi:PI X tg iter wi) (ok:BlkOk X.N X.env.scope scope own) (hg:InBlk X scope fun Y=>PG Y tg g) (ht:InBlk X scope fun Y=>PTs Y ifs tt) (he:InBlk X scope fun Y=>PE Y elt te)
  (hs:∀x,foldedSetIterable iter X.env x=pure x:=by intro _;rfl):PE X (.ListComp elt [⟨tg,iter,ifs,0⟩] scope pos) (tLc wi g tt te (own.map (·.2))):=
 ⟨fun pins s z H Q I h=>by
  rw[eval_ListComp]
  exact lc_core c nd I hi ok hg ht he hs h fun D C s' m H' I' q hn f=>out_val I' q hn f⟩
theorem lc2_core {pins:List (Addr×Obj)} {s:Shared} {z:L2.St} {H:Hp} {Q:VK} {use:Option (Value→Sem Unit)} {Qf:Value→Shared→Prop}
  (c:Cool X) (nd:X.N.Nodup) (I:Inv X pins z H s) (hi:PI X tg iter wi) (ok:BlkOk X.N X.env.scope scope own) (hv:∀i∈vs1,i∈own.map (·.2)) (hg:InBlk X scope fun Y=>PG Y tg g) (ht:InBlk X scope fun Y=>PTs Y ifs tt) (he:InBlk X scope fun Y=>PE Y elt te)
  (hs:∀x,foldedSetIterable iter X.env x=pure x) (hi1:InBlk X scope fun Y=>PI Y tg1 iter1 wi1) (hg1:InBlk X scope fun Y=>PG Y tg1 g1) (ht1:InBlk X scope fun Y=>PTs Y ifs1 tt1) (hs1:∀env x,foldedSetIterable iter1 env x=pure x)
  (h:tLc2 wi g tt wi1 g1 tt1 te (own.map (·.2)) vs1 z H Q)
  (out:∀D C s' m H',Inv X pins z H' s'→Q (.ref D) H'→s'.heap.Ns C m→FpOk X pins H' C→compPost (model X.prog X.w) X.A X.xe use Qf (.ref D) C (.ok .next) s') :
  wpAny (model X.prog X.w) X.A (comprehension (.ListComp elt [⟨tg,iter,ifs,0⟩,⟨tg1,iter1,ifs1,0⟩] scope pos) scope X.env pos' (newList []) false (eval iter X.env) use) Qf X.xe s:=by
 refine wpAny_comprehension_free (use:=use) rfl hs (closure_ok fun y hy e=>I.ok.has _ (ok.free y hy e)) ok.kind (fun y hy e=>(ok.uniq y hy).trans (congrArg some e)) (thn (hi.run pins s z H _ I h) fun _ s1 h1=>thn h1 ?_)
 rintro _ s2 ⟨it,fp,tn,J,H2,rfl,I2,T,st2,f2,q⟩
 refine wpAny_newObj_type (newEnv_comp ?_) (by show 0≤sizeLine;decide)
 obtain⟨W,⟨m0,w0⟩,turn⟩:=q s2.heap.objs.size (I2.hok.fresh (Nat.le_refl _))
 have O:=comp_open (ho:=.lst []) (ob:={ cls:=.type "list",data:=.seq ([]:List Value).toArray }) c nd ok I2 T st2 f2 fun H'=>⟨Nat.zero_le _,[],0,.nil,Heap.get?_push_size _ rfl⟩
 have gG:=InBlk.at hg (laidL s2) (upd H2 s2.heap.objs.size (.lst [])) fp O.cools
 have gT:=InBlk.at ht (laidL s2) (upd H2 s2.heap.objs.size (.lst [])) fp O.cools
 have gE:=InBlk.at he (laidL s2) (upd H2 s2.heap.objs.size (.lst [])) fp O.cools
 have gI1:=InBlk.at hi1 (laidL s2) (upd H2 s2.heap.objs.size (.lst [])) fp O.cools
 have gG1:=InBlk.at hg1 (laidL s2) (upd H2 s2.heap.objs.size (.lst [])) fp O.cools
 have gT1:=InBlk.at ht1 (laidL s2) (upd H2 s2.heap.objs.size (.lst [])) fp O.cools
 refine(show codeAny _ _ (.compStart (.ListComp elt [⟨tg,iter,ifs,0⟩,⟨tg1,iter1,ifs1,0⟩] scope pos) 0 (.ref it) (.ref s2.heap.objs.size) (blkEnv X scope (laidL s2))) (compPost _ _ _ use Qf (.ref s2.heap.objs.size) (laidL s2).heap.objs.size) (blkFirst scope (laidL s2)) from ?_)
 revert O gG gT gE gI1 gG1 gT1 w0 turn
 show (∀i m H,W i m H→_)→W 0 m0 (upd H2 s2.heap.objs.size (.lst []))→Opened X pins z scope own fp tn (laidL s2) (upd H2 s2.heap.objs.size (.lst [])) (blkEnv X scope (laidL s2)) (blkFirst scope (laidL s2))→_
 generalize upd H2 s2.heap.objs.size (.lst [])=Hd
 generalize s2.heap.objs.size=D
 generalize laidL s2=start
 generalize blkEnv X scope start=ce
 generalize blkFirst scope start=first
 intro turn w0 O gG gT gE gI1 gG1 gT1
 refine(fun loop=>codeAny_compStart_list loop (T.self X.A 0 _ _ _ O.st loop)) ?_
 refine compLoop2_out (hs1 ce) (fun n now=>∃i H',(Inv (X.blk start Hd scope ce fp) [] (wipe z (own.map (·.2))) H' now∧tn i now.heap∧∀b∈fp,H' b=none)∧W i n H') (fun n s5=>?_) m0 ⟨0,Hd,⟨O.ins,O.st,O.clear⟩,w0⟩
 rintro⟨i,H5,⟨I5,st5,n5⟩,w5⟩
 rcases turn i n H5 w5 with⟨stop,qq⟩ | ⟨go,Nx,hNx,step⟩
 ·refine thnF (T.done (X.blk start Hd scope ce fp) rfl rfl rfl O.cool i [] s5 _ H5 (fun _ _=>False) I5 (O.foot I5 n5) st5 stop) ?_
  rintro _ s6 ⟨rfl,I6⟩
  obtain⟨I7,⟨m,hn⟩,fC⟩:=O.back I6
  exact out D start.heap.objs.size s6 m H5 I7 qq hn fC
 ·refine thnF (T.item (X.blk start Hd scope ce fp) rfl rfl rfl O.cool i [] s5 _ H5 (fun _ _=>False) I5 (O.foot I5 n5) st5 go) ?_
  rintro _ s6 ⟨u,rfl,h6⟩
  refine thnF h6 fun _ s7 ⟨x,H7,I7,r7,y7,st7,n7⟩=>?_
  refine thnF (gG.run _ s7 _ H7 x u _ (I7.pinned (O.foot I7 n7) (T.obj _ _ st7)) r7 (step x H7 y7)) fun _ s8 ⟨z8,H8,I8,same,q8⟩=>?_
  have fin:∀{t:L2.St} {s':Shared} {H':Hp},Inv (X.blk start Hd scope ce fp) ([]++pinsAt fp s7.heap) t H' s'→((wipe z (own.map (·.2))).length=t.length∧∀(j:Nat) v,(wipe z (own.map (·.2)))[j]?=some (some v)→t[j]?=some (some v))→Nx H'→
    ∃m,m<n∧∃i H',(Inv (X.blk start Hd scope ce fp) [] (wipe z (own.map (·.2))) H' s'∧tn i s'.heap∧∀b∈fp,H' b=none)∧W i m H':=fun {t s' H'} I' k nx=>
   have ⟨m',less,w'⟩:=hNx H' nx
   ⟨m',less,i+1,H',Turn.next (X:=X.blk start Hd scope ce fp) T st7 I' k.1 k.2,w'⟩
  refine thnF (gT.run _ s8 z8 H8 _ I8 q8) fun b s9 ⟨H9,I9,q9⟩=>?_
  cases b with
  | false=>rw[if_neg Bool.false_ne_true] at q9⊢;exact fin I9 (wiped same) q9
  | true=>
   rw[if_pos rfl] at q9⊢
   refine thnF (gI1.run _ s9 z8 H9 _ I9 q9) fun _ s10 h10=>thnF h10 ?_
   rintro _ s11 ⟨it1,fp1,tn1,J1,H11,rfl,I11,T1,st11,f11,W1,⟨m1,w1⟩,turn1⟩
   have inner:codeAny (model X.prog X.w) X.A (.compLoop (.ListComp elt [⟨tg,iter,ifs,0⟩,⟨tg1,iter1,ifs1,0⟩] scope pos) 1 (.ref it1) (.ref D) ce)
     (fun r s'=>match r with
      | .ok _=>∃m,m<n∧∃i H',(Inv (X.blk start Hd scope ce fp) [] (wipe z (own.map (·.2))) H' s'∧tn i s'.heap∧∀b∈fp,H' b=none)∧W i m H'
      | .error _=>False) s11:=by
    refine compLoop2_in (fun k now=>∃j H',(Inv (X.blk start Hd scope ce fp) ([]++pinsAt fp s7.heap) (wipe z8 vs1) H' now∧tn1 j now.heap∧∀b∈fp1,H' b=none)∧W1 j k H') (fun k s12=>?_) m1
     ⟨0,H11,⟨I11.weak (wipe_length _ _) (fun j v e=>(wipe_some e).1),st11,fun b hb=>(f11 b hb).1⟩,w1⟩
    rintro⟨j,H12,⟨I12,st12,n12⟩,w12⟩
    rcases turn1 j k H12 w12 with⟨stop1,nx1⟩ | ⟨go1,Nx1,hNx1,step1⟩
    ·refine thnF (T1.done (X.blk start Hd scope ce fp) rfl rfl rfl O.cool j _ s12 (wipe z8 vs1) H12 (fun _ _=>False) I12 (fp_at f11 n12) st12 stop1) ?_
     rintro _ s13 ⟨rfl,I13⟩
     refine fin I13 ⟨(wiped same).1.trans (wipe_length z8 vs1).symm,fun j v e=>?_⟩ nx1
     have e':=e
     rw[←same] at e'
     rw[wipe_out fun m=>(wipe_some e').2 (hv j m)]
     exact(wipe_some e').1
    ·refine thnF (T1.item (X.blk start Hd scope ce fp) rfl rfl rfl O.cool j _ s12 (wipe z8 vs1) H12 (fun _ _=>False) I12 (fp_at f11 n12) st12 go1) ?_
     rintro _ s13 ⟨u1,rfl,h13⟩
     refine thnF h13 fun _ s14 ⟨x1,H14,I14,r14,y14,st14,n14⟩=>?_
     refine thnF (gG1.run _ s14 (wipe z8 vs1) H14 x1 u1 _ (I14.pinned (fp_at f11 n14) (T1.obj _ _ st14)) r14 (step1 x1 H14 y14)) fun _ s15 ⟨z15,H15,I15,same1,q15⟩=>?_
     have fin1:∀{s':Shared} {H':Hp},Inv (X.blk start Hd scope ce fp) (([]++pinsAt fp s7.heap)++pinsAt fp1 s14.heap) z15 H' s'→Nx1 H'→
       ∃m,m<k∧∃j H',(Inv (X.blk start Hd scope ce fp) ([]++pinsAt fp s7.heap) (wipe z8 vs1) H' s'∧tn1 j s'.heap∧∀b∈fp1,H' b=none)∧W1 j m H':=fun {s' H'} I' nx=>
      have ⟨m',less,w'⟩:=hNx1 H' nx
      ⟨m',less,j+1,H',Turn.next (X:=X.blk start Hd scope ce fp) T1 st14 I' (wiped same1).1 (wiped same1).2,w'⟩
     refine thnF (gT1.run _ s15 z15 H15 _ I15 q15) fun b1 s16 ⟨H16,I16,q16⟩=>?_
     cases b1 with
     | false=>rw[if_neg Bool.false_ne_true] at q16⊢;exact fin1 I16 q16
     | true=>
      rw[if_pos rfl] at q16⊢
      refine thnF (gE.run _ s16 z15 H16 _ I16 q16) fun v s17 ⟨y,H17,I17,r17,acc,hD,hz,nx⟩=>?_
      exact app_ok (X:=X.blk start Hd scope ce fp) I17 hD hz r17 fun s18 I18=>fin1 I18 nx
   exact compStart1_ok inner (T1.self X.A 0 _ _ _ st11 inner)
theorem ps_setLc2 (c:Cool X) (nd:X.N.Nodup) (hy:X.N[i]?=some y) (hyl:X.env.scope.names.lookup y=some .local) (hsw:swapsWith (.ListComp elt [⟨tg,iter,ifs,0⟩,⟨tg1,iter1,ifs1,0⟩] scope pos) (some (.Name y py)) spos.line X.env=pure true)
  (hi:PI X tg iter wi) (ok:BlkOk X.N X.env.scope scope own) (hv:∀i∈vs1,i∈own.map (·.2)) (hg:InBlk X scope fun Y=>PG Y tg g) (ht:InBlk X scope fun Y=>PTs Y ifs tt)
  (hi1:InBlk X scope fun Y=>PI Y tg1 iter1 wi1) (hg1:InBlk X scope fun Y=>PG Y tg1 g1) (ht1:InBlk X scope fun Y=>PTs Y ifs1 tt1) (he:InBlk X scope fun Y=>PE Y elt te) (hs:∀x,foldedSetIterable iter X.env x=pure x:=by intro _;rfl) (hs1:∀env x,foldedSetIterable iter1 env x=pure x:=by intro _ _;rfl) :
  PS X (.Assign [.Name y py] (.ListComp elt [⟨tg,iter,ifs,0⟩,⟨tg1,iter1,ifs1,0⟩] scope pos) spos) (tAsg (tLc2 wi g tt wi1 g1 tt1 te (own.map (·.2)) vs1) (gName i)):=
 ⟨fun pins s z H E I h=>by
  rw[exec_Assign_Name_used _ _ _ _ hsw]
  have h:tLc2 wi g tt wi1 g1 tt1 te (own.map (·.2)) vs1 z H (fun x H1=>gName i x z H1 E.nx):=h
  exact wpAny_bind (wpAny_standAt (wpAny_bind (wpAny_bind (thn (lc2_core (Qf:=fun _ s'=>SP X pins E .next s') c nd I hi ok hv hg ht he hs hi1 hg1 ht1 hs1 h fun D C s' m H' I' q hn f=>out_set nd hy hyl I' q hn f) fun _ s' hq=>wpAny_pure (wpAny_pure hq)))))⟩
end
end
end M3
namespace M3
open PySem PySem.Spec PyProof.Rows L2
abbrev CXH:=Option Value→CXT
def CXq (P:Program) (w:World):CXH:=fun hd outer H s E u s'=>(hd=none∧L2N.CX P w outer H s E u s')∨(hd≠none∧L2.CX P w outer H s E u s')
structure Takes (X:Cx) (W:WX):Prop where
 calm:X.A.handled=none→L2N.Takes X W
 hot:X.A.handled≠none→L2.Takes X W
section
variable {X:Cx} {W W':WX}
theorem Takes.imp (t:Takes X W) (h:∀c d z H,W' c d z H→W c d z H):Takes X W':=⟨fun n=>(t.calm n).imp h,fun n=>(t.hot n).imp h⟩
theorem Takes.call {E:XK} (tk:Takes X W) {z:L2.St} (hW:∀cls d H,E cls d H→W cls d z H):PassesAt (CXq X.prog X.w X.A.handled) X z E:=fun pins H s e s' I c=>by
 rcases c with⟨n,c⟩ | ⟨n,c⟩
 ·exact tk.calm n e s' (L2N.XE.of_call I hW c)
 ·exact tk.hot n e s' (L2.XE.of_call I hW c)
theorem passAt (tk:Takes X W) (z:L2.St):PassesAt (CXq X.prog X.w X.A.handled) X z (WE W z):=tk.call fun _ _ _ h=>h
theorem takes_of {hd:Option Value} {E:XK} (hs:X.stack=X.env :: X.outer) (hf:X.env.frame=some X.env.locals) (hex:X.ex=[]) {E1:Value→Shared→Prop}
  (hx:X.xe=fun e s'=>wpAny (model X.prog X.w) X.A (leaving X.env e) (fun _ s''=>CXq X.prog X.w hd X.outer X.H_0 X.s_0 E e s'') E1 s') (eh:X.A.handled=hd:=by rfl):Takes X (fun cls d _ H=>E cls d H):=by
 refine⟨fun n u s' x=>?_,fun n u s' x=>?_⟩
 ·rw[hx]
  exact wpAny_mono (L2N.XE.leave (W:=fun cls d _ H=>E cls d H) (E:=E) hs hf hex (fun _ _ _ _ h=>h) x) (fun _ _ c=>.inl ⟨eh▸n,c⟩) fun _ _ e=>e
 ·rw[hx]
  exact wpAny_mono (L2.XE.leave (W:=fun cls d _ H=>E cls d H) (E:=E) hs hf hex (fun _ _ _ _ h=>h) x) (fun _ _ c=>.inr ⟨eh▸n,c⟩) fun _ _ e=>e
end
def Zq (X:Cx) (cls:Value) (d:Option Addr) (o:Obj):Prop:=Zc cls d o∧(X.A.handled=none→PXN.CtxN o)
theorem Zq.hot {X:Cx} {a:Addr} {o:Obj} {cls:Value} {d:Option Addr} {pn:List (Addr×Obj)} (h:Zq X cls d o) (c:X.A.handled=none) (hf:∃vs,o.data=.fields vs):L2H.HotC (X.suite a ((a,o) :: pn)):=by
 obtain⟨vs,e⟩:=hf
 exact⟨(a,o),⟨rfl,vs,e,h.2 c vs e⟩,List.mem_cons_self⟩
section
variable {X:Cx} {x n:Str} {c:Value} {i:Nat} {body suite:List Stmt} {b0:Stmt} {np pos pos':Pos} {tb:WX→TS} {ts:Addr→Value→Option Addr→TS} {Wout:WX}
inductive HdsOk (X:Cx):List ExceptHandler→List (Value×(Addr→Value→Option Addr→TS))→Prop
 | nil:HdsOk X [] []
 | cons {x:Str} {c:Value} {ts:Addr→Value→Option Addr→TS} {b0:Stmt} {suite:List Stmt} {np pos':Pos} {hds:List ExceptHandler} {l:List (Value×(Addr→Value→Option Addr→TS))} (hc:Names X x c)
   (hsu:∀(a:Addr) (oe:Obj) (cls:Value) (d:Option Addr) (pn:List (Addr×Obj)),Zq X cls d oe→(∃vs,oe.data=.fields vs)→PSs (X.suite a ((a,oe) :: pn)) (b0 :: suite) (ts a cls d)) (r:HdsOk X hds l) :
   HdsOk X (.ExceptHandler (some (.Name x np)) none (b0 :: suite) pos' :: hds) ((c,ts) :: l)
theorem HdsOk.calm {hds:List ExceptHandler} {l:List (Value×(Addr→Value→Option Addr→TS))} (h:HdsOk X hds l):L2N.HdsOk X hds l:=by
 induction h with
 | nil=>exact .nil
 | cons hc hsu _ ih=>exact .cons hc (fun a oe cls d pn hz hv=>hsu a oe cls d pn ⟨hz.zc,fun _=>hz.2.2⟩ hv) ih
theorem HdsOk.hot {hds:List ExceptHandler} {l:List (Value×(Addr→Value→Option Addr→TS))} (n:X.A.handled≠none) (h:HdsOk X hds l):L2.HdsOk X hds l:=by
 induction h with
 | nil=>exact .nil
 | cons hc hsu _ ih=>exact .cons hc (fun a oe cls d pn hz hv=>hsu a oe cls d pn ⟨hz,fun e=>absurd e n⟩ hv) ih
end
end M3
namespace M3
open PySem PySem.Spec PyProof.Rows L2
structure RoomS (k:Nat) (A:Around) (s0:Shared) (H0:Hp) (fs ex:List Addr):Prop where
 dp:A.depth+3 * k+5<recursionLimit
 un:A.units+16 * k+200<cLine
 cools:CoolS A s0 H0 fs ex
abbrev Room (k:Nat) (X:Cx):Prop:=RoomS k X.A X.s_0 X.H_0 X.fs X.ex
def HotO (A:Around) (outer:List Env) (H:Hp) (s:Shared):Prop:=A.handled=none∨∃p,L2H.Hot1 A p∧L2H.PinOk outer H s p
structure RoomC (k:Nat) (A:Around) (outer:List Env) (H:Hp) (s:Shared):Prop where
 dp:A.depth+3 * k+5<recursionLimit
 un:A.units+16 * k+200<cLine
 hot:HotO A outer H s
section
variable {j k:Nat} {A:Around} {outer:List Env} {H:Hp} {s:Shared} {X:Cx} {pins:List (Addr×Obj)} {z:L2.St}
theorem RoomS.mono {A:Around} {s0:Shared} {H0:Hp} {fs ex:List Addr} (r:RoomS k A s0 H0 fs ex) (h:j≤k):RoomS j A s0 H0 fs ex:=⟨by have:=r.dp;omega,by have:=r.un;omega,r.cools⟩
theorem RoomS.cool (r:Room k X):Cool X:=r.cools.cool
theorem RoomS.depth {A:Around} {s0:Shared} {H0:Hp} {fs ex:List Addr} (r:RoomS k A s0 H0 fs ex):A.depth<recursionLimit:=by have:=r.dp;omega
theorem RoomS.blk {A:Around} {s0 s1:Shared} {H0 H1:Hp} {fs ex fs1 ex1:List Addr} (r:RoomS k A s0 H0 fs ex) (c:CoolS A s1 H1 fs1 ex1):RoomS k A s1 H1 fs1 ex1:=⟨r.dp,r.un,c⟩
theorem RoomC.mono (r:RoomC k A outer H s) (h:j≤k):RoomC j A outer H s:=⟨by have:=r.dp;omega,by have:=r.un;omega,r.hot⟩
theorem RoomC.depth (r:RoomC k A outer H s):A.depth<recursionLimit:=by have:=r.dp;omega
theorem RoomC.of (r:L2.Room k A):RoomC k A outer H s:=⟨r.dp,r.un,.inl r.hd⟩
theorem RoomS.call (r:Room k X) (I:Inv X pins z H s):RoomC k X.A X.stack H s:=by
 refine⟨r.dp,r.un,?_⟩
 rcases r.cool with c | ⟨p,h1,h⟩
 ·exact .inl c
 ·have n:=now_of I h
  exact .inr ⟨p,h1,n.get,n.free,n.nofr,n.nocell⟩
theorem RoomC.in1 (r:RoomC (k+1) A outer H s):RoomC k A.in1 outer H s:=⟨by have:=r.dp;show A.depth+3 * k+5<_;omega,by have:=r.un;show A.units+1+16 * k+200<_;omega,r.hot⟩
theorem RoomC.tok (r:RoomC k A outer H s) (t:Nat):RoomC k A outer H { s with toks:=t }:=⟨r.dp,r.un,r.hot.imp id fun ⟨p,h,q⟩=>⟨p,h,q.get,q.free,q.nofs,q.nocell⟩⟩
end
structure FnOk (P:Program) (w:World) (K:PySem.W.Frag) (mg:Str→Option Value) (base:Heap) (CX:CXH) (k:Nat) (f:Addr) (fd:FuncData) (ps:List Str) (sp:Sp):Prop where
 len:∀vs H Q E,sp vs H Q E→vs.length=ps.length
 run:∀(A:Around) (outer:List Env) (s:Shared) (H:Hp) (args:Args) (us:List Value) (vs:List V) (Q:VK) (E:XK),RoomC k A outer H s→Env0 P w K mg base A outer s H→BindsTo s fd args (ps.zip us)→Vals vs us→sp vs H Q E→
  codeAny (model P w) A (.call (.ref f) args) (CR (CX A.handled) outer P w H s Q E) s
section
variable {P:Program} {w:World} {K:PySem.W.Frag} {mg:Str→Option Value} {base:Heap} {CX:CXH} {j k:Nat} {f:Addr} {fd:FuncData} {ps:List Str} {sp sp':Sp}
theorem FnOk.mono (F:FnOk P w K mg base CX j f fd ps sp) (h:j≤k):FnOk P w K mg base CX k f fd ps sp:=⟨F.len,fun A outer s H args us vs Q E hr=>F.run A outer s H args us vs Q E (hr.mono h)⟩
theorem FnOk.imp (F:FnOk P w K mg base CX k f fd ps sp) (h:∀vs H Q E,sp' vs H Q E→sp vs H Q E):FnOk P w K mg base CX k f fd ps sp':=
 ⟨fun vs H Q E q=>F.len vs H Q E (h _ _ _ _ q),fun A outer s H args us vs Q E hr e b r q=>F.run A outer s H args us vs Q E hr e b r (h _ _ _ _ q)⟩
theorem FnOk.calm (F:FnOk P w K mg base CX k f fd ps sp):L2.FnOk P w K mg base (CX none) k f fd ps sp:=⟨F.len,fun A outer s H args us vs Q E hr e b r q=>by
 have h:=F.run A outer s H args us vs Q E (.of hr) e b r q
 rw[hr.hd] at h
 exact h⟩
theorem CXq.zc {hd:Option Value} {outer:List Env} {H:Hp} {s:Shared} {E:XK} {u:Value} {s':Shared} (c:CXq P w hd outer H s E u s'):L2.CX P w outer H s E u s':=by
 rcases c with⟨_,a,B,H',cls,d,e,⟨f1,f2,f3,oe,vs,T,oT,ts,g,z,r⟩,q⟩ | ⟨_,c⟩
 ·exact⟨a,B,H',cls,d,e,⟨f1,f2,f3,oe,vs,T,oT,ts,g,L2N.Zn.zc z,r⟩,q⟩
 ·exact c
end
abbrev Cx.low (X:Cx):Cx:={ X with calm:=false,pn:=[] }
def cxOf (CX:CXH) (P:Program) (w:World) (K:PySem.W.Frag) (mg:Str→Option Value) (base:Heap) (N:List Str) (qual:Str) (scope:Scope) (f:Addr) (cd:Value) (A:Around) (outer:List Env) (s:Shared) (H:Hp) (E:XK):Cx:=
 { L2.cxOf (CX A.handled) P w K mg base N qual scope f cd A outer s H E with calm:=false }
theorem inv_low {X:Cx} {pins:List (Addr×Obj)} {z:L2.St} {H:Hp} {s:Shared} (I:Inv X pins z H s):Inv (Cx.low X) pins z H s:=
 ⟨⟨I.ok.mod,I.ok.kind,I.ok.glob,I.ok.blt,I.ok.above,I.ok.inj,I.ok.has,I.ok.cab,(fun e=>by cases e),I.ok.frames,I.ok.stk,I.ok.exf,I.ok.bs,I.ok.bsz,I.ok.noex,I.ok.exfs,I.ok.funs,I.ok.frf⟩,
  I.os,I.bare,I.base,I.loc,I.cell,I.free,I.freeC,fun p hp=>I.pin p (List.mem_append_right _ hp),I.hok,I.len⟩
section
variable {CX:CXH} {P:Program} {w:World} {K:PySem.W.Frag} {mg:Str→Option Value} {base:Heap} {N ps:List Str} {qual:Str} {scope:Scope} {f:Addr} {cd:Value} {A:Around} {outer:List Env} {s s1:Shared} {H:Hp} {E:XK} {us:List Value} {vs:List V}
theorem inv_start (S:FnScope N ps scope) (hd:HotO A outer H s) (e0:Env0 P w K mg base A outer s H) (hl:vs.length=ps.length) (r:Vals vs us)
  (x:InCallC s s.heap.objs.size (bindL (envOfC qual scope s.heap.objs.size f cd).kindOf (ps.zip us) fun _=>none) (cellsFrom (s.heap.objs.size+1) scope.names []) (bindC (envOfC qual scope s.heap.objs.size f cd).kindOf (ps.zip us) fun _=>none) s1) :
  Inv (cxOf CX P w K mg base N qual scope f cd A outer s H E) [] (L2.start N vs) H s1:=by
 rcases hd with c | ⟨p,_,hp⟩
 ·exact inv_low (L2.inv_start (CX:=CX A.handled) (E:=E) S c e0 hl r x)
 ·exact inv_low (X:=L2H.cxH (CX A.handled) P w K mg base N qual scope f cd A outer s H E p) (L2H.inv_startH S hp e0 hl r x)
theorem HotO.cools (hd:HotO A outer H s):CoolS A s H (frs outer) []:=hd.imp id fun ⟨p,h,hp⟩=>⟨p,h,hp.get,hp.free,hp.nofs,by simp,hp.nocell⟩
theorem RoomC.inside {k:Nat} (r:RoomC (k+1) A outer H s):Room k (cxOf CX P w K mg base N qual scope f cd A outer s H E):=
 ⟨by have:=r.dp;show A.depth+1+3 * k+5<_;omega,by have:=r.un;show A.units+3+16 * k+200<_;omega,r.hot.cools⟩
end
theorem body_end {CX:CXT} {X:Cx} {outer:List Env} {s s0:Shared} {H:Hp} {Q:VK} {E:XK} {body:List Stmt} {t:TS} {z:L2.St} (ht:PSs X body t) (I:Inv X [] z X.H_0 s) (e1:frs outer=X.fs) (e2:X.ex=[]) (os:X.s_0.os=s0.os) (un:Un (frs outer) [] H X.H_0 s0.heap X.s_0.heap)
  (q:t { nx:=fun _ H'=>Q .non H',rt:=Q } z X.H_0) (hx:∀e s',X.xe e s'→wpAny (model X.prog X.w) X.A (leaving X.env e) (fun _ s''=>CX outer H s0 E e s'') (fun e' s''=>CX outer H s0 E e' s'') s') :
  wpAny (model X.prog X.w) X.A (execs body X.env) (fun fl s'=>CR CX outer X.prog X.w H s0 Q E (.ok (.ret (match fl with | .ret u=>u | _=>.none))) s') (fun e s'=>wpAny (model X.prog X.w) X.A (leaving X.env e) (fun _ s''=>CX outer H s0 E e s'') (fun e' s''=>CX outer H s0 E e' s'') s') s:=by
 have fin:∀{z':L2.St} {H':Hp} {v:V} {u:Value} {s':Shared},Inv X [] z' H' s'→RelV v u→Q v H'→CE outer X.prog X.w H s0 Q u s':=fun {z' H' v u s'} J rv y=>⟨v,H',J.os.trans os,J.bare,un.trans (by have b:=J.base;rw[e2,←e1] at b;exact b),J.hok,rv,y⟩
 refine wpAny_mono (ht.run [] s z X.H_0 _ I q) (fun fl s' hs=>?_) fun e s' hs=>hx e s' hs
 cases fl with
 | ret u=>obtain⟨v,z',H',J,rv,y⟩:=hs;exact fin J rv y
 | next=>obtain⟨z',H',J,y⟩:=hs;exact fin (v:=V.non) (u:=Value.none) J rfl y
 | brk=>obtain⟨_,_,_,y⟩:=hs;exact y.elim
 | cont=>obtain⟨_,_,_,y⟩:=hs;exact y.elim
end M3
namespace M3
open PySem PySem.Spec PyProof.Rows L2
section
variable {CX:CXH} {P:Program} {w:World} {K:PySem.W.Frag} {mg:Str→Option Value} {base:Heap} {k:Nat} {f:Addr} {name qual:Str} {params:Arguments} {body:List Stmt} {scope:Scope} {dV kV doc pm cdv ct oc:Value} {an od:Option Addr}
 {osl:Array (Option Value)} {N ps:List Str} {sp:Sp}
theorem fn_of (lk:K.lookup f=some ⟨oc,od,.func (PySem.W.fnOf name qual params body scope dV kV doc pm an cdv ct),osl⟩) (hcd:PySem.W.codeIn K cdv qual=true) (S:FnScope N ps scope) (len:∀vs H Q E,sp vs H Q E→vs.length=ps.length)
  (hbody:∀(A:Around) (outer:List Env) (s:Shared) (H:Hp) (vs:List V) (Q:VK) (E:XK),Room k (cxOf CX P w K mg base N qual scope f cdv A outer s H E)→sp vs H Q E→
   ∃t,PSs (cxOf CX P w K mg base N qual scope f cdv A outer s H E) body t∧t { nx:=fun _ H'=>Q .non H',rt:=Q } (L2.start N vs) H) :
  FnOk P w K mg base CX (k+1) f (PySem.W.fnOf name qual params body scope dV kV doc pm an cdv ct) ps sp:=by
 refine⟨len,fun A outer s H args us vs Q E hr e0 hb r hsp=>?_⟩
 have KX:K.In s.heap:=e0.mod.kin.keeps fun b o e=>(e0.bs b o e).1
 have slots:∀y∈ps.zip us,scope.names.lookup y.1=some .local∨(scope.names.lookup y.1=some .cell∧((cellsFrom (s.heap.objs.size+1) scope.names []).lookup y.1).isSome=true):=fun y hy=>
  (S.par y.1 (List.of_mem_zip hy).1).imp id fun q=>⟨q,PySem.W.cellsFrom_some _ _ _ (.inl q)⟩
 refine codeAny_call_function hr.depth (KX _ _ lk) rfl S.co S.gen rfl (PySem.W.codeRec_of KX hcd) (hb _ _ _ _ (wpAny_newFunctionEnv_cells S.kind slots ?_))
 rintro env rfl s1 x
 refine⟨(e0.mod.nolimit.keeps fun b o e=>(e0.bs b o e).1).keeps x.toInCall.keep,codeAny_func ?_⟩
 obtain⟨t,ht,q⟩:=hbody A outer s H vs Q E hr.inside hsp
 exact body_end (CX:=CX A.handled) (X:=cxOf CX P w K mg base N qual scope f cdv A outer s H E) (s0:=s) ht (inv_start S hr.hot e0 (len _ _ _ _ hsp) r x) rfl rfl rfl (Un.kept fun _ _ e=>e) q fun e s' h=>h
theorem okX {P:Program} {w:World} {K:PySem.W.Frag} {mg:Str→Option Value} {base:Heap} {x qual:Str} {st:Stmt} {f:Addr} {fd:FuncData} {N ps:List Str} {k:Nat} {sp:Sp} (F:Fun K x qual st f fd) (S:FnScope N ps (defScope st)) (len:∀vs H Q E,sp vs H Q E→vs.length=ps.length)
  (hbody:∀(cdv:Value) (A:Around) (outer:List Env) (s:Shared) (H:Hp) (vs:List V) (Q:VK) (E:XK),Room k (cxOf (CXq P w) P w K mg base N qual (defScope st) f cdv A outer s H E)→sp vs H Q E→
   ∃t,PSs (cxOf (CXq P w) P w K mg base N qual (defScope st) f cdv A outer s H E) (defBody st) t∧t { nx:=fun _ H'=>Q .non H',rt:=Q } (L2.start N vs) H):FnOk P w K mg base (CXq P w) (k+1) f fd ps sp:=by
 obtain⟨oc,od,kV,doc,pm,an,cdv,ct,osl,rfl,lk,hcd⟩:=F.ex
 exact fn_of lk hcd S len (hbody cdv)
end
def FnR (P:Program) (w:World) (K:PySem.W.Frag) (mg:Str→Option Value) (base:Heap) (CX:CXH) (k:Nat) (f:Addr) (sp:Sp):Prop:=
 ∀(A:Around) (outer:List Env) (s:Shared) (H:Hp) (us:List Value) (vs:List V) (Q:VK) (E:XK),RoomC k A outer H s→Env0 P w K mg base A outer s H→Vals vs us→sp vs H Q E→codeAny (model P w) A (.call (.ref f) ⟨us,[]⟩) (CR (CX A.handled) outer P w H s Q E) s
section
variable {P:Program} {w:World} {K:PySem.W.Frag} {mg:Str→Option Value} {base:Heap} {CX:CXH} {j k:Nat} {f:Addr} {sp sp':Sp}
theorem FnR.mono (F:FnR P w K mg base CX j f sp) (h:j≤k):FnR P w K mg base CX k f sp:=fun A outer s H us vs Q E hr=>F A outer s H us vs Q E (hr.mono h)
theorem FnR.imp (F:FnR P w K mg base CX k f sp) (h:∀vs H Q E,sp' vs H Q E→sp vs H Q E):FnR P w K mg base CX k f sp':=fun A outer s H us vs Q E hr e r q=>F A outer s H us vs Q E hr e r (h _ _ _ _ q)
end
section
variable {X:Cx} {CX:CXH} {k:Nat} {f C:Addr} {fd:FuncData} {ps:List Str} {sp:Sp} {dvs:List V} {ds:List Value} {x m:Str} {p pos apos:Pos} {e o:Expr} {es:List Expr} {ta:TE} {t:TA} {pins:List (Addr×Obj)} {z:L2.St} {H:Hp} {s:Shared} {Q:VK} {us:List Value} {vs:List V}
theorem came_call {CX:CXT} {Ez:XK} {a:Value} (hx:PassesAt CX X z Ez) (I:Inv X pins z H s) (h:codeAny (model X.prog X.w) X.A (.call a ⟨us,[]⟩) (CR CX X.stack X.prog X.w H s Q Ez) s):wpAny (model X.prog X.w) X.A (call a us) (EP X pins z Q) X.xe s:=by
 refine wpAny_call (codeAny_mono h fun r s' hq=>?_)
 match r,hq with
 | .error e,h=>exact hx pins H s e s' I h
 | .ok (.ret u),h=>exact I.after h
 | .ok .next,h=>exact h.elim
 | .ok .brk,h=>exact h.elim
 | .ok .cont,h=>exact h.elim
theorem run_fnSD {E:L2.St→XK} (F:FnOk X.prog X.w X.K X.mg X.base CX k f fd ps sp) (hr:Room k X) (hb:Binds X.K fd ps ds) (hd:Vals dvs ds) (hx:PassesAt (CX X.A.handled) X z (E z)) (I:Inv X pins z H s) (r:Vals vs us) (h:sp (vs++dvs) H Q (E z)) :
  wpAny (model X.prog X.w) X.A (call (.ref f) us) (EP X pins z Q) X.xe s:=by
 have r2:=r.append hd
 exact came_call hx I (F.run X.A X.stack s H ⟨us,[]⟩ (us++ds) (vs++dvs) Q (E z) (hr.call I) I.env0 (hb s us I.kIn (by rw[←r2.length];exact F.len _ _ _ _ h)) r2 h)
theorem run_fnS {E:L2.St→XK} (F:FnOk X.prog X.w X.K X.mg X.base CX k f fd ps sp) (hr:Room k X) (hb:Binds X.K fd ps []) (hx:PassesAt (CX X.A.handled) X z (E z)) (I:Inv X pins z H s) (r:Vals vs us) (h:sp vs H Q (E z)) :
  wpAny (model X.prog X.w) X.A (call (.ref f) us) (EP X pins z Q) X.xe s:=run_fnSD (dvs:=[]) F hr hb .nil hx I r (by rw[List.append_nil];exact h)
variable {E:L2.St→XK}
theorem pe_callS (F:FnOk X.prog X.w X.K X.mg X.base CX k f fd ps sp) (hr:Room k X) (hg:Gl X x) (hm:X.mg x=some (.ref f)) (hk:PySem.W.keepIn X.K (.ref f)=true) (hb:Binds X.K fd ps []) (hx:∀z,PassesAt (CX X.A.handled) X z (E z))
  (ha:PA X (e :: es) t) (hdb:(x == ("__debug__" : Str))=false:=by decide) (he:starEach (e :: es) X.env=(false,eval e X.env) :: starEach es X.env:=by rfl) (hpl:(backTo pos (starEach es X.env)).any (·.1)=false:=by rfl):PE X (.Call (.Name x p) (e :: es) [] pos) (tCallS sp E t):=
 ⟨fun pins s z H Q I h=>wpAny_Call_Name_kw (ld_glob I hg hm (PySem.W.callWith_K (h₀:=X.base) I.ok.mod.kin hk (thn (ha.run pos pins s z H _ I h) fun us s1 ⟨vs,H1,I1,r,q⟩=>⟨I1.kIn,run_fnS F hr hb (hx z) I1 r q⟩) he hpl) hdb)⟩
end
end M3
namespace M3
open PySem PySem.Spec PyProof.Rows L2
section
variable {prog:Program} {w:World} {A:Around}
theorem hotAt_keep {x:Addr} {h h':Heap} (c:HotX.HotAt A x h) (k:∀o,h.get? x=some o→h'.get? x=some o):HotX.HotAt A x h':=let ⟨a,o,vs,g,r⟩:=c;⟨a,o,vs,k o g,r⟩
theorem walks_cool {I:Addr} {fp wr:List Addr} {n:Nat} {P:Nat→Value→Prop} {St:Nat→Heap→Prop} {h0:Heap} (c:CoolBut A h0 I) (hw:∀b∈wr,b=I) (st0:St 0 h0) (sub:∀b∈wr,b∈fp)
  (frame:∀i h h',St i h→(∀b∈fp,∀o,h.get? b=some o→h'.get? b=some o)→St i h')
  (item:∀i (s:Shared) (Q:Option Value→Shared→Prop) (E:Value→Shared→Prop),i<n→St i s.heap→(∀v h' tk,P i v→St (i+1) h'→(∀b o,b∉wr→s.heap.get? b=some o→h'.get? b=some o)→Q (some v) { s with heap:=h',toks:=tk })→wpAny (model prog w) A (pyNext (.ref I)) Q E s)
  (done:∀(s:Shared) (Q:Option Value→Shared→Prop) (E:Value→Shared→Prop),CoolBut A s.heap I→St n s.heap→(∀h' tk,(∀b o,b∉wr→s.heap.get? b=some o→h'.get? b=some o)→Q none { s with heap:=h',toks:=tk })→wpAny (model prog w) A (pyNext (.ref I)) Q E s)
  (self:∀i (s:Shared) (Q:Value→Shared→Prop) (E:Value→Shared→Prop),St i s.heap→Q (.ref I) s→wpAny (model prog w) A (pyIter (.ref I)) Q E s) :
  ∃fp' St',Walks prog w A I fp' wr n P St'∧St' 0 h0∧∀b∈fp',b∈fp∨∃o,h0.get? b=some o:=by
 rcases c with c | ⟨x,ne,c⟩
 ·exact⟨fp,St,⟨sub,frame,item,fun s Q E=>done s Q E (.inl c),self⟩,st0,fun b hb=>.inl hb⟩
 ·refine⟨x :: fp,fun i h=>St i h∧HotX.HotAt A x h,⟨fun b hb=>List.mem_cons_of_mem _ (sub b hb),fun i h h' st k=>⟨frame i h h' st.1 fun b hb=>k b (List.mem_cons_of_mem _ hb),hotAt_keep st.2 (k x List.mem_cons_self)⟩,fun i s Q E hi st q=>?_,fun s Q E st=>done s Q E (.inr ⟨x,ne,st.2⟩) st.1,fun i s Q E st=>self i s Q E st.1⟩,⟨st0,c⟩,fun b hb=>?_⟩
  ·exact item i s Q E hi st.1 fun v h' tk p st' k=>q v h' tk p ⟨st',hotAt_keep st.2 fun o e=>k x o (fun m=>ne (hw x m)) e⟩ k
  ·rcases List.mem_cons.mp hb with rfl | hb
   ·obtain⟨_,o,_,g,_⟩:=c
    exact .inr ⟨o,g⟩
   ·exact .inl hb
theorem walks_list {h0:Heap} {I ax:Addr} {items:Array Value} (c:CoolBut A h0 I) (ne:ax≠I) (st:h0.IsListIter I ax 0∧h0.IsList ax items):∃fp St,Walks prog w A I fp [I] items.size (fun i v=>items[i]?=some v) St∧St 0 h0∧∀b∈fp,∃o,h0.get? b=some o:=by
 obtain⟨fp,St,W,s0,f⟩:=walks_cool (prog:=prog) (w:=w) (fp:=[I,ax]) (wr:=[I]) (n:=items.size) (P:=fun i v=>items[i]?=some v) (St:=fun i h=>h.IsListIter I ax i∧h.IsList ax items) c (fun b hb=>List.mem_singleton.mp hb) st
  (fun b hb=>by rw[List.mem_singleton.mp hb];exact List.mem_cons_self) (fun i h h' st k=>⟨st.1.at fun o e=>k I List.mem_cons_self o e,st.2.at fun o e=>k ax (List.mem_cons_of_mem _ List.mem_cons_self) o e⟩)
  (fun i s Q E hi st q=>wpAny_pyNext_list_item st.1 st.2 (x:=items[i]) (by simp[hi]) fun h' it' sb=>q _ h' s.toks (by simp[hi]) ⟨it',st.2.extBut sb.extBut ne⟩ fun b o hb e=>sb.extBut b o (fun z=>hb (List.mem_singleton.mpr z)) e)
  (fun s Q E c st q=>listStop c st.1 st.2 (by simp) fun h' k=>q h' s.toks fun b o hb e=>k b o (fun z=>hb (List.mem_singleton.mpr z)) e) (fun i s Q E st q=>wpAny_pyIter_listiter st.1 q)
 refine⟨fp,St,W,s0,fun b hb=>?_⟩
 rcases f b hb with hb | h
 ·rcases List.mem_cons.mp hb with rfl | hb
  ·exact let ⟨o,e,_⟩:=st.1;⟨o,e⟩
  ·rw[List.mem_singleton.mp hb]
   exact let ⟨o,e,_⟩:=st.2;⟨o,e⟩
 ·exact h
end
theorem CoolAt.fresh {A:Around} {h h':Heap} (c:CoolAt A h) (k:∀b o,h.get? b=some o→h'.get? b=some o):CoolBut A h' h.objs.size:=c.imp id fun ⟨x,hc⟩=>⟨x,let ⟨_,o,_,g,_⟩:=hc;Nat.ne_of_lt (Heap.lt_size g),hotAt_keep hc (k x)⟩
def CoolBut2 (A:Around) (h:Heap) (I S:Addr):Prop:=A.handled=none∨∃x,(x≠I∧x≠S)∧HotX.HotAt A x h
section
variable {A A':Around} {h h':Heap} {I S:Addr}
theorem CoolBut2.but (c:CoolBut2 A h I S):CoolBut A h I:=c.imp id fun ⟨x,n,q⟩=>⟨x,n.1,q⟩
theorem CoolBut2.keep (c:CoolBut2 A h I S) (k:∀b o,b≠I→b≠S→h.get? b=some o→h'.get? b=some o):CoolBut2 A h' I S:=c.imp id fun ⟨x,n,q⟩=>⟨x,n,hotAt_keep q fun o=>k x o n.1 n.2⟩
theorem CoolAt.but2 (c:CoolAt A h) (hI:h.objs.size≤I) (hS:h.objs.size≤S) (k:∀b o,h.get? b=some o→h'.get? b=some o):CoolBut2 A h' I S:=c.imp id fun ⟨x,q⟩=>
 ⟨x,let ⟨_,o,_,g,_⟩:=q;⟨Nat.ne_of_lt (Nat.lt_of_lt_of_le (Heap.lt_size g) hI),Nat.ne_of_lt (Nat.lt_of_lt_of_le (Heap.lt_size g) hS)⟩,hotAt_keep q (k x)⟩
end
section
variable {X:Cx}
theorem cr_all (hc:Cool X):CallR X (.builtin "all") (rAll X.K):=by
 rintro pins s z H _ us Q I r ⟨a,bs,rfl,hs,q⟩
 obtain⟨its,rv,hl,_⟩:=I.list hs
 rw[Vals.ref1 r]
 have hb:=rv.bls
 refine call_all_walk (iter_any hl.isList ?_)
 rintro _ rfl st ne
 obtain⟨fp,St,W,s0,_⟩:=walks_list (A:=X.A.in1) (prog:=X.prog) (w:=X.w) ((hc.at I).fresh fun b o e=>Heap.get?_push_of_some _ e) ne st
 refine⟨_,_,_,_,_,_,_,rfl,W,s0,truth_bools hb,fun h' tk hk=>⟨.bl _,H,I.kept fun b o eo=>hk b o (fun m=>Nat.lt_irrefl _ (List.mem_singleton.mp m▸Heap.lt_size eo)) (Heap.get?_push_of_some _ eo),?_,q⟩⟩
 show Value.bool _=Value.bool _
 rw[←L2.all_range,hb,List.size_toArray,List.length_map]
end
end M3
set_option maxHeartbeats 2000000
namespace M3
open PySem PySem.Spec PyProof.Rows L2
end M3
namespace M3
open PySem PySem.Spec PyProof.Rows L2
structure Alt (X Y:Cx):Prop where
 eq:∃b l,Y={ X with calm:=b,pn:=l }
 fwd:∀{pins:List (Addr×Obj)} {z:L2.St} {H:Hp} {s:Shared},Inv X pins z H s→Inv Y pins z H s
 bwd:∀{pins:List (Addr×Obj)} {z:L2.St} {H:Hp} {s:Shared},Inv Y pins z H s→Inv X pins z H s
section
variable {X Y:Cx}
theorem Alt.pa (a:Alt X Y) {es:List Expr} {t:TA} (h:PA X es t):PA Y es t:=by
 obtain⟨b,l,rfl⟩:=a.eq
 exact⟨fun pos pins s z H Q I q=>thn (h.run pos pins s z H Q (a.bwd I) q) fun us s1 ⟨vs,H1,I1,r⟩=>⟨vs,H1,a.fwd I1,r⟩⟩
theorem Alt.ps (a:Alt X Y) {st:Stmt} {t:TS} (h:PS Y st t):PS X st t:=by
 obtain⟨b,l,rfl⟩:=a.eq
 refine⟨fun pins s z H D I q=>wpAny_mono (h.run pins s z H D (a.fwd I) q) (fun f s1 hs=>?_) fun _ _ e=>e⟩
 cases f with
 | next=>obtain⟨z1,H1,I1,r⟩:=hs;exact⟨z1,H1,a.bwd I1,r⟩
 | cont=>obtain⟨z1,H1,I1,r⟩:=hs;exact⟨z1,H1,a.bwd I1,r⟩
 | brk=>obtain⟨z1,H1,I1,r⟩:=hs;exact⟨z1,H1,a.bwd I1,r⟩
 | ret v=>obtain⟨x,z1,H1,I1,r⟩:=hs;exact⟨x,z1,H1,a.bwd I1,r⟩
theorem Alt.pe (a:Alt X Y) {e:Expr} {t:TE} (h:PE Y e t):PE X e t:=by
 obtain⟨b,l,rfl⟩:=a.eq
 exact⟨fun pins s z H Q I q=>thn (h.run pins s z H Q (a.fwd I) q) fun u s1 ⟨v,H1,I1,r⟩=>⟨v,H1,a.bwd I1,r⟩⟩
end
end M3
namespace M3
open PySem PySem.Spec PyProof.Rows L2
theorem RoomC.deeper {k:Nat} {A:Around} {outer:List Env} {H:Hp} {s:Shared} (r:RoomC (k+1) A outer H s) (env:Env):RoomS k (A.deeper env) s H (frs outer) []:=
 ⟨by have:=r.dp;show A.depth+1+3 * k+5<_;omega,by have:=r.un;show A.units+3+16 * k+200<_;omega,r.hot.cools⟩
structure NOk (P:Program) (w:World) (K:PySem.W.Frag) (mg:Str→Option Value) (base:Heap) (CX:CXH) (k:Nat) (f:Addr) (F:NdefX.NF) (ps fr:List Str) (sp:List (Option V)→Sp):Prop where
 len:∀ws vs H Q E,sp ws vs H Q E→vs.length=ps.length
 run:∀(A:Around) (outer:List Env) (s:Shared) (H:Hp) (us:List Value) (vs:List V) (ws:List (Option V)) (Q:VK) (E:XK),RoomC k A outer H s→Env0 P w K mg base A outer s H→H f=some (NdefX.FnO f F)→H F.c=some (LamX.CodeO F.c F.qual)→
  NdefX.CellsAt F.cl fr ws s.heap H→Vals vs us→sp ws vs H Q E→codeAny (model P w) A (.call (.ref f) ⟨us,[]⟩) (CR (CX A.handled) outer P w H s Q E) s
section
variable {CX:CXH} {P:Program} {w:World} {K:PySem.W.Frag} {mg:Str→Option Value} {base:Heap} {N ps fr:List Str} {F:NdefX.NF} {f:Addr} {k j:Nat} {sp sp':List (Option V)→Sp}
theorem NOk.mono (o:NOk P w K mg base CX j f F ps fr sp) (h:j≤k):NOk P w K mg base CX k f F ps fr sp:=⟨o.len,fun A outer s H us vs ws Q E hr=>o.run A outer s H us vs ws Q E (hr.mono h)⟩
theorem NOk.imp (o:NOk P w K mg base CX k f F ps fr sp) (h:∀ws vs H Q E,sp' ws vs H Q E→sp ws vs H Q E):NOk P w K mg base CX k f F ps fr sp':=
 ⟨fun ws vs H Q E q=>o.len ws vs H Q E (h _ _ _ _ _ q),fun A outer s H us vs ws Q E hr e0 hf hc C r q=>o.run A outer s H us vs ws Q E hr e0 hf hc C r (h _ _ _ _ _ q)⟩
end
end M3
namespace M3
open PySem PySem.Spec PyProof.Rows L2
abbrev GM:=D→Sl3→Option Sl3
abbrev GMs:=List D→Sl3→Option Sl3
structure But (gs:List Nat) (z z':L2.St):Prop where
 len:z'.length=z.length
 out:∀j,j∉gs→z'[j]?=z[j]?
theorem But.refl {gs:List Nat} (z:L2.St):But gs z z:=⟨rfl,fun _ _=>rfl⟩
theorem But.trans {gs gs':List Nat} {a b c:L2.St} (h:But gs a b) (h':But gs' b c):But (gs++gs') a c:=
 ⟨h'.len.trans h.len,fun j hj=>(h'.out j fun m=>hj (List.mem_append_right _ m)).trans (h.out j fun m=>hj (List.mem_append_left _ m))⟩
theorem wipe_in {z:L2.St} {i:Nat}:∀{vs:List Nat},i∈vs→i<z.length→(wipe z vs)[i]?=some none
 | v :: vs,h,hl=>by
  unfold wipe
  by_cases e:v=i
  ·subst e;rw[List.getElem?_set_self (by rw[wipe_length];exact hl)]
  ·rw[List.getElem?_set_ne e]
   rcases List.mem_cons.mp h with q | q
   ·exact absurd q.symm e
   ·exact wipe_in q hl
theorem But.wipe {gs vs:List Nat} {z z':L2.St} (h:But gs z z') (hs:∀i∈gs,i∈vs):L2.wipe z' vs=L2.wipe z vs:=by
 apply List.ext_getElem?
 intro i
 by_cases hi:i∈vs
 ·by_cases hl:i<z.length
  ·rw[wipe_in hi (by rw[h.len];exact hl),wipe_in hi hl]
  ·rw[List.getElem?_eq_none (by rw[wipe_length,h.len];omega),List.getElem?_eq_none (by rw[wipe_length];omega)]
 ·rw[wipe_out hi,wipe_out hi]
  exact h.out i fun m=>hi (hs i m)
def tG (G:G3) (hx:Hex) (g:GM) (gs:List Nat):TG:=fun v z H Q=>∃(B0 B:Addr→Prop) (s:S3) (st:Store) (u:Sl3) (d:D) (u':Sl3),s.H=H∧Wd G B st s∧Slo G hx B0 B s u z∧Rep G.R s.F s.io d v∧g d u=some u'∧
 ∀z',Slo G hx B0 B s u' z'→But gs z z'→Q z' H
structure MG (P:P3) (tg:Expr) (g:GM) (gs:List Nat):Prop where
 pg:PG P.X tg (tG P.G P.hx g gs)
def gName3 (i:Nat):GM:=fun d u=>some (u.set i (some (.val d)))
def gCons3 (g:GM) (gs:GMs):GMs:=fun ds u=>match ds with
 | d :: ds=>(g d u).bind (gs ds)
 | []=>none
def gTup3 (n:Nat) (gs:GMs):GM:=fun d u=>match d with
 | .tup ds=>if ds.length=n then gs ds u else none
 | _=>none
section
variable {P:P3} {pos:Pos}
theorem mg_name (i:Nat) {x:Str} (hN:P.X.N.Nodup) (hi:P.X.N[i]?=some x:=by rfl) (hx:Loc P.X.env.scope x:=by first | exact Or.inl rfl | exact Or.inr rfl)
  (hf:P.X.fn x=true∨P.X.env.scope.names.lookup x=some .local:=by first | exact .inl rfl | exact .inr rfl | assumption):MG P (.Name x pos) (gName3 i) [i]:=by
 refine⟨⟨fun pins s0 z H v w Q I r ⟨B0,B,s,st,u,d,u',e,wd,sl,rd,eg,k⟩=>?_⟩⟩
 cases eg
 refine(pg_name hN hi hx hf).run pins s0 z H v w Q I r (k _ (sl.set rd i) ⟨by simp,fun j hj=>?_⟩)
 rw[List.getElem?_set_ne (fun q=>hj (by simp[q]))]
end
structure Itm (G:G3) (s:S3) (ds:List D) (J:It):Prop where
 go:∀(s':S3),IoLe s.io s'.io→Same s.F s'.F→Same s'.F s'.H→∀i,i<ds.length→J.go i s'.H
 yld:∀(s':S3),IoLe s.io s'.io→Same s.F s'.F→Same s'.F s'.H→∀i x H',i<ds.length→J.yld i s'.H x H'→H'=s'.H∧∃d,ds[i]?=some d∧Rep G.R s'.F s'.io d x
 stop:∀(s':S3),IoLe s.io s'.io→Same s.F s'.F→Same s'.F s'.H→∀i,ds.length≤i→J.stop i s'.H
def tI (G:G3) (hx:Hex) (wx:WX) (m:FM):TI:=fun z H R=>∃(B0 B:Addr→Prop) (s:S3) (st:Store) (u:Sl3),s.H=H∧Wd G B st s∧Slo G hx B0 B s u z∧Post G B (fun s ds J=>Itm G s ds J) (fun c d H=>wx c d z H) s R (m u st)
structure MI (P:P3) (tg iter:Expr) (m:FM):Prop where
 pi:PI P.X tg iter (tI P.G P.hx P.wx m)
theorem MI.mk' {P:P3} {tg iter:Expr} {m:FM} {t:TI} (h:PI P.X tg iter t) (k:∀(B0 B:Addr→Prop) (s:S3) (st:Store) (u:Sl3) (z:L2.St) (R:It→Hp→Prop),Wd P.G B st s→Slo P.G P.hx B0 B s u z→
  Post P.G B (fun s ds J=>Itm P.G s ds J) (fun c d H=>P.wx c d z H) s R (m u st)→t z s.H R):MI P tg iter m:=
 ⟨⟨fun pins s0 z H R I ⟨B0,B,s,st,u,e,wd,sl,p⟩=>by subst e;exact h.run pins s0 z _ R I (k B0 B s st u z R wd sl p)⟩⟩
theorem MI.out {P:P3} {tg iter:Expr} {m:FM} (h:MI P tg iter m):∃t,PI P.X tg iter t∧∀(B0 B:Addr→Prop) (s:S3) (st:Store) (u:Sl3) (z:L2.St) (R:It→Hp→Prop),Wd P.G B st s→Slo P.G P.hx B0 B s u z→
  Post P.G B (fun s ds J=>Itm P.G s ds J) (fun c d H=>P.wx c d z H) s R (m u st)→t z s.H R:=⟨_,h.pi,fun B0 B s st u z R wd sl p=>⟨B0,B,s,st,u,rfl,wd,sl,p⟩⟩
def D.walk:D→Option (List D)
 | .str x=>some (x.cps.toList.map fun c=>.str ⟨#[c]⟩)
 | d=>d.items
def iSeq (m:EM):FM:=fun u=>M.bind (m u) fun w=>match w with
 | .val d=>M.of d.walk
 | _=>M.bad
def iSeqT (K:PySem.W.Frag) (tl:TE):TI:=fun z H R=>tl z H fun x H1=>(∃y,x=.str y∧R (Its y) H1)∨∃a,x=.ref a∧((∃xs,SqL K H1 a xs)∧R (Itl K a) H1∨(∃xs,SqT K H1 a xs)∧R (Itt K a) H1)
section
variable {P:P3} {pos p:Pos} {tg l:Expr} {m:EM}
theorem pi_seq3 {X:Cx} {tl:TE} (hl:PE X l tl):PI X tg l (iSeqT X.K tl):=by
 constructor
 intro pins s z H R I h
 refine thn (hl.run pins s z H _ I h) ?_
 rintro v s1 ⟨x,H1,I1,r1,⟨y,rfl,q⟩ | ⟨a,rfl,q⟩⟩
 ·obtain⟨t,rfl⟩:=r1
  cases ha:y.cps.all (· < 128)
  ·exact wpAny_pyIter_wide ha (pi_one (tk:=s1.toks) I1 _ (turn_str _ y t "str_iterator" (.inr rfl)) ⟨_,Heap.get?_push_size _ rfl,rfl,rfl⟩ q)
  ·exact wpAny_pyIter_ascii ha (pi_one (tk:=s1.toks) I1 _ (turn_str _ y t "str_ascii_iterator" (.inl rfl)) ⟨_,Heap.get?_push_size _ rfl,rfl,rfl⟩ q)
 obtain rfl:v=Value.ref a:=r1
 have nfp:∀b∈[s1.heap.objs.size],FpOk X pins H1 b:=fun b hb=>by
  rw[List.mem_singleton.mp hb]
  exact I1.fpOk (Nat.le_refl _) I1.fresh
 rcases q with⟨⟨xs,hq⟩,q⟩ | ⟨⟨xs,hq⟩,q⟩
 ·obtain⟨its,_,pl,_⟩:=I1.list hq
  exact wpAny_pyIter_list pl.isList ⟨_,[s1.heap.objs.size],_,_,H1,rfl,I1.kept (t':=s1.toks) (fun b o e=>Heap.get?_push_of_some _ e),turn_list a _,⟨_,Heap.get?_push_size _ rfl,rfl,rfl⟩,nfp,q⟩
 ·obtain⟨its,_,pl,_⟩:=I1.tuple hq
  exact wpAny_pyIter_tuple (show s1.heap.IsTuple a its.toArray from pl) ⟨_,[s1.heap.objs.size],_,_,H1,rfl,I1.kept (t':=s1.toks) (fun b o e=>Heap.get?_push_of_some _ e),turn_tuple a _,⟨_,Heap.get?_push_size _ rfl,rfl,rfl⟩,nfp,q⟩
theorem itm_list {G:G3} {s:S3} {xs:List D} {vs:List V} {a:Addr} (h:SqL G.K s.F a vs) (r:RepL G.R s.F s.io xs vs):Itm G s xs (Itl G.K a):=by
 have up:∀(s':S3),Same s.F s'.F→Same s'.F s'.H→SqL G.K s'.H a vs:=fun s' h1 h2=>same_sqL h2 (same_sqL h1 h)
 refine⟨fun s' h1 h2 h3 i hi=>?_,fun s' h1 h2 h3 i x H' hi y=>?_,fun s' h1 h2 h3 i hi=>⟨vs,up s' h2 h3,by rw[←r.length];exact hi⟩⟩
 ·obtain⟨v,e,_⟩:=r.get (List.getElem?_eq_getElem hi)
  exact⟨vs,v,up s' h2 h3,e⟩
 ·obtain⟨e,y⟩:=y
  obtain⟨d,e2,rd⟩:=r.get' (y vs (up s' h2 h3))
  exact⟨e,d,e2,rd.mono h2 h1⟩
theorem itm_tup {G:G3} {s:S3} {xs:List D} {vs:List V} {a:Addr} (h:SqT G.K s.F a vs) (r:RepL G.R s.F s.io xs vs):Itm G s xs (Itt G.K a):=by
 have up:∀(s':S3),Same s.F s'.F→Same s'.F s'.H→SqT G.K s'.H a vs:=fun s' h1 h2=>same_sqT h2 (same_sqT h1 h)
 refine⟨fun s' h1 h2 h3 i hi=>?_,fun s' h1 h2 h3 i x H' hi y=>?_,fun s' h1 h2 h3 i hi=>⟨vs,up s' h2 h3,by rw[←r.length];exact hi⟩⟩
 ·obtain⟨v,e,_⟩:=r.get (List.getElem?_eq_getElem hi)
  exact⟨vs,v,up s' h2 h3,e⟩
 ·obtain⟨e,y⟩:=y
  obtain⟨d,e2,rd⟩:=r.get' (y vs (up s' h2 h3))
  exact⟨e,d,e2,rd.mono h2 h1⟩
theorem itm_str {G:G3} {s:S3} (y:Str):Itm G s (y.cps.toList.map fun c=>.str ⟨#[c]⟩) (Its y):=by
 have hl:(y.cps.toList.map fun c=>D.str ⟨#[c]⟩).length=y.cps.size:=by simp
 refine⟨fun s' h1 h2 h3 i hi=>by rw[hl] at hi;exact hi,fun s' h1 h2 h3 i x H' hi y'=>?_,fun s' h1 h2 h3 i hi=>by rw[hl] at hi;exact hi⟩
 obtain⟨e,c,ec,rfl⟩:=y'
 exact⟨e,.str ⟨#[c]⟩,by rw[List.getElem?_map,Array.getElem?_toList,ec];rfl,.str⟩
theorem mi_seq (h:ME P l m):MI P tg l (iSeq m):=by
 obtain⟨t,pt,ht⟩:=h.out
 refine MI.mk' (pi_seq3 pt) fun B0 B s st u z R wd sl hp=>ht B0 B s st u z _ wd sl (Post.bind hp fun w st1 s1 v l1 wd1 r1 h1=>?_)
 cases w with
 | val d=>
  obtain⟨xs,e,h1⟩:=of_eq h1
  rw[P.hK]
  cases r1 with
  | str=>cases e;exact .inl ⟨_,rfl,h1.pure wd1 (itm_str _)⟩
  | tup hq rl=>cases e;exact .inr ⟨_,rfl,.inr ⟨⟨_,(hq.mono wd1.sub).sq⟩,h1.pure wd1 (itm_tup hq.sq rl)⟩⟩
  | lst hq rl=>cases e;exact .inr ⟨_,rfl,.inl ⟨⟨_,.inl (.inl (wd1.sub _ _ hq))⟩,h1.pure wd1 (itm_list (.inl (.inl hq)) rl)⟩⟩
  | ctup hq rl=>cases e;exact .inr ⟨_,rfl,.inr ⟨⟨_,same_sqT wd1.sub hq⟩,h1.pure wd1 (itm_tup hq rl)⟩⟩
  | ro hq rl=>cases e;exact .inr ⟨_,rfl,.inl ⟨⟨_,same_sqL wd1.sub hq⟩,h1.pure wd1 (itm_list hq rl)⟩⟩
  | _=>cases e
 | _=>exact h1.elim
def rangeD (lo:Int) (n:Nat):List D:=(List.range n).map fun (i:Nat)=>D.int (lo+(i:Int))
def rng1 (ws:List W):Option (List D):=match ws with
 | [.val (.int j)]=>if -1000000≤j∧j≤1000000 then some (rangeD 0 j.toNat) else none
 | _=>none
def rng2 (ws:List W):Option (List D):=match ws with
 | [.val (.int i),.val (.int j)]=>if -1000000≤i∧i≤1000000∧-1000000≤j∧j≤1000000 then some (rangeD i (j - i).toNat) else none
 | _=>none
def iRange1 (m:AM):FM:=fun u=>M.bind (m u) fun ws=>M.of (rng1 ws)
def iRange2 (m:AM):FM:=fun u=>M.bind (m u) fun ws=>M.of (rng2 ws)
theorem itm_range {G:G3} {s:S3} (lo:Int) (n:Nat):Itm G s (rangeD lo n) (Itr lo n):=by
 have hl:(rangeD lo n).length=n:=by simp[rangeD]
 refine⟨fun s' h1 h2 h3 i hi=>by rw[hl] at hi;exact hi,fun s' h1 h2 h3 i x H' hi y=>?_,fun s' h1 h2 h3 i hi=>by rw[hl] at hi;exact hi⟩
 obtain⟨e,rfl⟩:=y
 rw[hl] at hi
 exact⟨e,_,by simp[rangeD,hi],.int⟩
theorem mi_range1 {a:Expr} {ma:AM} (hg:Gl P.X "range") (hm:P.X.mg "range" = none) (ha:MA P [a] ma) (hs:starEach [a] P.X.env=[(false,eval a P.X.env)]:=by rfl):MI P tg (.Call (.Name "range" p) [a] [] pos) (iRange1 ma):=by
 obtain⟨t,pt,ht⟩:=ha.out
 refine MI.mk' (pi_range1 hg hm pt hs) fun B0 B s st u z R wd sl hp=>ht B0 B s st u z _ wd sl (Post.bind hp fun ws st1 s1 v l1 wd1 r1 h1=>?_)
 obtain⟨xs,e,h1⟩:=of_eq h1
 unfold rng1 at e
 split at e
 ·rename_i j
  cases r1 with
  | cons r rr=>
   cases rr
   cases r
   split at e
   ·rename_i hc
    cases e
    exact⟨j,rfl,by omega,by omega,h1.pure wd1 (itm_range 0 _)⟩
   ·cases e
 ·cases e
end
def forL (g:GM) (b:SM):List D→SM
 | [],u,st=>.nx u st
 | d :: ds,u,st=>match g d u with
  | none=>.bad
  | some u1=>match b u1 st with
   | .nx u2 st2=>forL g b ds u2 st2
   | .ct u2 st2=>forL g b ds u2 st2
   | .bk u2 st2=>.nx u2 st2
   | r=>r
def sFor (m:FM) (g:GM) (b:SM):SM:=fun u st=>match m u st with
 | .ok ds st'=>forL g b ds u st'
 | .err c x st'=>.err c x u st'
 | .bad=>.bad
section
variable {P:P3} {pos:Pos}
theorem ms_for {tg iter:Expr} {body:List Stmt} {mi:FM} {g:GM} {gs:List Nat} {mb:SM} (hp:PassesOwn (model P.X.prog P.X.w) P.X.A P.X.env P.X.xe) (hc:Cool P.X) (hi:MI P tg iter mi) (hg:MG P tg g gs) (hb:MSs P body mb)
  (hs:∀x,foldedSetIterable iter P.X.env x=pure x:=by intro _;rfl):MS P (.For tg iter body [] pos) (sFor mi g mb):=by
 obtain⟨ti,pi,hti⟩:=hi.out
 obtain⟨tb,pb,htb⟩:=hb.out
 refine MS.mk' (ps_for hp hc pi hg.pg pb hs) fun B0 B s o u z D b0 wd sl h=>hti B0 B s o u z _ wd sl ?_
 unfold sFor at h
 cases e:mi u o with
 | bad=>rw[e] at h;exact h
 | err c x st'=>rw[e] at h;exact fun s' cv dd l w q=>h B s' z cv dd b0 (l.less b0) w (sl.mono' l) q
 | ok ds st'=>
  rw[e] at h
  intro s1 J l1 w1 im
  have h:=PostS.mono (l1.less b0) h
  refine⟨fun i n z' H'=>n=ds.length - i∧i≤ds.length∧∃(B':Addr→Prop) (s':S3) (o':Store) (u':Sl3),s'.H=H'∧(∀a,B0 a→B' a)∧Le B0 s1 s'∧Wd P.G B' o' s'∧Slo P.G P.hx B0 B' s' u' z'∧PostS P.G P.hx P.wx B0 s' D (forL g mb (ds.drop i) u' o'),
   ⟨_,rfl,Nat.zero_le _,B,s1,st',u,rfl,b0,Le.refl _,w1,sl.mono' l1,h⟩,?_⟩
  rintro i n z' H' ⟨rfl,hi,B',s',o',u',rfl,b0',l',w',sl',p⟩
  rcases Nat.lt_or_ge i ds.length with hlt | hge
  ·right
   refine⟨im.go s' l'.io l'.fr w'.sub i hlt,fun z2 H2=>i+1≤ds.length∧∃(B':Addr→Prop) (s':S3) (o':Store) (u':Sl3),s'.H=H2∧(∀a,B0 a→B' a)∧Le B0 s1 s'∧Wd P.G B' o' s'∧Slo P.G P.hx B0 B' s' u' z2∧PostS P.G P.hx P.wx B0 s' D (forL g mb (ds.drop (i+1)) u' o'),
    fun z2 H2 q=>⟨_,by omega,rfl,q.1,q.2⟩,fun x H2 y=>?_⟩
   obtain⟨rfl,d,ed,rd⟩:=im.yld s' l'.io l'.fr w'.sub i x _ hlt y
   rw[List.drop_eq_getElem_cons hlt] at p
   have ed':ds[i]=d:=by rw[List.getElem?_eq_getElem hlt] at ed;cases ed;rfl
   rw[ed'] at p
   unfold forL at p
   cases eg:g d u' with
   | none=>rw[eg] at p;exact p.elim
   | some u1=>
    rw[eg] at p
    refine⟨B0,B',s',o',u',d,u1,rfl,w',sl',rd,eg,fun z2 sl2 _=>?_⟩
    refine htb B0 B' s' o' u1 z2 _ b0' w' sl2 ?_
    dsimp only at p
    cases eb:mb u1 o' with
    | nx u2 st2=>rw[eb] at p;exact fun B2 s2 z3 hb2 l2 w2 sl3=>⟨hlt,B2,s2,st2,u2,rfl,hb2,l'.trans l2,w2,sl3,PostS.mono l2 p⟩
    | ct u2 st2=>rw[eb] at p;exact fun B2 s2 z3 hb2 l2 w2 sl3=>⟨hlt,B2,s2,st2,u2,rfl,hb2,l'.trans l2,w2,sl3,PostS.mono l2 p⟩
    | bk u2 st2=>rw[eb] at p;exact p
    | rt w st2=>rw[eb] at p;exact p
    | err c x u2 st2=>rw[eb] at p;exact p
    | bad=>rw[eb] at p;exact p
  ·left
   have e0:ds.drop i=[]:=List.drop_eq_nil_of_le hge
   rw[e0] at p
   exact⟨im.stop s' l'.io l'.fr w'.sub i hge,p B' s' z' b0' (Le.refl _) w' sl'⟩
end
end M3
namespace M3
open PySem PySem.Spec PyProof.Rows L2
def wipe3 (u:Sl3):List Nat→Sl3
 | []=>u
 | v :: vs=>(wipe3 u vs).set v none
theorem Slo.wipe {G:G3} {X:Hex} {B0 B:Addr→Prop} {s:S3} {u:Sl3} {z:L2.St} (h:Slo G X B0 B s u z):∀vs:List Nat,Slo G X B0 B s (wipe3 u vs) (L2.wipe z vs)
 | []=>h
 | v :: vs=>(Slo.wipe h vs).del v none
abbrev noW:WX:=fun _ _ _ _=>False
abbrev P3.blk (P:P3) (s:Shared) (H:Hp) (scope:Scope) (C:Addr) (cl:List (Str×Addr)) (fp:List Addr):P3:=⟨P.X.blk s H scope (compEnvC scope cl C P.X.env) fp,P.G,P.hx,noW,P.hK,P.hw⟩
structure MIfs (P:P3) (ifs:List Expr) (m:TM):Prop where
 pts:PTs P.X ifs (tT P.G P.hx P.wx m)
def tYes3:TM:=fun _=>M.pure true
theorem mifs_nil {P:P3}:MIfs P [] tYes3:=
 ⟨⟨fun pins s0 z H Q I ⟨B0,B,s,st,u,e,wd,sl,p⟩=>by subst e;exact pts_nil.run pins s0 z _ Q I (p.pure wd rfl)⟩⟩
theorem mifs_one {P:P3} {c:Expr} {m:TM} (h:MT P c m):MIfs P [c] m:=⟨pts_one h.pt⟩
def lcL (g:GM) (c:TM) (e:EM) (u0:Sl3):List D→List D→M (List D)
 | [],acc=>M.pure acc
 | d :: ds,acc=>M.bind (M.of (g d u0)) fun u1=>M.bind (M.quiet (c u1)) fun k=>
  if k=true then M.bind (M.quiet (e u1)) fun w=>M.bind (M.of w.d) fun x=>M.bind (M.chk (acc.length<1000000)) fun _=>lcL g c e u0 ds (acc++[x])
  else lcL g c e u0 ds acc
def fLc (mi:FM) (g:GM) (c:TM) (e:EM) (own:List Nat):FM:=fun u=>M.bind (mi u) fun ds=>lcL g c e (wipe3 u own) ds []
section
variable {P:P3} {pos:Pos}
theorem of_quiet {α:Type} {m:M α} {f:α→M (List D)} {st:Store} {G:G3} {B:Addr→Prop} {E:XK} {s:S3} {Q:VK} (h:PostF G B E s Q (M.bind (M.quiet m) f st)):∃a st',m st=.ok a st'∧PostF G B E s Q (f a st'):=by
 unfold M.bind M.quiet at h
 cases e:m st with
 | ok a st'=>rw[e] at h;exact⟨a,st',rfl,h⟩
 | err c x st'=>rw[e] at h;exact h.elim
 | bad=>rw[e] at h;exact h.elim
theorem plus_le {B:Addr→Prop} {p:Addr} {s s':S3} (l:Le (plus B p) s s'):Le B s s':=l.less fun a b=>.inl b
theorem grow_wd {G:G3} {B:Addr→Prop} {st:Store} {s:S3} {p:Addr} {vs:List V} {xs:List D} {d:D} {v:V} (w:Wd G (plus B p) st s) (nb:¬B p) (h:s.H p=some (.lst vs)) (o:HO) (nt:OwnH o:=by exact⟨fun _ q=>(by cases q),fun _ _ q=>(by first | exact dkO_code q | exact cellO_code q | (unfold LamX.CodeO at q;cases q))⟩) :
  Wd G (plus B p) st ⟨s.io,s.F,upd s.H p o⟩∧Le B s ⟨s.io,s.F,upd s.H p o⟩:=by
 have hF:=(w.hid p (.inr rfl)).1
 refine⟨⟨fun b u e=>?_,fun a b=>?_,w.ftb,w.dom,w.inj,fun k u e t=>?_,w.untM (IoLe.refl _) (Same.refl _),w.tabM (Same.refl _) (upd_tbl (w.ntbl (.inr rfl)))⟩,IoLe.refl _,Same.refl _,fun a b=>upd_ne fun z=>by subst z;exact nb b⟩
 ·show upd s.H p o b=some u
  rw[upd_ne (fun z=>by subst z;have e:s.F b=some u:=e;rw[hF] at e;cases e)]
  exact w.sub b u e
 ·by_cases q:a=p
  ·subst q;exact⟨hF,o,upd_same,nt⟩
  ·obtain⟨h1,u,h2,h3⟩:=w.hid a b
   exact⟨h1,u,by show upd s.H p o a=some u;rw[upd_ne q];exact h2,h3⟩
 ·obtain⟨a,e1,b1,f1,o1⟩:=w.obj k u e t
  have na:a≠p:=fun z=>b1 (.inr z)
  exact⟨a,e1,b1,f1,ObjR.mono (s:=s) (s':=⟨s.io,s.F,upd s.H p o⟩) (IoLe.refl _) (Same.refl _) (upd_ne na) o1⟩
theorem Slo.more {G:G3} {X:Hex} {B0 B B':Addr→Prop} {s:S3} {u:Sl3} {z:L2.St} (h:Slo G X B0 B s u z) (hb:∀a,B a→B' a):Slo G X B0 B' s u z:=by
 obtain⟨hl,ow,h1,h2⟩:=h
 exact⟨hl,ow,fun i w e=>let ⟨v,e1,r,q⟩:=h1 i w e;⟨v,e1,r.wider hb,q⟩,h2⟩
theorem lc_ok {tgt iter elt:Expr} {ifs:List Expr} {mi:FM} {g:GM} {gs:List Nat} {c:TM} {e:EM} {own:List Nat} {ti:TI} (hgs:∀i∈gs,i∈own)
  (hti:∀(B0 B:Addr→Prop) (s:S3) (st:Store) (u:Sl3) (z:L2.St) (R:It→Hp→Prop),Wd P.G B st s→Slo P.G P.hx B0 B s u z→Post P.G B (fun s ds J=>Itm P.G s ds J) (fun c d H=>P.wx c d z H) s R (mi u st)→ti z s.H R)
  {B0 B:Addr→Prop} {s:S3} {st:Store} {u:Sl3} {z:L2.St} {Q:VK} (wd:Wd P.G B st s) (sl:Slo P.G P.hx B0 B s u z) (h:PostF P.G B (fun c d H=>P.wx c d z H) s Q (fLc mi g c e own u st)) :
  tLc ti (tG P.G P.hx g gs) (tT P.G P.hx noW c) (tE P.G P.hx noW e) own z s.H Q:=by
 refine hti B0 B s st u z _ wd sl (PostF.bind h fun ds st1 s1 J l1 wd1 im h1=>?_)
 intro p hp
 obtain⟨wd2,l2⟩:=own_wd (ho:=.lst []) wd1 hp
 have nb:¬B p:=wd1.freshB hp
 refine⟨fun i n H'=>n=ds.length - i∧i≤ds.length∧∃(s':S3) (st':Store) (acc:List D) (vs:List V),s'.H=H'∧Le B s1 s'∧Wd P.G (plus B p) st' s'∧s'.H p=some (.lst vs)∧RepL P.G.R s'.F s'.io acc vs∧
   PostF P.G B (fun c d H=>P.wx c d z H) s' Q (lcL g c e (wipe3 u own) (ds.drop i) acc st'),
  ⟨_,rfl,Nat.zero_le _,_,st1,[],[],rfl,l2,wd2,upd_same,.nil,PostF.mono l2 h1⟩,?_⟩
 rintro i n H' ⟨rfl,hi,s',st',acc,vs,rfl,l',w',hq,rl,pf⟩
 rcases Nat.lt_or_ge i ds.length with hlt | hge
 ·right
  refine⟨im.go s' l'.io l'.fr w'.sub i hlt,fun H2=>i+1≤ds.length∧∃(s':S3) (st':Store) (acc:List D) (vs:List V),s'.H=H2∧Le B s1 s'∧Wd P.G (plus B p) st' s'∧s'.H p=some (.lst vs)∧RepL P.G.R s'.F s'.io acc vs∧
   PostF P.G B (fun c d H=>P.wx c d z H) s' Q (lcL g c e (wipe3 u own) (ds.drop (i+1)) acc st'),fun H2 q=>⟨_,by omega,rfl,q.1,q.2⟩,fun x H2 y=>?_⟩
  obtain⟨rfl,d,ed,rd⟩:=im.yld s' l'.io l'.fr w'.sub i x _ hlt y
  rw[List.drop_eq_getElem_cons hlt] at pf
  have ed':ds[i]=d:=by rw[List.getElem?_eq_getElem hlt] at ed;cases ed;rfl
  rw[ed'] at pf
  unfold lcL at pf
  obtain⟨u1,eg,pf⟩:=PostF.of_of pf
  have slw:Slo P.G P.hx B0 (plus B p) s' (wipe3 u own) (L2.wipe z own):=((sl.mono' (l1.trans l')).more fun a b=>.inl b).wipe own
  refine⟨B0,plus B p,s',st',wipe3 u own,d,u1,rfl,w',slw,rd,eg,fun z2 sl2 b2=>⟨?_,?_⟩⟩
  ·rw[b2.wipe hgs,wipe_wipe]
  ·obtain⟨k,st3,ek,pf⟩:=of_quiet pf
   refine⟨B0,plus B p,s',st',u1,rfl,w',sl2,?_⟩
   rw[ek]
   intro s3 k' l3 w3 rk
   subst rk
   have hq3:s3.H p=some (.lst vs):=(l3.hid p (.inr rfl)).trans hq
   have rl3:=rl.mono l3.fr l3.io
   have pf:=PostF.mono (plus_le l3) pf
   cases k with
   | false=>exact⟨hlt,s3,st3,acc,vs,rfl,l'.trans (plus_le l3),w3,hq3,rl3,pf⟩
   | true=>
    rw[if_pos rfl] at pf
    obtain⟨w,st4,ew,pf⟩:=of_quiet pf
    rw[if_pos rfl]
    refine⟨B0,plus B p,s3,st3,u1,rfl,w3,sl2.mono' l3,?_⟩
    rw[ew]
    intro s4 v4 l4 w4 r4
    obtain⟨x4,ex,pf⟩:=PostF.of_of pf
    obtain⟨hz,pf⟩:=PostF.of_chk pf
    have hq4:s4.H p=some (.lst vs):=(l4.hid p (.inr rfl)).trans hq3
    have rl4:=rl3.mono l4.fr l4.io
    have rx:Rep P.G.R s4.F s4.io x4 v4:=by
     cases w with
     | val d=>cases ex;exact r4
     | _=>cases ex
    obtain⟨w5,l5⟩:=grow_wd (xs:=[]) (d:=.non) (v:=.non) w4 nb hq4 (.lst (vs++[v4]))
    exact⟨vs,hq4,by rw[←rl4.length];exact szl hz,hlt,_,st4,acc++[x4],vs++[v4],rfl,((l'.trans (plus_le l3)).trans (plus_le l4)).trans l5,w5,upd_same,rl4.append (.cons rx .nil),PostF.mono ((plus_le l4).trans l5) pf⟩
 ·left
  have e0:ds.drop i=[]:=List.drop_eq_nil_of_le hge
  rw[e0] at pf
  exact⟨im.stop s' l'.io l'.fr w'.sub i hge,pf s' p vs (Le.refl _) w' nb hq rl⟩
where
 wipe_wipe {z:L2.St} {vs:List Nat}:L2.wipe (L2.wipe z vs) vs=L2.wipe z vs:=by
  apply List.ext_getElem?
  intro i
  by_cases hi:i∈vs
  ·by_cases hl:i<z.length
   ·rw[wipe_in hi (by rw[wipe_length];exact hl),wipe_in hi hl]
   ·rw[List.getElem?_eq_none (by rw[wipe_length,wipe_length];omega),List.getElem?_eq_none (by rw[wipe_length];omega)]
  ·rw[wipe_out hi]
theorem mf_lc {elt tg iter:Expr} {ifs:List Expr} {scope:Scope} {own:List (Str×Nat)} {mi:FM} {g:GM} {gs:List Nat} {c:TM} {m:EM} (hc:Cool P.X) (hN:P.X.N.Nodup) (hi:MI P tg iter mi) (ok:BlkOk P.X.N P.X.env.scope scope own)
  (hg:∀(s:Shared) (H:Hp) (C:Addr) (cl:List (Str×Addr)) (fp:List Addr),CoolS P.X.A s H (frs P.X.stack) fp→MG (P.blk s H scope C cl fp) tg g gs) (ht:∀(s:Shared) (H:Hp) (C:Addr) (cl:List (Str×Addr)) (fp:List Addr),CoolS P.X.A s H (frs P.X.stack) fp→MIfs (P.blk s H scope C cl fp) ifs c)
  (he:∀(s:Shared) (H:Hp) (C:Addr) (cl:List (Str×Addr)) (fp:List Addr),CoolS P.X.A s H (frs P.X.stack) fp→ME (P.blk s H scope C cl fp) elt m) (hgs:∀i∈gs,i∈own.map (·.2):=by decide) (hs:∀x,foldedSetIterable iter P.X.env x=pure x:=by intro _;rfl) :
  MF P (.ListComp elt [⟨tg,iter,ifs,0⟩] scope pos) (fLc mi g c m (own.map (·.2))):=by
 obtain⟨ti,pi,hti⟩:=hi.out
 refine MF.mk' (pe_lc (own:=own) (g:=tG P.G P.hx g gs) (tt:=tT P.G P.hx noW c) (te:=tE P.G P.hx noW m) hc hN pi ok (fun s H C cl fp co=>(hg s H C cl fp co).pg) (fun s H C cl fp co=>(ht s H C cl fp co).pts) (fun s H C cl fp co=>(he s H C cl fp co).pe) hs) fun B0 B s st u z Q wd sl h=>?_
 exact lc_ok (tgt:=tg) (iter:=iter) (elt:=elt) (ifs:=ifs) hgs hti wd sl h
end
end M3
namespace M3
open PySem PySem.Spec PyProof.Rows L2
def mfn (N:Nat) (mb:SM):List D→M D:=fun ds st=>match mb (ds.map (fun d=>some (.val d))++List.replicate (N - ds.length) none) st with
 | .nx _ st'=>.ok .non st'
 | .rt (.val d) st'=>.ok d st'
 | .rt (.bor xs) st'=>.ok (.lst xs) st'
 | .err c x _ st'=>.err c x st'
 | _=>.bad
def spM (G:G3) (n:Nat) (m:List D→M D):Sp:=fun vs H Q E=>vs.length=n∧∃(B:Addr→Prop) (s:S3) (st:Store) (ds:List D),s.H=H∧Wd G B st s∧RepL G.R s.F s.io ds vs∧
 Post G B (fun s d v=>Rep G.R s.F s.io d v) E s Q (m ds st)
theorem slo_start {G:G3} {X:Hex} {B0 B:Addr→Prop} {s:S3} {N:List Str} {ds:List D} {vs:List V} (r:RepL G.R s.F s.io ds vs) :
  Slo G X B0 B s (ds.map (fun d=>some (.val d))++List.replicate (N.length - ds.length) none) (L2.start N vs):=by
 have hl:=r.length
 have none_:∀{i:Nat} {w:M3.W},(ds.map (fun d=>some (M3.W.val d))++List.replicate (N.length - ds.length) none)[i]?=some (some w)→∃d,ds[i]?=some d∧w=.val d:=fun {i w} e=>by
  by_cases hi:i<ds.length
  ·rw[List.getElem?_append_left (by simpa using hi),List.getElem?_map] at e
   cases h:ds[i]? with
   | none=>rw[h] at e;cases e
   | some d=>rw[h] at e;cases e;exact⟨d,rfl,rfl⟩
  ·rw[List.getElem?_append_right (by simpa using hi),List.getElem?_replicate] at e
   split at e <;> cases e
 refine⟨by unfold L2.start;simp[hl],fun _=>0,fun i w e=>?_,fun i j w w' o1 o2 e1 e2 _=>?_⟩
 ·obtain⟨d,e1,rfl⟩:=none_ e
  obtain⟨v,e2,rv⟩:=r.get e1
  refine⟨v,?_,rv,fun q=>by cases q⟩
  unfold L2.start
  have hi:i<vs.length:=(List.getElem?_eq_some_iff.mp e2).1
  rw[List.getElem?_append_left (by simpa using hi),List.getElem?_map,e2]
  rfl
 ·obtain⟨d,_,q⟩:=none_ e1
  subst q;cases o1
section
variable {P:Program} {w:World} {K:PySem.W.Frag} {mg:Str→Option Value} {base:Heap}
theorem fn_ok {G:G3} (hK:K=G.K) (hw:w=G.w) {x qual:Str} {st:Stmt} {f:Addr} {fd:FuncData} {N ps:List Str} {k:Nat} {mb:SM} (F:Fun K x qual st f fd) (S:FnScope N ps (defScope st))
  (h:∀(cdv:Value) (A:Around) (outer:List Env) (s:Shared) (H:Hp) (E:XK),Room k (cxOf (CXq P w) P w K mg base N qual (defScope st) f cdv A outer s H E)→
   MSs ⟨cxOf (CXq P w) P w K mg base N qual (defScope st) f cdv A outer s H E,G,none,fun cls d _ H=>E cls d H,hK,hw⟩ (defBody st) mb) :
  FnOk P w K mg base (CXq P w) (k+1) f fd ps (spM G ps.length (mfn N.length mb)):=by
 refine okX F S (fun vs H Q E h=>h.1) fun cdv A outer s0 H vs Q E hr ⟨hl,B,s,o,ds,e,wd,rl,hp⟩=>?_
 subst e
 obtain⟨t,pt,ht⟩:=(h cdv A outer s0 s.H E hr).out
 refine⟨t,pt,ht B B s o _ _ _ (fun _ b=>b) wd (slo_start (N:=N) rl) ?_⟩
 unfold mfn at hp
 have hlen:ds.map (fun d=>some (M3.W.val d))++List.replicate (N.length - ds.length) none=ds.map (fun d=>some (M3.W.val d))++List.replicate (N.length - ds.length) none:=rfl
 cases em:mb (ds.map (fun d=>some (.val d))++List.replicate (N.length - ds.length) none) o with
 | nx u' st'=>rw[em] at hp;exact fun B' s' z' b l w sl=>hp s' .non l (w.less b) .non
 | rt w st'=>
  rw[em] at hp
  cases w with
  | val d=>exact fun B' s' v b l w r=>hp s' v l (w.less b) r
  | bor xs=>
   rintro B' s' v b l w ⟨p,vs',rfl,bp,nb,hq,r⟩
   have w':Wd G (plus B p) st' s':=w.less fun a q=>q.elim (b a) fun z=>z▸bp
   exact hp ⟨s'.io,upd s'.F p (.lst vs'),s'.H⟩ (.ref p) (l.trans (freeze_le w')) (freeze_wd w' nb hq) (.lst upd_same (r.mono (freeze_le w').fr (freeze_le w').io))
  | bod ks us=>exact hp.elim
  | bdd ks us=>exact hp.elim
  | exn c x=>exact hp.elim
  | len xs=>exact hp.elim
 | bk u' st'=>rw[em] at hp;exact hp.elim
 | ct u' st'=>rw[em] at hp;exact hp.elim
 | err c x u' st'=>rw[em] at hp;exact fun B' s' z' cv dd b l w sl q=>hp s' cv dd l (w.less b) q
 | bad=>rw[em] at hp;exact hp.elim
end
def eCall (n:Nat) (m:List D→M D) (ma:AM):EM:=fun u=>M.bind (ma u) fun ws=>M.bind (M.of (asDs ws)) fun ds=>M.bind (M.chk (ds.length=n)) fun _=>M.bind (m ds) fun d=>M.pure (.val d)
section
variable {P:P3} {pos p:Pos} {x:Str} {e:Expr} {es:List Expr} {ma:AM} {m:List D→M D} {k j n:Nat} {f:Addr} {fd:FuncData} {ps:List Str}
structure Cal (Pg:Program) (w:World) (K:PySem.W.Frag) (mg:Str→Option Value) (base:Heap) (G:G3) (k:Nat) (x:Str) (n:Nat) (m:List D→M D):Prop where
 ex:∃f fd ps,mg x=some (.ref f)∧PySem.W.keepIn K (.ref f)=true∧Binds K fd ps []∧ps.length=n∧FnOk Pg w K mg base (CXq Pg w) k f fd ps (spM G n m)
theorem me_call (c:Cal P.X.prog P.X.w P.X.K P.X.mg P.X.base P.G k x n m) (hr:Room j P.X) (hk:k≤j) (tk:Takes P.X P.wx) (hg:Gl P.X x) (ha:MA P (e :: es) ma)
  (hdb:(x == ("__debug__" : Str))=false:=by decide) (he:starEach (e :: es) P.X.env=(false,eval e P.X.env) :: starEach es P.X.env:=by rfl) (hpl:(backTo pos (starEach es P.X.env)).any (·.1)=false:=by rfl) :
  ME P (.Call (.Name x p) (e :: es) [] pos) (eCall n m ma):=by
 obtain⟨f,fd,ps,hm,hkp,hb,hn,F⟩:=c.ex
 obtain⟨t,pt,ht⟩:=ha.out
 refine ME.mk' (pe_callS F (hr.mono hk) hg hm hkp hb (fun σ=>passAt tk σ) pt hdb he hpl) fun B0 B s st u z Q wd sl h=>ht B0 B s st u z _ wd sl (Post.bind h fun ws st1 s1 vs l1 wd1 r1 h1=>?_)
 obtain⟨ds,e,h1⟩:=Post.of_of h1
 obtain⟨hl,h1⟩:=Post.of_chk h1
 have rl:=asDs_ok r1 e
 refine⟨by rw[←rl.length];exact hl,B,s1,st1,ds,rfl,wd1,rl,?_⟩
 unfold M.bind at h1
 cases em:m ds st1 with
 | ok d st'=>rw[em] at h1;exact fun s' v l w r=>h1 s' v l w r
 | err c x st'=>rw[em] at h1;exact h1
 | bad=>rw[em] at h1;exact h1
end
def CallM (P:P3) (f:Value) (g:List W→Option W):Prop:=∃r,CallR P.X f r∧∀(B:Addr→Prop) (s:S3) (st:Store) (ws:List W) (w:W) (vs:List V) (Q:VK),Wd P.G B st s→RepWs P.G P.hx B s ws vs→
 g ws=some w→(∀(s':S3) (v:V),Le B s s'→Wd P.G B st s'→RepW P.G P.hx B s' w v→Q v s'.H)→r vs s.H Q
def eB (g:List W→Option W) (ma:AM):EM:=fun u=>M.bind (ma u) fun ws=>M.of (g ws)
def fB (g:List W→Option (List D)) (ma:AM):FM:=fun u=>M.bind (ma u) fun ws=>M.of (g ws)
section
variable {P:P3} {pos p:Pos} {x:Str} {e:Expr} {es:List Expr} {ma:AM} {id T:String} {g:List W→Option W} {gf:List W→Option (List D)}
theorem me_callB (hc:CallM P (.builtin id) g) (hg:Gl P.X x) (hm:P.X.mg x=none) (hv:bootBuiltins x=some (.builtin id)) (ha:MA P (e :: es) ma) (hn:x≠"__name__":=by decide) (hdb:(x == ("__debug__" : Str))=false:=by decide)
  (he:starEach (e :: es) P.X.env=(false,eval e P.X.env) :: starEach es P.X.env:=by rfl) (hpl:(backTo pos (starEach es P.X.env)).any (·.1)=false:=by rfl):ME P (.Call (.Name x p) (e :: es) [] pos) (eB g ma):=by
 obtain⟨t,pt,ht⟩:=ha.out
 obtain⟨r,hr,hq⟩:=hc
 refine ME.mk' (pe_callB hr hg hm hv pt hn hdb he hpl) fun B0 B s st u z Q wd sl h=>ht B0 B s st u z _ wd sl (Post.bind h fun ws st1 s1 vs l1 wd1 r1 h1=>?_)
 obtain⟨w,e,h1⟩:=of_eq h1
 exact hq B s1 st1 ws w vs Q wd1 r1 e fun s' v l w' r=>h1 s' v l w' r
theorem me_callTy (hc:CallM P (.type T) g) (hg:Gl P.X x) (hm:P.X.mg x=none) (hv:bootBuiltins x=some (.type T)) (ha:MA P (e :: es) ma) (hn:x≠"__name__":=by decide) (hdb:(x == ("__debug__" : Str))=false:=by decide)
  (he:starEach (e :: es) P.X.env=(false,eval e P.X.env) :: starEach es P.X.env:=by rfl) (hpl:(backTo pos (starEach es P.X.env)).any (·.1)=false:=by rfl):ME P (.Call (.Name x p) (e :: es) [] pos) (eB g ma):=by
 obtain⟨t,pt,ht⟩:=ha.out
 obtain⟨r,hr,hq⟩:=hc
 refine ME.mk' (pe_callTy hr hg hm hv pt hn hdb he hpl) fun B0 B s st u z Q wd sl h=>ht B0 B s st u z _ wd sl (Post.bind h fun ws st1 s1 vs l1 wd1 r1 h1=>?_)
 obtain⟨w,e,h1⟩:=of_eq h1
 exact hq B s1 st1 ws w vs Q wd1 r1 e fun s' v l w' r=>h1 s' v l w' r
def lenF:List W→Option W
 | [.val (.str z)]=>if z.length≤1000000 then some (.val (.int z.length)) else none
 | [w]=>(w.rd.bind D.items).map fun xs=>.val (.int xs.length)
 | _=>none
theorem cm_len:CallM P (.builtin "len") lenF:=by
 have hS:CallR P.X (.builtin "len") _:=call_len_str
 have hQ:CallR P.X (.builtin "len") _:=call_len_seq
 refine⟨fun xs H Q=>(∃z,xs=[.str z]∧z.length≤sizeLine∧Q (.int z.length) H)∨∃p ys,xs=[.ref p]∧(SqL P.X.K H p ys∨SqT P.X.K H p ys)∧Q (.int ys.length) H,?_,fun B s st ws w vs Q wd r e k=>?_⟩
 ·intro pins s z H xs us Q I r h
  rcases h with h | h
  ·exact hS pins s z H xs us Q I r h
  ·exact hQ pins s z H xs us Q I r h
 ·unfold lenF at e
  split at e
  ·split at e
   ·rename_i hz
    cases e
    cases r with
    | cons r rr=>cases rr;cases r;exact .inl ⟨_,rfl,szL hz,k s _ (Le.refl _) wd .int⟩
   ·cases e
  ·rename_i w0 _
   cases r with
   | cons r rr=>
    cases rr
    cases h1:w0.rd with
    | none=>rw[h1] at e;cases e
    | some d=>
     rw[h1,Option.bind_some] at e
     cases h2:d.items with
     | none=>rw[h2] at e;cases e
     | some xs=>
      rw[h2] at e
      cases e
      obtain⟨p,us,rfl,hq,rl⟩:=items_ok wd r h1 h2
      exact .inr ⟨p,us,rfl,hq,by rw[←rl.length];exact k s _ (Le.refl _) wd .int⟩
  ·cases e
def intCF:List W→Option W
 | [.val (.int i)]=>some (.val (.int i))
 | [.val (.bl b)]=>some (.val (.int (if b then 1 else 0)))
 | [.val (.str x)]=>if x.length≤640 then (PySem.intText? x).map fun i=>.val (.int i) else none
 | _=>none
theorem cr_int:CallR P.X (.type "int") (fun xs H Q=>((∃i,xs=[.int i]∧Q (.int i) H)∨∃k,xs=[.bl k]∧Q (.int (if k then 1 else 0)) H)∨∃x i,xs=[.str x]∧x.length≤640∧PySem.intText? x=some i∧Q (.int i) H):=by
 have old:CallR P.X (.type "int") _:=call_int1
 intro pins s σ H xs us Q I r h
 rcases h with h | ⟨x,i,rfl,hl,hn,q⟩
 ·exact old pins s σ H xs us Q I r h
 ·obtain⟨u,rfl,t,rfl⟩:=vals1 r
  exact PySem.W.KIN.call_text hn hl ⟨.int i,H,I.tok _,⟨_,rfl⟩,q⟩
theorem cm_int:CallM P (.type "int") intCF:=by
 refine⟨_,cr_int,fun B s st ws w vs Q wd r e k=>?_⟩
 unfold intCF at e
 split at e
 ·cases e
  cases r with
  | cons r rr=>cases rr;cases r;exact .inl (.inl ⟨_,rfl,k s _ (Le.refl _) wd .int⟩)
 ·cases e
  cases r with
  | cons r rr=>cases rr;cases r;exact .inl (.inr ⟨_,rfl,k s _ (Le.refl _) wd .int⟩)
 ·rename_i x
  split at e
  ·rename_i hl
   cases hn:PySem.intText? x with
   | none=>rw[hn] at e;cases e
   | some i=>
    rw[hn] at e
    cases e
    cases r with
    | cons r rr=>cases rr;cases r;exact .inr ⟨x,i,rfl,hl,hn,k s _ (Le.refl _) wd .int⟩
  ·cases e
 ·cases e
def tupCF:List W→Option W
 | [.val (.ctup xs)]=>some (.val (.ctup xs))
 | [w]=>(w.rd.bind D.items).map fun xs=>.val (.tup xs)
 | _=>none
theorem cm_tuple:CallM P (.type "tuple") tupCF:=by
 refine⟨_,call_tupleZ,fun B s st ws w vs Q wd r e k=>?_⟩
 unfold tupCF at e
 split at e
 ·cases e
  cases r with
  | cons r rr=>
   cases rr
   cases r with
   | ctup hq rl=>exact⟨_,_,rfl,.inr ⟨by rw[P.hK];exact same_sqT wd.sub hq,k s _ (Le.refl _) wd (.ctup hq rl)⟩⟩
 ·rename_i w0 nc
  cases r with
  | cons r rr=>
   cases rr
   cases h1:w0.rd with
   | none=>rw[h1] at e;cases e
   | some d=>
    rw[h1,Option.bind_some] at e
    cases h2:d.items with
    | none=>rw[h2] at e;cases e
    | some xs=>
     rw[h2] at e
     cases e
     have fresh:∀{us:List V},RepL P.G.R s.F s.io xs us→NewT us s.H Q:=fun {us} rl=>wd.newT rl fun s' v l w r=>k s' v l w r
     cases w0 with
     | val d'=>
      cases h1
      cases r with
      | tup hq rl=>cases h2;exact⟨_,_,rfl,.inr ⟨(hq.mono wd.sub).sq,k s _ (Le.refl _) wd (.tup hq rl)⟩⟩
      | ctup hq rl=>exact absurd rfl (nc _)
      | lst hq rl=>cases h2;exact⟨_,_,rfl,.inl ⟨.inl (.inl (wd.sub _ _ hq)),fresh rl⟩⟩
      | ro hq rl=>cases h2;exact⟨_,_,rfl,.inl ⟨by rw[P.hK];exact same_sqL wd.sub hq,fresh rl⟩⟩
      | _=>cases h2
     | bor ys=>
      cases h1
      cases h2
      obtain⟨p,us,rfl,_,hq,rl⟩:=r
      exact⟨p,us,rfl,.inl ⟨.inl (.inl hq),fresh rl⟩⟩
     | bod ks us=>cases h1
     | bdd ks us=>cases h1
     | exn c x=>cases h1
     | len ys=>
      cases h1
      cases h2
      obtain⟨p,us,o,rfl,_,hq,rl⟩:=r
      exact⟨p,us,rfl,.inl ⟨.inl (.inr ⟨o,hq⟩),fresh rl⟩⟩
 ·cases e
def lstCF:List W→Option (List D)
 | [w]=>w.rd.bind D.items
 | _=>none
def D.tyn:D→Option String
 | .non=>some "NoneType"
 | .bl _=>some "bool"
 | .int _=>some "int"
 | .str _=>some "str"
 | .tup _=>some "tuple"
 | .ctup _=>some "tuple"
 | .lst _=>some "list"
 | .dict _ _=>some "dict"
 | _=>none
def isiF:List W→Option W
 | [x,.val (.ty T)]=>(x.rd.bind D.tyn).bind fun t=>(kitB t T).map fun b=>.val (.bl b)
 | _=>none
theorem tyn_ok {d:D} {v:V} {t:String} {F:Hp} {io:Io} (r:Rep P.G.R F io d v) (e:d.tyn=some t):TyX P.X.K F v (.type t):=by
 rw[P.hK]
 cases r with
 | non=>cases e;exact .base .non
 | bl=>cases e;exact .base (.bl _)
 | int=>cases e;exact .base (.int _)
 | str=>cases e;exact .base (.str _)
 | tup hq rl=>cases e;obtain⟨o,hq,_⟩:=hq;exact .fTuple hq
 | dict hq _ _=>cases e;exact .fDict hq
 | ctup hq rl=>
  cases e
  rcases hq with (hq | ⟨o,hq⟩) | ⟨o,its,n,h1,h2,_⟩
  ·exact .base (.tup hq)
  ·exact .fTuple hq
  ·exact .kTuple h1 h2
 | lst hq rl=>cases e;exact .base (.lst hq)
 | _=>cases e
theorem cm_isi:CallM P (.builtin "isinstance") isiF:=by
 refine⟨_,call_isi,fun B s st ws w vs Q wd r e k=>?_⟩
 unfold isiF at e
 split at e
 ·rename_i x0 T
  cases r with
  | cons r rr=>
   cases rr with
   | cons r2 rr=>
    cases rr
    cases r2
    cases h1:x0.rd with
    | none=>rw[h1] at e;cases e
    | some d=>
     rw[h1,Option.bind_some] at e
     cases h2:d.tyn with
     | none=>rw[h2] at e;cases e
     | some t=>
      rw[h2,Option.bind_some] at e
      cases h3:kitB t T with
      | none=>rw[h3] at e;cases e
      | some b=>
       rw[h3] at e
       cases e
       exact⟨_,_,.type t,.type T,b,rfl,.ty T,tyn_ok (rd_ok wd r h1) h2,kit_ty h3,k s _ (Le.refl _) wd .bl⟩
 ·cases e
end
end M3
namespace M3
open PySem PySem.Spec PyProof.Rows L2
abbrev PM:=Sl3→M (Option Int)
def pNone:PM:=fun _=>M.pure none
def pSome (m:EM):PM:=fun u=>M.bind (m u) fun w=>match w with
 | .val (.int i)=>M.pure (some i)
 | _=>M.bad
structure MP (P:P3) (e:Option Expr) (m:PM):Prop where
 out:∃t,PO P.X e t∧∀(B0 B:Addr→Prop) (s:S3) (st:Store) (u:Sl3) (z:L2.St) (Q:Option Int→Hp→Prop),Wd P.G B st s→Slo P.G P.hx B0 B s u z→
  Post P.G B (fun _ a b=>a=b) (fun c d H=>P.wx c d z H) s Q (m u st)→t z s.H Q
section
variable {P:P3} {pos p2:Pos} {e:Expr} {m:EM} {lo hi:Option Expr} {ml mh:PM}
theorem mp_none:MP P none pNone:=⟨_,po_none,fun B0 B s st u z Q wd sl h=>h.pure wd rfl⟩
theorem mp_some (he:ME P e m):MP P (some e) (pSome m):=by
 obtain⟨t,pt,ht⟩:=he.out
 refine⟨_,po_some pt,fun B0 B s st u z Q wd sl h=>ht B0 B s st u z _ wd sl (Post.bind h fun w st1 s1 v l1 wd1 r1 h1=>?_)⟩
 split at h1
 ·cases r1;exact⟨_,rfl,h1.pure wd1 rfl⟩
 ·exact h1.elim
def cutD {α:Type} (xs:List α) (lo hi:Option Int):List α:=(xs.drop (HT.sIx xs.length 0 lo)).take (HT.sIx xs.length xs.length hi - HT.sIx xs.length 0 lo)
theorem cut_rep {K:KW} {F:Hp} {io:Io} {xs:List D} {vs:List V} (r:RepL K F io xs vs) (lo hi:Option Int):RepL K F io (cutD xs lo hi) (cutV vs lo hi):=by
 unfold cutD cutV
 rw[r.length]
 exact(r.drop _).take _
def slF (x:W) (lo hi:Option Int):Option W:=match x with
 | .val (.str z)=>if z.length≤1000000 then some (.val (.str (cutS z lo hi))) else none
 | .val (.tup xs)=>some (.val (.tup (cutD xs lo hi)))
 | _=>none
def eSlA (m:EM) (l h:PM):EM:=fun u=>M.bind (m u) fun x=>M.bind (l u) fun a=>M.bind (h u) fun b=>match x.ls with
 | some xs=>M.pure (.val (.lst (cutD xs a b)))
 | none=>M.of (slF x a b)
theorem cut_all {α:Type} {xs:List α} {lo hi:Option Int} (h:HT.sIx xs.length 0 lo=0∧HT.sIx xs.length xs.length hi=xs.length):cutD xs lo hi=xs:=by
 unfold cutD
 rw[h.1,h.2]
 simp
theorem me_sl (he:ME P e m) (hl:MP P lo ml) (hh:MP P hi mh):ME P (.Subscript e (.Slice lo hi none p2) pos) (eSlA m ml mh):=by
 obtain⟨t,pt,ht⟩:=he.out
 obtain⟨tl,pl,htl⟩:=hl.out
 obtain⟨th,ph,hth⟩:=hh.out
 refine ME.mk' (pe_slice (sl_str.or (sl_tupZ.or sl_list)) pt pl ph) fun B0 B s st u z Q wd sl h=>ht B0 B s st u z _ wd sl (Post.bind h fun w st1 s1 v l1 wd1 r1 h1=>?_)
 refine htl B0 B s1 st1 u z _ wd1 (sl.mono' l1) (Post.bind h1 fun a st2 s2 a' l2 wd2 ra h2=>?_)
 subst ra
 refine hth B0 B s2 st2 u z _ wd2 (sl.mono' (l1.trans l2)) (Post.bind h2 fun b st3 s3 b' l3 wd3 rb h3=>?_)
 subst rb
 have r3:=r1.mono (l2.trans l3)
 cases e1:w.ls with
 | some xs=>
  rw[e1] at h3
  obtain⟨p,vs,rfl,hp,rl⟩:=ls_ok wd3 r3 e1
  refine .inr (.inr ⟨p,vs,rfl,.inl (.inl hp),fun q hq=>?_⟩)
  obtain⟨wd4,l4⟩:=wd3.froz hq (.lst (cutV vs a b))
  exact h3 (s3.froz q (.lst (cutV vs a b))) (.ref q) l4 wd4 (.lst upd_same ((cut_rep rl a b).mono l4.fr l4.io))
 | none=>
  rw[e1] at h3
  clear e1
  obtain⟨w',e1,h3⟩:=of_eq h3
  unfold slF at e1
  split at e1
  ·split at e1
   ·rename_i hz
    cases e1
    cases r3
    exact .inl ⟨_,rfl,szL hz,h3.pure wd3 .str⟩
   ·cases e1
  ·rename_i xs _
   cases e1
   cases r3 with
   | tup hq rl=>
    refine .inr (.inl ⟨_,_,rfl,(hq.mono wd3.sub).sq,fun hw=>?_,fun hw=>?_⟩)
    ·rw[←rl.length] at hw
     have h3:=h3
     rw[cut_all hw] at h3
     exact h3.pure wd3 (.tup hq rl)
    ·exact wd3.newT (cut_rep rl a b) fun s' v l w r=>h3 s' v l w r
  ·cases e1
def sApp (i:Nat) (m:EM):SM:=fun u st=>match u[i]? with
 | some (some (.bor xs))=>match m u st with
  | .ok (.val d) st'=>if xs.length<1000000 then .nx (u.set i (some (.bor (xs++[d])))) st' else .bad
  | .ok _ _=>.bad
  | .err c x st'=>.err c x u st'
  | .bad=>.bad
 | _=>.bad
theorem own_unlocked {G:G3} {X:Hex} {B:Addr→Prop} {s:S3} {w:M3.W} {p q:Addr} {o:Obj} {vs:List V} (ow:w.own=true) (r:RepW G X B s w (.ref p)) (h:s.H q=some (.frz o (.lst vs))):q≠p:=fun e=>by
 subst e
 cases w with
 | bor xs=>obtain⟨p',vs',e,b,h',_⟩:=r;cases e;rw[h] at h';cases h'
 | bod ks us=>obtain⟨p',vs',e,b,h',_⟩:=r;cases e;rw[h] at h';cases h'
 | bdd ks us=>obtain⟨p',vs',e,b,h',_⟩:=r;cases e;rw[h] at h';cases h'
 | _=>cases ow
theorem Slo.changeW {G:G3} {X:Hex} {B0 B:Addr→Prop} {s:S3} {u:Sl3} {z:L2.St} {i:Nat} {w0:W} {st:Store} (h:Slo G X B0 B s u z) (wd:Wd G B st s) (e:u[i]?=some (some w0)) (o0:w0.own=true) :
  ∃p,z[i]?=some (some (.ref p))∧B p∧¬B0 p∧RepW G X B s w0 (.ref p)∧∀(w':W) (ho:HO),w'.own=true→RepW G X B ⟨s.io,s.F,upd s.H p ho⟩ w' (.ref p)→
   Slo G X B0 B ⟨s.io,s.F,upd s.H p ho⟩ (u.set i (some w')) z∧Wd G B st ⟨s.io,s.F,upd s.H p ho⟩∧Le B0 s ⟨s.io,s.F,upd s.H p ho⟩:=by
 obtain⟨hl,ow,h1,h2⟩:=h
 obtain⟨v,e1,rw0,q⟩:=h1 i _ e
 obtain⟨e3,nb⟩:=q o0
 subst e3
 obtain⟨p,e3,bp⟩:=own_ref o0 rw0
 injection e3 with e3
 have hF:=(wd.hid p bp).1
 refine⟨p,by rw[←e3];exact e1,bp,by rw[←e3];exact nb,by rw[←e3];exact rw0,fun w' ho o' ru=>⟨⟨by simpa using hl,ow,fun j w ej=>?_,fun j k wj wk oj ok q1 q2 q3=>?_⟩,⟨fun b o eb=>?_,fun a ba=>?_,wd.ftb,wd.dom,wd.inj,fun k o ek t=>?_,wd.untM (IoLe.refl _) (Same.refl _),wd.tabM (Same.refl _) (upd_tbl (wd.ntbl bp))⟩,IoLe.refl _,Same.refl _,fun a ba=>?_⟩⟩
 ·rcases get_set ej with⟨rfl,rfl⟩ | ⟨ne,ej⟩
  ·exact⟨.ref p,by rw[←e3];exact e1,ru,fun q'=>⟨by rw[e3],nb⟩⟩
  ·obtain⟨v,ev,rv,qv⟩:=h1 j w ej
   refine⟨v,ev,?_,qv⟩
   have away:w.own=true→∀p',v=.ref p'→p'≠p:=fun ow' p' e' z=>by
    obtain⟨e4,_⟩:=qv ow'
    rw[e'] at e4
    injection e4 with e4
    exact ne (h2 i j w0 w o0 ow' e ej (by rw[e3,←e4,z]))
   cases w with
   | val d=>exact rv
   | exn c x=>exact rv
   | bor xs'=>
    obtain⟨p',vs',rfl,b',hp',rl'⟩:=rv
    exact⟨p',vs',rfl,b',(upd_ne (away rfl p' rfl)).trans hp',rl'⟩
   | bod ks us=>
    obtain⟨p',vs',rfl,b',hp',rl'⟩:=rv
    exact⟨p',vs',rfl,b',(upd_ne (away rfl p' rfl)).trans hp',rl'⟩
   | bdd ks us=>
    obtain⟨p',vs',rfl,b',hp',rl'⟩:=rv
    exact⟨p',vs',rfl,b',(upd_ne (away rfl p' rfl)).trans hp',rl'⟩
   | len ys=>
    obtain⟨p',vs',o,rfl,b',hp',rl'⟩:=rv
    exact⟨p',vs',o,rfl,b',(upd_ne (by rw[←e3];exact own_unlocked o0 rw0 hp')).trans hp',rl'⟩
 ·have old:∀{j:Nat} {w1:M3.W},w1.own=true→(u.set i (some w'))[j]?=some (some w1)→∃w2:M3.W,w2.own=true∧u[j]?=some (some w2):=fun {j w1} o1 q=>by
   rcases get_set q with⟨rfl,_⟩ | ⟨_,q⟩
   ·exact⟨w0,o0,e⟩
   ·exact⟨w1,o1,q⟩
  obtain⟨a1,oa1,q1⟩:=old oj q1
  obtain⟨a2,oa2,q2⟩:=old ok q2
  exact h2 j k a1 a2 oa1 oa2 q1 q2 q3
 ·show upd s.H p _ b=some o
  rw[upd_ne (fun z=>by subst z;have eb:s.F b=some o:=eb;rw[hF] at eb;cases eb)]
  exact wd.sub b o eb
 ·obtain⟨a1,o,a2,a3⟩:=wd.hid a ba
  by_cases q:a=p
  ·subst q
   have hh:upd s.H a ho a=some ho:=upd_same
   refine⟨a1,_,upd_same,?_⟩
   cases w' with
   | bor xs=>obtain⟨p',vs,e',_,h',_⟩:=ru;cases e';have h':upd s.H a ho a=_:=h';rw[hh] at h';cases h';exact⟨fun _ q=>(by cases q),fun _ _ q=>(by first | exact dkO_code q | exact cellO_code q | (unfold LamX.CodeO at q;cases q))⟩
   | bod ks us=>obtain⟨p',vs,e',_,h',_⟩:=ru;cases e';have h':upd s.H a ho a=_:=h';rw[hh] at h';cases h';exact⟨fun _ q=>(by cases q),fun _ _ q=>(by first | exact dkO_code q | exact cellO_code q | (unfold LamX.CodeO at q;cases q))⟩
   | bdd ks us=>obtain⟨p',vs,e',_,h',_⟩:=ru;cases e';have h':upd s.H a ho a=_:=h';rw[hh] at h';cases h';exact⟨fun _ q=>(by cases q),fun _ _ q=>(by first | exact dkO_code q | exact cellO_code q | (unfold LamX.CodeO at q;cases q))⟩
   | _=>cases o'
  ·exact⟨a1,o,(upd_ne q).trans a2,a3⟩
 ·obtain⟨a,a1,a2,a3,a4⟩:=wd.obj k o ek t
  have na:a≠p:=fun z=>a2 (z▸bp)
  exact⟨a,a1,a2,a3,ObjR.mono (s:=s) (s':=⟨s.io,s.F,upd s.H p ho⟩) (IoLe.refl _) (Same.refl _) (upd_ne na) a4⟩
 ·exact upd_ne fun z=>nb (by rw[e3,←z];exact ba)
theorem Slo.change {G:G3} {X:Hex} {B0 B:Addr→Prop} {s:S3} {u:Sl3} {z:L2.St} {i:Nat} {xs ys:List D} {st:Store} (h:Slo G X B0 B s u z) (wd:Wd G B st s) (e:u[i]?=some (some (.bor xs))) :
  ∃p vs,z[i]?=some (some (.ref p))∧B p∧¬B0 p∧s.H p=some (.lst vs)∧RepL G.R s.F s.io xs vs∧∀us,RepL G.R s.F s.io ys us→
   Slo G X B0 B ⟨s.io,s.F,upd s.H p (.lst us)⟩ (u.set i (some (.bor ys))) z∧Wd G B st ⟨s.io,s.F,upd s.H p (.lst us)⟩∧Le B0 s ⟨s.io,s.F,upd s.H p (.lst us)⟩:=by
 obtain⟨p,ez,bp,nb,⟨p',vs,e',b',hp,rl⟩,ch⟩:=h.changeW wd e rfl
 cases e'
 exact⟨p,vs,ez,bp,nb,hp,rl,fun us ru=>ch (.bor ys) (.lst us) rfl ⟨p,us,rfl,bp,upd_same,ru⟩⟩
theorem ms_app (i:Nat) {x:Str} {px apos cpos:Pos} (he:ME P e m) (hN:P.X.N[i]?=some x:=by rfl) (hv:Vis P.X.env.scope x:=by first | exact Or.inl rfl | exact Or.inr (Or.inl rfl) | exact Or.inr (Or.inr rfl)) (hd:(x == ("__debug__" : Str))=false:=by decide)
  (hcd:(x == ("__classdict__" : Str))=false:=by decide) (hst:starEach [e] P.X.env=(false,eval e P.X.env) :: starEach [] P.X.env:=by rfl)
  (hbase:attributeBase (.Name x px) "append" P.X.env (eval (.Name x px) P.X.env)=eval (.Name x px) P.X.env:=by rfl)
  (hfew:((backTo cpos (starEach [e] P.X.env)).all (fun x=>!x.1) && (backToKw cpos (keywordEach [] P.X.env)).all (fun x=>x.1.isSome) && decide (([e]:List Expr).length+([]:List Keyword).length+(if ([]:List Keyword).isEmpty then 0 else 1)<30))=true:=by rfl)
  (hline:(apos.endLine == cpos.line)=true:=by rfl) (hplain:(backTo cpos (starEach [] P.X.env)).any (·.1)=false:=by rfl)
  (hs:swapsWith (.Call (.Attribute (.Name x px) "append" apos) [e] [] cpos) none pos.line P.X.env=pure false:=by rfl) :
  MS P (.Expr (.Call (.Attribute (.Name x px) "append" apos) [e] [] cpos) pos) (sApp i m):=by
 obtain⟨t,pt,ht⟩:=he.out
 refine MS.mk' (ps_expr (pe_bm PySem.F.plainAttrs_list PySem.F.slot_list_append PySem.F.type_list_append mt_append (pe_var hN hv hd hcd) (pa_cons pt pa_nil hst) hbase hfew hline hst hplain) hs) fun B0 B s o u z D b0 wd sl h=>?_
 unfold sApp at h
 split at h
 ·rename_i xs e1
  obtain⟨p,vs,e2,bp,nb,hp,rl,_⟩:=sl.change (ys:=[]) wd e1
  refine⟨.ref p,e2,.inl ⟨rfl,vs,.inl (.inl hp)⟩,ht B0 B s o u z _ wd sl ?_⟩
  cases em:m u o with
  | bad=>rw[em] at h;exact h
  | err c x st'=>rw[em] at h;exact fun s' cv dd l w q=>h B s' z cv dd b0 (l.less b0) w (sl.mono' l) q
  | ok w st'=>
   rw[em] at h
   cases w with
   | bor xs=>exact h.elim
   | bod ks us=>exact h.elim
   | bdd ks us=>exact h.elim
   | exn c x=>exact h.elim
   | len xs=>exact h.elim
   | val d=>
    dsimp only at h
    split at h
    ·rename_i hz
     intro s' v l w r
     obtain⟨p',vs',e2',bp',nb',hp',rl',ch⟩:=(sl.mono' l).change (ys:=xs++[d]) w e1
     rw[e2] at e2';cases e2'
     obtain⟨sl2,w2,l2⟩:=ch (vs'++[v]) (rl'.append (.cons r .nil))
     exact⟨p,vs',v,rfl,rfl,hp',by rw[←rl'.length];exact szl hz,h B _ z b0 ((l.less b0).trans l2) w2 sl2⟩
    ·exact h.elim
 ·exact h.elim
end
end M3
namespace M3
open PySem PySem.Spec PyProof.Rows L2
def rNotInT (K:PySem.W.Frag):R2:=fun x y H Q=>∃d ds,Dp K H x d∧Dp K H y (.tuple ds)∧SeqAt.shaped d=true∧SeqAt.shaped (.tuple ds)=true∧Q (.bl (!ds.any fun z=>PyData.eqv z d)) H
section
variable {X:Cx}
theorem op_notInT (hu:X.A.units+65<cLine):OpR X (compareOp .NotIn) (rNotInT X.K):=by
 rintro pins now σ H x y v u Q inv rx ry ⟨d,ds,dx,dy,shx,shy,q⟩
 obtain⟨_,readsx⟩:=Dp.reads inv d x v dx rx
 obtain⟨_,readsy⟩:=Dp.reads inv _ y u dy ry
 exact SeqAt.notIn_tuple_reads readsy readsx (SeqAt.canLay_of_shaped shy) (SeqAt.canLay_of_shaped shx) (room_in_shaped shx hu) ⟨V.bl _,H,inv,rfl,q⟩
theorem op_dnotInV (hu:X.A.units+1<cLine):OpR X (compareOp .NotIn) (fun y x H Q=>∃a o,x=.ref a∧DGet H a y o∧Q (.bl (!o.isSome)) H):=by
 intro pins s σ H y x u v Q I ry rx h
 obtain⟨a,o,rfl,g,q⟩:=h
 cases rx
 exact d_notIn hu I g ry fun s' I'=>⟨.bl _,H,I',rfl,q⟩
end
def D.key:D→Option Key
 | .int i=>some (.inl i)
 | .str x=>some (.inr x)
 | _=>none
def D.keys:List D→Option (List Key)
 | []=>some []
 | d :: ds=>match d.key,D.keys ds with
  | some k,some ks=>some (k :: ks)
  | _,_=>none
def atK {κ:Type} [DecidableEq κ]:List κ→List D→κ→Option D
 | k :: ks,d :: ds,x=>if k=x then some d else atK ks ds x
 | _,_,_=>none
def setK3 {κ:Type} [DecidableEq κ]:List κ→List D→κ→D→List D
 | k :: ks,d :: ds,x,y=>(if k=x then y else d) :: setK3 ks ds x y
 | _,ds,_,_=>ds
def putK3 {κ:Type} [DecidableEq κ] (ks:List κ) (ds:List D) (x:κ) (y:D):List κ×List D:=if x∈ks then (ks,setK3 ks ds x y) else (ks++[x],ds++[y])
def dgetF (d k:D):Option (Option D):=match d,k with
 | .dict ks us,k=>k.key.map fun x=>atK ks us x
 | _,_=>none
inductive DAt (K:KW) (io:Io) (F H:Hp) (a:Addr):D→Prop where
 | k {kvs:List (Key×V)} {us:List D}:Rd H a (.dK kvs)→RepL K F io us (kvs.map (·.2))→DAt K io F H a (.dict (kvs.map (·.1)) us)
section
variable {K:KW} {F H:Hp} {io:Io}
theorem atK_ok {κ:Type} [DecidableEq κ] (x:κ):∀{kvs:List (κ×V)} {us:List D},RepL K F io us (kvs.map (·.2))→(∀d,atK (kvs.map (·.1)) us x=some d→∃v,valV kvs x=some v∧Rep K F io d v)∧(atK (kvs.map (·.1)) us x=none→valV kvs x=none)
 | [],_,rl=>by
  cases rl
  exact⟨fun d h=>(by cases h),fun _=>rfl⟩
 | (k,v) :: kvs,[],rl=>by cases rl
 | (k,v) :: kvs,d :: us,rl=>by
  obtain⟨r,t⟩:Rep K F io d v∧RepL K F io us (kvs.map (·.2)):=by
   cases rl with
   | cons r t=>exact⟨r,t⟩
  have ih:=atK_ok x t
  have e1:valV ((k,v) :: kvs) x=if k=x then some v else valV kvs x:=by
   unfold valV
   by_cases h:k=x
   ·simp[h]
   ·simp[h]
  show (∀d',(if k=x then some d else atK (kvs.map (·.1)) us x)=some d'→_)∧_
  rw[e1]
  refine⟨fun d' h=>?_,fun h=>?_⟩
  ·by_cases q:k=x
   ·rw[if_pos q] at h⊢;cases h;exact⟨v,rfl,r⟩
   ·rw[if_neg q] at h⊢;exact ih.1 d' h
  ·have h:(if k=x then some d else atK (kvs.map (·.1)) us x)=none:=h
   by_cases q:k=x
   ·rw[if_pos q] at h;cases h
   ·rw[if_neg q] at h⊢;exact ih.2 h
theorem key_ok {d:D} {v:V} {k:Key} (r:Rep K F io d v) (e:d.key=some k):v=kV k:=by
 unfold D.key at e
 split at e
 ·cases e;cases r;rfl
 ·cases e;cases r;rfl
 ·cases e
theorem dget_ok {a:Addr} {d k:D} {y:V} {o:Option D} (at_:DAt K io F H a d) (hs:Same F H) (r:Rep K F io k y) (e:dgetF d k=some o) :
  ∃ov,DGet H a y ov∧ov.isSome=o.isSome∧∀d',o=some d'→∃v,ov=some v∧Rep K F io d' v:=by
 have fin:∀{κ:Type} [DecidableEq κ] {kvs:List (κ×V)} {us:List D} {x:κ},RepL K F io us (kvs.map (·.2))→o=atK (kvs.map (·.1)) us x→
   (valV kvs x).isSome=o.isSome∧∀d',o=some d'→∃v,valV kvs x=some v∧Rep K F io d' v:=fun {κ _ kvs us x} rl eo=>by
  obtain⟨h1,h2⟩:=atK_ok x rl
  cases q:atK (kvs.map (·.1)) us x with
  | none=>rw[q] at eo;subst eo;rw[h2 q];exact⟨rfl,fun d' z=>by cases z⟩
  | some d'=>
   rw[q] at eo
   subst eo
   obtain⟨v,hv,rv⟩:=h1 d' q
   rw[hv]
   exact⟨rfl,fun d2 z=>by cases z;exact⟨v,rfl,rv⟩⟩
 cases at_ with
 | @k kvs us ha rl=>
  have e:(k.key.map fun x=>atK (kvs.map (·.1)) us x)=some o:=e
  cases hk:k.key with
  | none=>rw[hk] at e;cases e
  | some x=>
   rw[hk] at e
   cases e
   obtain rfl:=key_ok r hk
   exact⟨_,.inl ⟨kvs,x,ha,rfl,rfl⟩,fin rl rfl⟩
end
def W.dic:W→Option D
 | .val (.dict ks us)=>some (.dict ks us)
 | .bod ks us=>some (.dict ks us)
 | _=>none
theorem dic_ok {G:G3} {X:Hex} {B:Addr→Prop} {s:S3} {st:Store} {w:W} {v:V} {d:D} (wd:Wd G B st s) (r:RepW G X B s w v) (e:w.dic=some d):∃a,v=.ref a∧DAt G.R s.io s.F s.H a d:=by
 unfold W.dic at e
 split at e
 ·cases e;cases r with | dict h q rl=>subst q;exact⟨_,rfl,.k (.inr ⟨_,wd.sub _ _ h⟩) rl⟩
 ·cases e;obtain⟨p,kvs,rfl,_,h,q,rl⟩:=r;subst q;exact⟨_,rfl,.k (.inl h) rl⟩
 ·cases e
def inF (neg:Bool) (x y:W):Option W:=match x,y with
 | .val (.str a),.val (.str b)=>match a.cps.toList with
  | [c]=>some (.val (.bl (if neg then !decide (c∈b.cps.toList) else decide (c∈b.cps.toList))))
  | _=>none
 | x,y=>match y.dic with
  | some d=>match x with
   | .val k=>(dgetF d k).map fun o=>.val (.bl (if neg then !o.isSome else o.isSome))
   | _=>none
  | none=>match x.rd,y.rd with
   | some a,some b=>match a.py,b.py with
    | some p,some (.list ps)=>if SeqAt.shaped p=true∧SeqAt.shaped (.list ps)=true then some (.val (.bl (if neg then !ps.any fun z=>PyData.eqv z p else ps.any fun z=>PyData.eqv z p))) else none
    | some p,some (.tuple ps)=>if SeqAt.shaped p=true∧SeqAt.shaped (.tuple ps)=true then some (.val (.bl (if neg then !ps.any fun z=>PyData.eqv z p else ps.any fun z=>PyData.eqv z p))) else none
    | _,_=>none
   | _,_=>none
section
variable {P:P3}
theorem in_ok {op:CmpOp} (neg:Bool) {R1 R2' R3 R4:R2} (h1:OpR P.X (compareOp op) R1) (h2:OpR P.X (compareOp op) R2') (h3:OpR P.X (compareOp op) R3) (h4:OpR P.X (compareOp op) R4)
  (g1:∀(c:Nat) (z:Str) H Q,Q (.bl (if neg then !decide (c∈z.cps.toList) else decide (c∈z.cps.toList))) H→R1 (.str ⟨#[c]⟩) (.str z) H Q)
  (g2:∀a o y H Q,DGet H a y o→Q (.bl (if neg then !o.isSome else o.isSome)) H→R2' y (.ref a) H Q)
  (g3:∀d ds x y H Q,Dp P.X.K H x d→Dp P.X.K H y (.list ds)→SeqAt.shaped d=true→SeqAt.shaped (.list ds)=true→Q (.bl (if neg then !ds.any fun z=>PyData.eqv z d else ds.any fun z=>PyData.eqv z d)) H→R3 x y H Q)
  (g4:∀d ds x y H Q,Dp P.X.K H x d→Dp P.X.K H y (.tuple ds)→SeqAt.shaped d=true→SeqAt.shaped (.tuple ds)=true→Q (.bl (if neg then !ds.any fun z=>PyData.eqv z d else ds.any fun z=>PyData.eqv z d)) H→R4 x y H Q) :
  OpM P (compareOp op) (inF neg):=by
 refine⟨_,h1.or (h2.or (h3.or h4)),fun B s st w1 w2 w v1 v2 Q wd r1 r2 e k=>?_⟩
 unfold inF at e
 split at e
 ·rename_i a b
  split at e
  ·rename_i c hc
   have ea:a=⟨#[c]⟩:=by
    obtain⟨cs⟩:=a
    have:cs = #[c]:=by
     have:=congrArg List.toArray hc
     simpa using this
    rw[this]
   subst ea
   cases e;cases r1;cases r2
   exact .inl (g1 _ _ _ _ (k s _ (Le.refl _) wd .bl))
  ·cases e
 ·split at e
  ·rename_i d hd
   split at e
   ·rename_i kd _
    obtain⟨a,rfl,at_⟩:=dic_ok wd r2 hd
    cases hg:dgetF d kd with
    | none=>rw[hg] at e;cases e
    | some o=>
     rw[hg] at e
     cases e
     obtain⟨ov,g,h,_⟩:=dget_ok at_ wd.sub r1 hg
     exact .inr (.inl (g2 _ _ _ _ _ g (by rw[h];exact k s _ (Le.refl _) wd .bl)))
   ·cases e
  ·split at e
   ·rename_i a b ea eb
    split at e
    ·rename_i p ps ep eps
     split at e
     ·rename_i hs
      cases e
      exact .inr (.inr (.inl (g3 p ps _ _ _ _ (by rw[P.hK];exact py_ok (rd_ok wd r1 ea) ep) (by rw[P.hK];exact py_ok (rd_ok wd r2 eb) eps) hs.1 hs.2 (k s _ (Le.refl _) wd .bl))))
     ·cases e
    ·rename_i p ps ep eps
     split at e
     ·rename_i hs
      cases e
      exact .inr (.inr (.inr (g4 p ps _ _ _ _ (by rw[P.hK];exact py_ok (rd_ok wd r1 ea) ep) (by rw[P.hK];exact py_ok (rd_ok wd r2 eb) eps) hs.1 hs.2 (k s _ (Le.refl _) wd .bl))))
     ·cases e
    ·cases e
   ·cases e
theorem om_notin (hu:P.X.A.units+65<cLine):OpM P (compareOp .NotIn) (inF true):=
 in_ok true op_notIn_sign (op_dnotInV (Nat.lt_of_le_of_lt (by omega) hu)) (op_notInD hu) (op_notInT hu) (fun c z H Q h=>⟨c,z,rfl,rfl,h⟩) (fun a o y H Q g h=>⟨a,o,rfl,g,h⟩) (fun d ds x y H Q a b c e h=>⟨d,ds,a,b,c,e,h⟩) (fun d ds x y H Q a b c e h=>⟨d,ds,a,b,c,e,h⟩)
end
def D.bls:List D→Option (List Bool)
 | []=>some []
 | .bl b :: ds=>(D.bls ds).map (b :: ·)
 | _ :: _=>none
theorem bls_ok {K:KW} {F:Hp} {io:Io}:∀{ds:List D} {vs:List V} {bs:List Bool},RepL K F io ds vs→D.bls ds=some bs→vs=bs.map V.bl
 | [],_,_,.nil,e=>by unfold D.bls at e;cases e;rfl
 | d :: ds,_,bs,.cons r t,e=>by
  cases d with
  | bl b=>
   unfold D.bls at e
   cases h:D.bls ds with
   | none=>rw[h] at e;cases e
   | some bs'=>
    rw[h] at e
    cases e
    cases r
    rw[bls_ok t h]
    rfl
  | _=>unfold D.bls at e;cases e
def allF:List W→Option W
 | [w]=>w.ls.bind fun xs=>(D.bls xs).map fun bs=>.val (.bl (bs.all id))
 | _=>none
def anyF:List W→Option W
 | [w]=>w.ls.bind fun xs=>(D.bls xs).map fun bs=>.val (.bl (bs.any id))
 | _=>none
section
variable {P:P3}
theorem cm_all (hc:Cool P.X):CallM P (.builtin "all") allF:=by
 refine⟨_,cr_all hc,fun B s st ws w vs Q wd r e k=>?_⟩
 unfold allF at e
 split at e
 ·rename_i w0
  cases r with
  | cons r rr=>
   cases rr
   cases h1:w0.ls with
   | none=>rw[h1] at e;cases e
   | some xs=>
    rw[h1,Option.bind_some] at e
    cases h2:D.bls xs with
    | none=>rw[h2] at e;cases e
    | some bs=>
     rw[h2] at e
     cases e
     obtain⟨p,us,rfl,hp,rl⟩:=ls_ok wd r h1
     obtain rfl:=bls_ok rl h2
     exact⟨p,bs,rfl,.inl (.inl hp),k s _ (Le.refl _) wd .bl⟩
 ·cases e
end
def eNeg (a:EM):EM:=fun u=>M.bind (a u) fun w=>match w with
 | .val (.int i)=>M.pure (.val (.int (-i)))
 | _=>M.bad
end M3
namespace M3
open PySem PySem.Spec PyProof.Rows L2
def W.str? : W→Option Str
 | .val (.str x)=>some x
 | _=>none
def eM1 (g:Str→W→Option W) (a b:EM):EM:=fun u=>M.bind (a u) fun x=>M.bind (M.of x.str?) fun z=>M.bind (b u) fun y=>M.of (g z y)
def D.strs:List D→Option (List Str)
 | []=>some []
 | .str x :: ds=>(D.strs ds).map (x :: ·)
 | _ :: _=>none
def splitF (x:Str):W→Option W
 | .val (.str y)=>if y.length≠0∧x.length≤900000 then some (.val (.lst ((Txt.split x y).map .str))) else none
 | _=>none
def joinF (x:Str) (w:W):Option W:=(w.rd.bind D.items).bind fun xs=>(D.strs xs).bind fun ys=>if (ys.map (·.length)).sum+ys.length * x.length≤1000000 then some (.val (.str (Txt.join x ys))) else none
end M3
namespace M3
open PySem PySem.Spec PyProof.Rows L2
theorem units65 {k:Nat} {A:Around} {s0:Shared} {H0:Hp} {fs ex:List Addr} (r:RoomS k A s0 H0 fs ex):A.units+65<cLine:=by have:=r.un;omega
section
variable {P:P3} {pos:Pos}
def sFrz (i:Nat):SM:=fun u st=>match u[i]? with
 | some (some (.bor xs))=>.nx (u.set i (some (.val (.lst xs)))) st
 | _=>.bad
theorem Slo.frz {G:G3} {X:Hex} {B0 B:Addr→Prop} {s:S3} {u:Sl3} {z:L2.St} {i:Nat} {xs:List D} {st:Store} (h:Slo G X B0 B s u z) (b0:∀a,B0 a→B a) (wd:Wd G B st s) (e:u[i]?=some (some (.bor xs))) :
  ∃(B':Addr→Prop) (s':S3),s'.H=s.H∧(∀a,B0 a→B' a)∧Le B0 s s'∧Wd G B' st s'∧Slo G X B0 B' s' (u.set i (some (.val (.lst xs)))) z:=by
 obtain⟨hl,ow,h1,h2⟩:=h
 obtain⟨v,e1,⟨p,vs,rfl,bp,hp,rl⟩,q⟩:=h1 i _ e
 obtain⟨e3,nb⟩:=q rfl
 injection e3 with e3
 subst e3
 have wd':Wd G (plus (fun a=>B a∧a≠ow i) (ow i)) st s:=wd.less fun a z=>z.elim (fun z=>z.1) fun z=>z▸bp
 have nB:¬(fun a=>B a∧a≠ow i) (ow i):=fun z=>z.2 rfl
 have le:Le B0 s ⟨s.io,upd s.F (ow i) (.lst vs),s.H⟩:=⟨IoLe.refl _,same_upd (wd.hid (ow i) bp).1,fun _ _=>rfl⟩
 refine⟨fun a=>B a∧a≠ow i,⟨s.io,upd s.F (ow i) (.lst vs),s.H⟩,rfl,fun a q=>⟨b0 a q,fun z=>nb (z▸q)⟩,le,freeze_wd wd' nB hp,by simpa using hl,ow,fun j w ej=>?_,fun j k w w' o1 o2 q1 q2 q3=>?_⟩
 ·rcases get_set ej with⟨rfl,rfl⟩ | ⟨ne,ej⟩
  ·exact⟨.ref (ow i),e1,Rep.lst upd_same (rl.mono le.fr le.io),fun q'=>by cases q'⟩
  ·obtain⟨v,ev,rv,qv⟩:=h1 j w ej
   refine⟨v,ev,?_,qv⟩
   have away:w.own=true→∀p',v=.ref p'→p'≠ow i:=fun ow' p' e' z=>by
    obtain⟨e4,_⟩:=qv ow'
    rw[e'] at e4
    injection e4 with e4
    exact ne (h2 i j (.bor xs) w rfl ow' e ej (by rw[←e4,z]))
   cases w with
   | val d=>exact Rep.mono le.fr le.io rv
   | exn c x=>
    obtain⟨ax,dd,x1,x2,xf⟩:=rv
    exact⟨ax,dd,x1,x2,xf.mono le.io le.fr⟩
   | bor xs'=>
    obtain⟨p',vs',rfl,b',hp',rl'⟩:=rv
    exact⟨p',vs',rfl,⟨b',away rfl p' rfl⟩,hp',rl'.mono le.fr le.io⟩
   | bod ks us=>
    obtain⟨p',vs',rfl,b',hp',e',rl'⟩:=rv
    exact⟨p',vs',rfl,⟨b',away rfl p' rfl⟩,hp',e',rl'.mono le.fr le.io⟩
   | bdd ks us=>
    obtain⟨p',vs',rfl,b',hp',rl'⟩:=rv
    exact⟨p',vs',rfl,⟨b',away rfl p' rfl⟩,hp',rl'.mono le.fr le.io⟩
   | len ys=>
    obtain⟨p',vs',o,rfl,b',hp',rl'⟩:=rv
    exact⟨p',vs',o,rfl,⟨b',fun z=>by subst z;rw[hp] at hp';cases hp'⟩,hp',rl'.mono le.fr le.io⟩
 ·rcases get_set q1 with⟨_,z⟩ | ⟨_,q1⟩
  ·subst z;cases o1
  ·rcases get_set q2 with⟨_,z⟩ | ⟨_,q2⟩
   ·subst z;cases o2
   ·exact h2 j k w w' o1 o2 q1 q2 q3
def sAsg (m:EM) (g:GM):SM:=fun u st=>match m u st with
 | .ok (.val d) st'=>match g d u with
  | some u'=>.nx u' st'
  | none=>.bad
 | .ok _ _=>.bad
 | .err c x st'=>.err c x u st'
 | .bad=>.bad
def sPop (i:Nat):SM:=fun u st=>match u[i]? with
 | some (some (.bor xs))=>if xs.isEmpty=true then .bad else .nx (u.set i (some (.bor xs.dropLast))) st
 | _=>.bad
def W.tup? : W→Option (List D)
 | .val (.tup xs)=>some xs
 | _=>none
def cntF (xs:List D) (w:W):Option W:=w.rd.bind fun d=>match D.pys xs,d.py with
 | some ps,some p=>if SeqAt.shaped p=true∧SeqAt.shaped (.tuple ps)=true then some (.val (.int ((ps.countP fun z=>PyData.eqv z p:Nat):Int))) else none
 | _,_=>none
def eCnt (a b:EM):EM:=fun u=>M.bind (a u) fun x=>M.bind (M.of x.tup?) fun xs=>M.bind (b u) fun y=>M.of (cntF xs y)
end
end M3
namespace M3
open PySem PySem.Spec PyProof.Rows L2
section
variable {P:P3} {pos:Pos}
def sOwnD (i:Nat):SM:=fun u st=>.nx (u.set i (some (.bod [] []))) st
end
section
variable {P:P3} {pos:Pos} {a b:Expr} {ma mb:EM}
def dgF (x y:W):Option W:=x.dic.bind fun d=>match y with
 | .val k=>(dgetF d k).bind fun o=>o.map .val
 | _=>none
end
end M3
namespace M3
open PySem PySem.Spec PyProof.Rows L2
section
variable {G:G3} {X:Hex} {B:Addr→Prop} {s:S3} {st:Store}
theorem Wd.lt {k:Nat} {a:Addr} (w:Wd G B st s) (e:s.io k=some a):k<st.length:=w.dom k a e
def ioNew (io:Io) (n:Nat) (p:Addr):Io:=fun j=>if j=n then some p else io j
end
def insOf (w:W):M (Nat×String×List (Str×D)):=fun st=>match w with
 | .val (.ref k)=>match st[k]? with
  | some (.ins c fs)=>.ok (k,c,fs) st
  | _=>.bad
 | _=>.bad
def eFld (cs:List String) (f:Str) (m:EM):EM:=fun u=>M.bind (m u) fun w=>M.bind (insOf w) fun q=>M.bind (M.chk (q.2.1∈cs)) fun _=>M.bind (M.of (q.2.2.lookup f)) fun d=>M.pure (.val d)
section
variable {P:P3} {pos pos':Pos} {e o:Expr} {m mo:EM} {f:Str} {cs:List String}
def put3 (f:Str) (d:D):List (Str×D)→List (Str×D)
 | []=>[(f,d)]
 | (g,e) :: r=>if g=f then (g,d) :: r else (g,e) :: put3 f d r
def sFldS (cs:List String) (f:Str) (mo me:EM):SM:=fun u st=>match M.bind (me u) (fun w=>M.bind (M.of w.d) fun d=>M.bind (mo u) fun x=>M.bind (insOf x) fun q=>M.bind (M.chk (q.2.1∈cs∧q.2.2.length<500)) fun _=>fun st=>.ok () (st.set q.1 (.ins q.2.1 (put3 f d q.2.2)))) st with
 | .ok _ st'=>.nx u st'
 | .err c x st'=>.err c x u st'
 | .bad=>.bad
def eNewL (mf:FM):EM:=fun u st=>match mf u st with
 | .ok xs st'=>.ok (.val (.ref st'.length)) (st'++[.lst xs])
 | .err c x st'=>.err c x st'
 | .bad=>.bad
def mMake (c:String) (mf:List D→M D) (ds:List D):M W:=fun st=>match mf (.ref st.length :: ds) (st++[.ins c []]) with
 | .ok .non st'=>.ok (.val (.ref st.length)) st'
 | .ok _ _=>.bad
 | .err c x st'=>.err c x st'
 | .bad=>.bad
end
end M3
namespace M3
open PySem PySem.Spec PyProof.Rows L2
def eMk3 (c:String) (n:Nat) (dd:List D) (mf:List D→M D) (ma:AM):EM:=fun u=>M.bind (ma u) fun ws=>M.bind (M.of (asDs ws)) fun ds=>M.bind (M.chk (ds.length=n)) fun _=>mMake c mf (ds++dd)
section
variable {P:P3} {pos p apos:Pos} {x m:Str} {c:String} {e o:Expr} {es:List Expr} {ma:AM} {mo:EM} {mf:List D→M D} {dd:List D} {k j n:Nat}
def eMeth (m:Str) (n:Nat) (tab:List (String×(List D→M D))) (mo:EM) (ma:AM):EM:=fun u=>M.bind (mo u) fun w=>M.bind (insOf w) fun q=>M.bind (M.chk (q.2.2.lookup m=none)) fun _=>M.bind (M.of (tab.lookup q.2.1)) fun mf=>
 M.bind (ma u) fun ws=>M.bind (M.of (asDs ws)) fun ds=>M.bind (M.chk (ds.length=n)) fun _=>M.bind (mf (.ref q.1 :: ds)) fun d=>M.pure (.val d)
def eProp (c:String) (mf:List D→M D) (mo:EM):EM:=fun u=>M.bind (mo u) fun w=>M.bind (insOf w) fun q=>M.bind (M.chk (q.2.1=c)) fun _=>M.bind (M.quiet (mf [.ref q.1])) fun d=>M.pure (.val d)
end
end M3
namespace M3
open PySem PySem.Spec PyProof.Rows L2
def sRaise (c:String):SM:=fun u st=>.err c .non u st
section
variable {P:P3} {pos p p2 rpos:Pos}
def sBad:SM:=fun _ _=>.bad
def sTry0 (b:SM):SM:=fun u st=>match b u st with
 | .err _ _ _ _=>.bad
 | r=>r
theorem one {α:Type} {p:α→Prop} {a:α} (h:p a):∀c∈[a],p c:=fun c hc=>List.mem_singleton.mp hc▸h
end
def noExn:Sl3→Bool
 | []=>true
 | some (.exn _ _) :: _=>false
 | _ :: u=>noExn u
theorem noExn_at {c:String} {x:D}:∀{u:Sl3} {i:Nat},noExn u=true→u[i]?≠some (some (.exn c x))
 | [],i,_=>by simp
 | w :: u,0,h=>fun e=>by
  simp at e
  subst e
  cases h
 | w :: u,i+1,h=>fun e=>by
  refine noExn_at (u:=u) (i:=i) ?_ (by simpa using e)
  cases w with
  | none=>exact h
  | some w=>cases w <;> first | exact h | cases h
theorem Slo.hx {G:G3} {X X':Hex} {B0 B:Addr→Prop} {s:S3} {u:Sl3} {z:L2.St} (h:Slo G X B0 B s u z) (n:noExn u=true):Slo G X' B0 B s u z:=by
 obtain⟨hl,ow,h1,h2⟩:=h
 refine⟨hl,ow,fun i w e=>?_,h2⟩
 obtain⟨v,e1,r,q⟩:=h1 i w e
 refine⟨v,e1,?_,q⟩
 cases w with
 | exn c x=>exact absurd e (noExn_at n)
 | val d=>exact r
 | bor xs=>exact r
 | bod ks us=>exact r
 | bdd ks us=>exact r
 | len xs=>exact r
theorem Slo.exn {G:G3} {B0 B:Addr→Prop} {s:S3} {u:Sl3} {z:L2.St} {a:Addr} {c:String} {x:D} {dd:Option Addr} (h:Slo G (some (a,c,x,dd)) B0 B s u z) (xf:XFld G s c x dd) (i:Nat):Slo G (some (a,c,x,dd)) B0 B s (u.set i (some (.exn c x))) (z.set i (some (.ref a))):=by
 obtain⟨hl,ow,h1,h2⟩:=h
 refine⟨by simpa using hl,ow,fun j w e=>?_,fun j k w w' o1 o2 e1 e2 e=>?_⟩
 ·rcases get_set e with⟨rfl,rfl⟩ | ⟨ne,e⟩
  ·have hi:i<u.length:=by
    rcases Nat.lt_or_ge i u.length with q | q
    ·exact q
    ·rw[List.getElem?_eq_none (by simpa using q)] at e;cases e
   exact⟨.ref a,by rw[List.getElem?_set_self (by omega)],⟨a,dd,rfl,rfl,xf⟩,fun q=>by cases q⟩
  ·obtain⟨v',e1,r',q⟩:=h1 j w e
   exact⟨v',by rw[List.getElem?_set_ne ne];exact e1,r',q⟩
 ·rcases get_set e1 with⟨_,q⟩ | ⟨_,e1⟩
  ·subst q;cases o1
  ·rcases get_set e2 with⟨_,q⟩ | ⟨_,e2⟩
   ·subst q;cases o2
   ·exact h2 j k w w' o1 o2 e1 e2 e
abbrev P3.tr (P:P3) (pn:List (Addr×Obj)) (xe:Value→Shared→Prop) (W:WX):P3:=⟨P.X.tr pn xe,P.G,P.hx,W,P.hK,P.hw⟩
def sSuite (i:Option Nat) (ms:SM) (c:String) (x:D) (u:Sl3) (st:Store):SRes:=
 let put:=fun u:Sl3=>match i with | some i=>u.set i (some (.exn c x)) | none=>u
 let gone:=fun u:Sl3=>match i with | some i=>u.set i none | none=>u
 match ms (put u) st with
 | .nx u2 st2=>if noExn (gone u2)=true then .nx (gone u2) st2 else .bad
 | .bk u2 st2=>if noExn (gone u2)=true then .bk (gone u2) st2 else .bad
 | .ct u2 st2=>if noExn (gone u2)=true then .ct (gone u2) st2 else .bad
 | .rt w st2=>.rt w st2
 | _=>.bad
def sTry (i:Option Nat) (sub:String→Option Bool) (mb ms:SM):SM:=fun u st=>match mb u st with
 | .err c x u' st'=>match sub c with
  | some true=>if noExn u'=true then sSuite i ms c x u' st' else .bad
  | some false=>.err c x u' st'
  | none=>.bad
 | r=>r
def eIsE (i:Nat) (tab:String→Option Bool):EM:=fun u st=>match u[i]? with
 | some (some (.exn c _))=>match tab c with
  | some b=>.ok (.val (.bl b)) st
  | none=>.bad
 | _=>.bad
section
variable {P:P3} {pos p p1 p2:Pos}
def eXf (i:Nat) (cs:List String):EM:=fun u st=>match u[i]? with
 | some (some (.exn c x))=>if c∈cs then .ok (.val x) st else .bad
 | _=>.bad
end
end M3
namespace M3
open PySem PySem.Spec PyProof.Rows L2
def ddAt:List D→List D→NestedKey→Option D
 | k :: ks,d :: ds,x=>if k.tk=some x then some d else ddAt ks ds x
 | _,_,_=>none
def ddSet:List D→List D→NestedKey→D→List D
 | k :: ks,d :: ds,x,y=>(if k.tk=some x then y else d) :: ddSet ks ds x y
 | _,ds,_,_=>ds
def ddHas (ks:List D) (x:NestedKey):Bool:=ks.any fun k=>decide (k.tk=some x)
def ddPut (ks us:List D) (kd:D) (x:NestedKey) (d:D):List D×List D:=if ddHas ks x=true then (ks,ddSet ks us x d) else (ks++[kd],us++[d])
def RdD (H:Hp) (a:Addr) (u:HO):Prop:=H a=some u∨(∃o,H a=some (.frz o u))∨∃o,H a=some (.frz o (.frz o u))
theorem RdD.ok {P:Program} {w:World} {H:Hp} {h:Heap} {a:Addr} {u:HO} (r:RdD H a u) (x:HOk P w H h):ObjOk P w H h a u:=by
 rcases r with r | ⟨o,r⟩ | ⟨o,r⟩
 ·exact x a u r
 ·exact(x a _ r).2
 ·exact(x a _ r).2.2
def ddOf (w:W):M (List D×List D):=fun st=>match w with
 | .val (.dd ks us)=>.ok (ks,us) st
 | .bdd ks us=>.ok (ks,us) st
 | .val (.ref k)=>match st[k]? with
  | some (.ddi ks us)=>.ok (ks,us) st
  | some (.rdd ks us)=>.ok (ks,us) st
  | _=>.bad
 | _=>.bad
def eInDD (neg:Bool) (mk md:EM):EM:=fun u=>M.bind (mk u) fun k=>M.bind (md u) fun d=>M.bind (M.of k.d) fun kd=>M.bind (M.of kd.tk) fun x=>M.bind (ddOf d) fun q=>M.pure (.val (.bl (if neg then !ddHas q.1 x else ddHas q.1 x)))
def eGetDD (md mk:EM):EM:=fun u=>M.bind (md u) fun d=>M.bind (mk u) fun k=>M.bind (M.of k.d) fun kd=>M.bind (M.of kd.tk) fun x=>M.bind (ddOf d) fun q=>M.bind (M.of (ddAt q.1 q.2 x)) fun y=>M.pure (.val y)
end M3
namespace M3
open PySem PySem.Spec PyProof.Rows L2
def iKeysDD (m:EM):FM:=fun u=>M.bind (m u) fun w=>match w with
 | .val (.dd ks _)=>M.pure ks
 | _=>M.bad
def sOwnDD (i:Nat):SM:=fun u st=>.nx (u.set i (some (.bdd [] []))) st
def eNewDD:EM:=fun _ st=>.ok (.val (.ref st.length)) (st++[.ddi [] []])
end M3
namespace M3
open PySem PySem.Spec PyProof.Rows L2
end M3
namespace M3
open PySem PySem.Spec PyProof.Rows L2
def dcL (g:GM) (c:TM) (ek ev:EM) (u0:Sl3):List D→List D→List D→M (List D×List D)
 | [],ks,us=>M.pure (ks,us)
 | d :: ds,ks,us=>M.bind (M.of (g d u0)) fun u1=>M.bind (M.quiet (c u1)) fun b=>
  if b=true then M.bind (M.quiet (ek u1)) fun kw=>M.bind (M.quiet (ev u1)) fun vw=>M.bind (M.of kw.d) fun k=>M.bind (M.of vw.d) fun v=>M.bind (M.of k.tk) fun x=>M.bind (M.chk (ks.length<1000000)) fun _=>
   dcL g c ek ev u0 ds (ddPut ks us k x v).1 (ddPut ks us k x v).2
  else dcL g c ek ev u0 ds ks us
def eDc (mi:FM) (g:GM) (c:TM) (ek ev:EM) (own:List Nat):EM:=fun u=>M.bind (mi u) fun ds=>M.bind (dcL g c ek ev (wipe3 u own) ds [] []) fun q=>M.pure (.val (.dd q.1 q.2))
end M3
namespace M3
open PySem PySem.Spec PyProof.Rows L2
section
variable {P:P3} {pos p kpos:Pos} {x:Str} {e:Expr} {es:List Expr} {kws:List Keyword} {m:EM} {ma mk:AM} {nm:Option Str}
def eCallK (n m N:Nat) (arr:List D→List D→List D) (mf:List D→M D) (ma mk:AM):EM:=fun u=>M.bind (ma u) fun ws=>M.bind (mk u) fun zs=>M.bind (M.of (asDs ws)) fun ds=>M.bind (M.of (asDs zs)) fun es=>M.bind (M.chk (ds.length=n∧es.length=m∧(arr ds es).length=N)) fun _=>
 M.bind (mf (arr ds es)) fun d=>M.pure (.val d)
def eMkK (c:String) (n m:Nat) (arr:List D→List D→List D) (mf:List D→M D) (ma mk:AM):EM:=fun u=>M.bind (ma u) fun ws=>M.bind (mk u) fun zs=>M.bind (M.of (asDs ws)) fun ds=>M.bind (M.of (asDs zs)) fun es=>M.bind (M.chk (ds.length=n∧es.length=m)) fun _=>mMake c mf (arr ds es)
def ddOw (w:W):M (List D×List D):=fun st=>match w with
 | .val (.ref k)=>match st[k]? with
  | some (.ddi ks us)=>.ok (ks,us) st
  | _=>.bad
 | _=>.bad
def sSetDS (mo mi me:EM):SM:=fun u st=>match M.bind (me u) (fun w=>M.bind (M.of w.d) fun d=>M.bind (mo u) fun ow=>M.bind (mi u) fun k=>M.bind (M.of k.d) fun kd=>M.bind (M.of kd.tk) fun x=>M.bind (ddOw ow) fun q=>M.bind (M.chk (q.1.length<1000000)) fun _=>fun st=>match ow with
  | .val (.ref j)=>.ok () (st.set j (.ddi (ddPut q.1 q.2 kd x d).1 (ddPut q.1 q.2 kd x d).2))
  | _=>.bad) st with
 | .ok _ st'=>.nx u st'
 | .err c x st'=>.err c x u st'
 | .bad=>.bad
end
section
variable {P:P3}
def isi2F:List W→Option W
 | [.val (.dd _ _),.val (.ty T)]=>(kitB "dict" T).map fun b=>.val (.bl b)
 | ws=>isiF ws
theorem cm_isi2:CallM P (.builtin "isinstance") isi2F:=by
 obtain⟨r,hr,hq⟩:=cm_isi (P:=P)
 refine⟨fun vs H Q=>r vs H Q∨∃p T b xs,vs=[.ref p,.ty T]∧RdD H p (DkO P.X.w p xs)∧kitB "dict" T=some b∧Q (.bl b) H,?_,fun B s st ws w vs Q wd rs e k=>?_⟩
 ·rintro pins s σ H vs us Q I rv (h | ⟨p,T,b,xs,rfl,hp,e,q⟩)
  ·exact hr pins s σ H vs us Q I rv h
  ·obtain⟨u1,u2,rfl,r1,r2⟩:=vals2 rv
   cases (show u1=Value.ref p from r1)
   cases (show u2=Value.type T from r2)
   obtain⟨⟨h1,h2,h3,o,es,ep,g1,g2,g3,g4⟩,_,_⟩:=hp.ok I.hok
   exact PySem.W.kia_one PySem.W.kitx_dict I.kIn ⟨o,g1,g2.1⟩ (kit_ty e) (fun z=>nomatch z) fun tk=>⟨.bl b,H,I.tok tk,rfl,q⟩
 ·unfold isi2F at e
  split at e
  ·rename_i ks us T
   cases rs with
   | cons r1 rs=>
    cases rs with
    | cons r2 rs=>
     cases rs
     cases r2
     cases h3:kitB "dict" T with
     | none=>rw[h3] at e;cases e
     | some b=>
      rw[h3] at e
      cases e
      cases r1 with
      | dd hF hk ht hv hrr=>exact .inr ⟨_,_,b,_,rfl,by rw[P.hw];exact .inr (.inl ⟨_,wd.sub _ _ hF⟩),h3,k s _ (Le.refl _) wd .bl⟩
  ·exact .inl (hq B s st ws w vs Q wd rs e k)
end
end M3
namespace M3
open PySem PySem.Spec PyProof.Rows L2
end M3
namespace PySem
open Sem (wp)
def LsAt (h:Heap) (a:Addr) (xs:List Value):Prop:=∃n,h.get? a=some { cls:=.type "list",data:=.seq xs.toArray n }
theorem LsAt.lt {h:Heap} {a:Addr} {xs:List Value} (l:LsAt h a xs):a<h.objs.size:=by obtain⟨n,e⟩:=l;exact Heap.lt_size e
def Kept2 (I S:Addr) (h h':Heap):Prop:=∀b o,b≠I→b≠S→h.get? b=some o→h'.get? b=some o
section
variable {prog:Program} {w:World} {A:Around} {R:Result→Shared→Prop} {I S ax:Addr} {refs:List Addr} {segs:List (List Value)}
theorem sum_lists_loop (hIS:I≠S) (haI:ax≠I) (haS:ax≠S) (base:Nat) (hlen:refs.length=segs.length) (hz:(segs.map (·.length)).sum≤1000000) :
  ∀(k i:Nat) (s:Shared) (T:Addr) (c:Nat) (acc:List Value),segs.length - i=k→i≤segs.length→base≤s.heap.objs.size→s.heap.IsListIter I ax i→s.heap.IsList ax (refs.map Value.ref).toArray→
   (∀(j:Nat) (b:Addr) (xs:List Value),refs[j]?=some b→segs[j]?=some xs→b≠I∧b≠S∧LsAt s.heap b xs)→
   s.heap.get? S=some { cls:=.type "list",data:=.seq #[.ref T] c }→T≠I→T≠S→LsAt s.heap T acc→acc.length≤((segs.take i).map (·.length)).sum→(i=0∨base≤T)→M3.CoolBut2 A s.heap I S→
   (∀(s':Shared) (T':Addr),Kept2 I S s.heap s'.heap→s'={ s with heap:=s'.heap,toks:=s'.toks }→LsAt s'.heap T' (acc++(segs.drop i).flatten)→(T'=T∨base≤T')→(i<segs.length→base≤T')→R (.ok (.ret (.ref T'))) s')→
   codeAny (model prog w) A (.builtin "sum.loop" ⟨[.ref I,.ref S,rawInt 2,rawInt 0],[]⟩) R s:=by
 intro k
 induction k with
 | zero=>
  intro i s T c acc hk hi hb hit hl hs hS hTI hTS hT ha hbT hh hR
  have hin:i=segs.length:=by omega
  apply codeAny_builtin F.entry_sum_loop;rw[Around.under_plainId F.plain_sum_loop];change wpAny _ A.in1 (seqItems? (.ref S) >>= _) _ _ s
  apply wpAny_bind;apply wpAny_seqItems hS rfl;change wpAny _ A.in1 (tryCatch (pyNext (.ref I)) _ >>= _) _ _ s
  refine wpAny_bind (wpAny_tryCatch (M3.listStop (A:=A.in1) (M3.CoolBut2.but hh) hit hl (by simp[hlen,hin]) fun h' eb=>?_))
  refine wpAny_pure (hR { s with heap:=h' } T (fun b o b1 b2 e=>eb b o b1 e) rfl ?_ (.inl rfl) (by omega))
  obtain⟨n,e⟩:=hT
  rw[List.drop_eq_nil_of_le (by omega)]
  exact⟨n,by simpa using eb T _ hTI e⟩
 | succ k ih=>
  intro i s T c acc hk hi hb hit hl hs hS hTI hTS hT ha hbT hh hR
  have hlt:i<segs.length:=by omega
  have hlr:i<refs.length:=by omega
  have hx:(refs.map Value.ref).toArray[i]?=some (.ref refs[i]):=by simp[hlr]
  obtain⟨rI,rS,hr⟩:=hs i refs[i] segs[i] (List.getElem?_eq_getElem hlr) (List.getElem?_eq_getElem hlt)
  have hsum:((segs.take (i+1)).map (·.length)).sum=((segs.take i).map (·.length)).sum+segs[i].length:=by
   rw[List.take_succ_eq_append_getElem hlt,List.map_append,List.sum_append,List.map_singleton,List.sum_singleton]
  have hle:((segs.take (i+1)).map (·.length)).sum≤(segs.map (·.length)).sum:=by
   conv=>rhs;rw[←List.take_append_drop (i+1) segs]
   rw[List.map_append,List.sum_append];omega
  apply codeAny_builtin F.entry_sum_loop;rw[Around.under_plainId F.plain_sum_loop];change wpAny _ A.in1 (seqItems? (.ref S) >>= _) _ _ s
  apply wpAny_bind;apply wpAny_seqItems hS rfl;change wpAny _ A.in1 (tryCatch (pyNext (.ref I)) _ >>= _) _ _ s
  refine wpAny_bind (wpAny_tryCatch (wpAny_pyNext_list_item (A:=A.in1) hit hl hx fun h' hit' sb=>?_))
  show wpAny _ A.in1 ((holding [Value.ref refs[i]] (binaryOp .Add (.ref T) (.ref refs[i]))).attempt >>= _) _ _ _
  have kp:∀b o,b≠I→s.heap.get? b=some o→h'.get? b=some o:=fun b o hb e=>(sb.2 b hb).trans e
  obtain⟨nT,eT⟩:=hT
  obtain⟨nr,er⟩:=hr
  refine wpAny_bind (wpAny_attempt (wpAny_holding (PySem.P.add_list (s:={ s with heap:=h' }) (kp _ _ hTI eT) (kp _ _ rI er) ?_ (by simp only[List.size_toArray];rw[sizeLine_eq];omega))))
  have ht':h'.objs.size=s.heap.objs.size:=sb.1
  have sI:S≠I:=fun z=>hIS z.symm
  have hS1:(h'.push { cls:=.type "list",data:=.seq (acc.toArray++segs[i].toArray) }).get? S=some { cls:=.type "list",data:=.seq #[.ref T] c }:=Heap.get?_push_of_some _ (kp _ _ sI hS)
  show wpAny _ A.in1 (updateSeq S (fun _=>#[.ref h'.objs.size]) >>= _) _ _ _
  refine wpAny_bind (wpAny_updateSeq hS1 rfl ?_)
  have hS2:=Heap.get?_update_self (Obj.mapSeq fun _=>#[Value.ref h'.objs.size]) hS1 rfl
  apply wpAny_bind;apply wpAny_letGo
  have up:∀{h:Heap} {f:Obj→Obj} {b:Addr} {o:Obj},b≠S→h.get? b=some o→(h.update S f).get? b=some o:=fun {h f b o} hb e=>(Heap.get?_update_other _ _ (Ne.symm hb)).trans e
  have k1:∀b o,b≠S→h'.get? b=some o→(((h'.push { cls:=.type "list",data:=.seq (acc.toArray++segs[i].toArray) }).update S (Obj.mapSeq fun _=>#[Value.ref h'.objs.size])).update S (Obj.mapSeq fun _=>#[Value.ref h'.objs.size])).get? b=some o:=
   fun b o hb e=>up hb (up hb (Heap.get?_push_of_some _ e))
  have nS:h'.objs.size≠S:=Nat.ne_of_gt (Heap.lt_size (kp _ _ sI hS))
  have nI:h'.objs.size≠I:=by
   obtain⟨o,e,_⟩:=id hit'
   exact Nat.ne_of_gt (Heap.lt_size e)
  have kN:=up (f:=Obj.mapSeq fun _=>#[Value.ref h'.objs.size]) nS (up (f:=Obj.mapSeq fun _=>#[Value.ref h'.objs.size]) nS (Heap.get?_push_size h' (o:={ cls:=.type "list",data:=.seq (acc.toArray++segs[i].toArray) }) rfl))
  have sz:=Heap.lt_size kN
  refine wpAny_bind (wpAny_updateSeq hS2 rfl (wpAny_pure ⟨plainId_quiet F.plain_sum_loop _,ih (i+1) _ h'.objs.size _ (acc++segs[i]) (by omega) hlt (Nat.le_trans (by rw[ht'];exact hb) (Nat.le_of_lt sz)) (hit'.at fun o e=>k1 _ _ hIS e) (hl.at fun o e=>k1 _ _ haS (kp _ _ haI e))
   (fun j b xs e1 e2=>?_) (Heap.get?_update_self _ hS2 rfl) nI nS ⟨_,by rw[←List.append_toArray];exact kN⟩ (by rw[List.length_append,hsum];omega) (.inr (by rw[ht'];exact hb)) (hh.keep fun b o b1 b2 e=>k1 _ _ b2 (kp _ _ b1 e)) fun s' T' q1 q2 q3 q4 q5=>?_⟩))
  ·obtain⟨z1,z2,n,z3⟩:=hs j b xs e1 e2
   exact⟨z1,z2,n,k1 _ _ z2 (kp _ _ z1 z3)⟩
  ·refine hR s' T' (fun b o b1 b2 e=>q1 b o b1 b2 (k1 _ _ b2 (kp _ _ b1 e))) q2 ?_ (.inr ?_) fun _=>?_
   ·rw[List.drop_eq_getElem_cons hlt,List.flatten_cons,←List.append_assoc];exact q3
   ·rcases q4 with z | z
    ·rw[z,ht'];exact hb
    ·exact z
   ·rcases q4 with z | z
    ·rw[z,ht'];exact hb
    ·exact z
end
section
variable {prog:Program} {w:World} {A:Around} {E:Value→Shared→Prop} {s:Shared} {ax st:Addr} {refs:List Addr} {segs:List (List Value)} {acc:List Value} {Q:Value→Shared→Prop}
theorem args_sum2 (a b:Value):argsOk "sum" ⟨[a,b],[]⟩:=by unfold argsOk;kernel_rfl
theorem call_sum_lists (hh:M3.CoolAt A s.heap) (hl:s.heap.IsList ax (refs.map Value.ref).toArray) (hlen:refs.length=segs.length) (hz:(segs.map (·.length)).sum≤1000000)
  (hs:∀(j:Nat) (b:Addr) (xs:List Value),refs[j]?=some b→segs[j]?=some xs→LsAt s.heap b xs) (hst:LsAt s.heap st [])
  (h:∀(s':Shared) (T:Addr),(∀b o,s.heap.get? b=some o→s'.heap.get? b=some o)→s'={ s with heap:=s'.heap,toks:=s'.toks }→LsAt s'.heap T segs.flatten→(T=st∧segs=[]∨s.heap.objs.size≤T)→Q (.ref T) s') :
  wpAny (model prog w) A (call (.builtin "sum") [.ref ax,.ref st]) Q E s:=by
 refine call_function_tree F.kind_sum F.plain_sum F.entry_sum (args_sum2 _ _) ?_
 unfold Builtin.«sum»
 simp only[List.length_nil,List.length_cons,show ¬(0+1+1+0 > 2) by decide,if_false]
 refine wpAny_bind (wpAny_of_eq (show Builtin.Builtins.bindParams "sum" ["start"] 0 ⟨[.ref st],[]⟩=pure [some (.ref st)] from rfl) ?_)
 refine wpAny_bind (L2.iter_any hl fun s₂ e2 hit hne=>?_)
 apply wpAny_bind;apply wpAny_pure
 have hst2:LsAt s₂.heap st []:=by
  obtain⟨n,e⟩:=hst
  exact⟨n,by rw[e2];exact Heap.get?_push_of_some _ e⟩
 have ty:s₂.TypeIs (.ref st) "list":=by
  obtain⟨n,e⟩:=hst2
  exact⟨_,e,rfl⟩
 simp only[List.forIn_nil,List.forIn_cons]
 refine wpAny_bind (wpAny_bind (wpAny_bind (wpAny_isInstance (T:="list") (b:=false) ty F.sub_list_str ?_)))
 rw[if_neg (Bool.false_ne_true ·)]
 refine wpAny_pure (wpAny_bind (wpAny_bind (wpAny_isInstance (T:="list") (b:=false) ty F.sub_list_bytes ?_)))
 rw[if_neg (Bool.false_ne_true ·)]
 refine wpAny_pure (wpAny_bind (wpAny_bind (wpAny_isInstance (T:="list") (b:=false) ty F.sub_list_bytearray ?_)))
 rw[if_neg (Bool.false_ne_true ·)]
 apply wpAny_pure;apply wpAny_pure;refine wpAny_bind <| wpAny_newObj_type ?_
 have e2':s₂.heap=s.heap.push { cls:=.type "list_iterator",data:=.fields #[.ref ax,.int 0 0] }:=by rw[e2]
 have z2:s₂.heap.objs.size=s.heap.objs.size+1:=by rw[e2',Heap.size_push]
 have k2:∀{b:Addr} {o:Obj},s.heap.get? b=some o→s₂.heap.get? b=some o:=fun {b o} e=>by rw[e2'];exact Heap.get?_push_of_some _ e
 have hax:ax<s.heap.objs.size:=by
  obtain⟨o,e,_⟩:=hl
  exact Heap.lt_size e
 have lt2:∀{b:Addr},b<s.heap.objs.size→b≠s₂.heap.objs.size:=fun {b} hb=>Nat.ne_of_lt (by rw[z2];exact Nat.lt_succ_of_lt hb)
 refine wpAny_pure ⟨plainId_quiet F.plain_sum_loop _,sum_lists_loop (A:=A) (I:=s.heap.objs.size) (S:=s₂.heap.objs.size) (Nat.ne_of_lt (by rw[z2];exact Nat.lt_succ_self _)) hne (lt2 hax) s.heap.objs.size hlen hz segs.length 0 _ st 0 [] rfl (Nat.zero_le _)
  ?_ (hit.1.at fun o e=>Heap.get?_push_of_some _ e) (hit.2.at fun o e=>Heap.get?_push_of_some _ e) (fun j b xs e1 e3=>?_) (Heap.get?_push_size _ rfl) (Nat.ne_of_lt hst.lt) (lt2 hst.lt) ?_ (Nat.zero_le _) (.inl rfl) (hh.but2 (Nat.le_refl _) (by rw[z2];exact Nat.le_succ _) fun b o e=>Heap.get?_push_of_some _ (k2 e)) fun s' T' q1 q2 q3 q4 q5=>?_⟩
 ·show s.heap.objs.size≤(s₂.heap.push _).objs.size
  rw[Heap.size_push,z2]
  exact Nat.le_trans (Nat.le_succ _) (Nat.le_succ _)
 ·have lb:=hs j b xs e1 e3
  obtain⟨n,e⟩:=lb
  exact⟨Nat.ne_of_lt (Heap.lt_size e),lt2 (Heap.lt_size e),n,Heap.get?_push_of_some _ (k2 e)⟩
 ·obtain⟨n,e⟩:=hst2
  exact⟨n,Heap.get?_push_of_some _ e⟩
 ·refine h s' T' (fun b o e=>q1 b o (Nat.ne_of_lt (Heap.lt_size e)) (lt2 (Heap.lt_size e)) (Heap.get?_push_of_some _ (k2 e))) ?_ (by simpa using q3) ?_
  ·rw[q2,e2]
  ·rcases q4 with z | z
   ·cases hsg:segs with
    | nil=>exact .inl ⟨z,rfl⟩
    | cons a l=>exact .inr (q5 (by rw[hsg];exact Nat.succ_pos _))
   ·exact .inr z
end
end PySem
namespace M3
open PySem PySem.Spec PyProof.Rows L2
section
variable {X:Cx} {s:Shared} {H:Hp} {σ:L2.St} {pins:List (Addr×Obj)}
theorem vals_refs:∀(bs:List Addr) {its:List Value},Vals (bs.map V.ref) its→its=bs.map Value.ref
 | [],_,r=>by cases r;rfl
 | b :: bs,_,r=>by
  rw[List.map_cons] at r
  cases r with
  | cons r t=>cases r;rw[vals_refs bs t];rfl
theorem segs_of (I:Inv X pins σ H s):∀(bs:List Addr) (zs:List (List V)),bs.length=zs.length→(∀(j:Nat) (b:Addr) (z:List V),bs[j]?=some b→zs[j]?=some z→H b=some (.lst z))→
  ∃segs:List (List Value),bs.length=segs.length∧(∀(j:Nat) (b:Addr) (xs:List Value),bs[j]?=some b→segs[j]?=some xs→LsAt s.heap b xs)∧Vals zs.flatten segs.flatten∧(segs.map (·.length)).sum=(zs.map (·.length)).sum
 | [],[],_,_=>⟨[],rfl,fun j b xs e=>by simp at e,.nil,rfl⟩
 | b :: bs,z :: zs,hl,h=>by
  obtain⟨segs,e1,e2,e3,e4⟩:=segs_of I bs zs (by simpa using hl) fun j b z q1 q2=>h (j+1) b z (by simpa using q1) (by simpa using q2)
  obtain⟨_,its,n,r,hl2,e⟩:=I.lstM (h 0 b z rfl rfl)
  refine⟨its :: segs,by simp[e1],fun j b' xs q1 q2=>?_,?_,by simp[e4,hl2]⟩
  ·cases j with
   | zero=>simp at q1 q2;subst q1 q2;exact⟨n,e⟩
   | succ j=>exact e2 j b' xs (by simpa using q1) (by simpa using q2)
  ·rw[List.flatten_cons,List.flatten_cons]
   exact r.append e3
def rSumL (K:PySem.W.Frag):List V→Hp→VK→Prop:=fun xs H Q=>∃(a st:Addr) (bs:List Addr) (zs:List (List V)),xs=[.ref a,.ref st]∧SqL K H a (bs.map V.ref)∧bs.length=zs.length∧(∀(j:Nat) (b:Addr) (z:List V),bs[j]?=some b→zs[j]?=some z→H b=some (.lst z))∧
 H st=some (.lst [])∧(zs.map (·.length)).sum≤1000000∧(zs=[]→Q (.ref st) H)∧(∀p,H p=none→Q (.ref p) (upd H p (.lst zs.flatten)))
theorem call_sumL (hc:Cool X):CallR X (.builtin "sum") (rSumL X.K):=by
 rintro pins s σ H _ us Q I r ⟨a,sa,bs,zs,rfl,hq,hl,hb,hst,hz,q0,q1⟩
 cases r with
 | cons r1 r=>
  cases r with
  | cons r2 r=>
   cases r
   cases r1
   cases r2
   obtain⟨its,rv,pl,_⟩:=I.list hq
   obtain⟨segs,e1,e2,e3,e4⟩:=segs_of I bs zs hl hb
   obtain⟨_,its0,n0,r0,hl0,e0⟩:=I.lstM hst
   cases r0
   have hi:its=bs.map Value.ref:=vals_refs bs rv
   have isl:s.heap.IsList a (bs.map Value.ref).toArray:=by rw[←hi];exact pl.isList
   refine call_sum_lists (hc.at I) isl e1 (by rw[e4];exact hz) e2 ⟨n0,e0⟩ fun s' T k es lt hT=>?_
   obtain⟨m,eT⟩:=lt
   rw[es]
   rcases hT with⟨z,hsg⟩ | hT
   ·subst z
    refine⟨V.ref _,H,I.kept k,rfl,q0 ?_⟩
    cases zs with
    | nil=>rfl
    | cons z zs=>rw[hsg] at e1;rw[e1] at hl;cases hl
   ·refine⟨.ref T,_,I.laid (o:=.lst zs.flatten) k hT ⟨?_,segs.flatten,m,e3,eT⟩,rfl,q1 T (I.hok.fresh hT)⟩
    rw[List.length_flatten]
    exact szL hz
end
def D.lists:List D→Option (List (List D))
 | []=>some []
 | .lst xs :: ds=>(D.lists ds).map (xs :: ·)
 | _ :: _=>none
theorem lists_ok {K:KW} {F:Hp} {io:Io}:∀{ds:List D} {vs:List V} {xss:List (List D)},RepL K F io ds vs→D.lists ds=some xss→
  ∃(bs:List Addr) (zs:List (List V)),vs=bs.map V.ref∧bs.length=zs.length∧(∀(j:Nat) (b:Addr) (z:List V),bs[j]?=some b→zs[j]?=some z→F b=some (.lst z))∧RepL K F io xss.flatten zs.flatten∧(zs.map (·.length)).sum=xss.flatten.length∧xss.length=zs.length
 | [],_,_,.nil,e=>by
  unfold D.lists at e
  cases e
  exact⟨[],[],rfl,rfl,fun j b z q=>by simp at q,.nil,rfl,rfl⟩
 | d :: ds,_,xss,.cons r t,e=>by
  cases d with
  | lst xs=>
   unfold D.lists at e
   cases h:D.lists ds with
   | none=>rw[h] at e;cases e
   | some yss=>
    rw[h] at e
    cases e
    obtain⟨bs,zs,h1,h2,h3,h4,h5,h6⟩:=lists_ok t h
    cases r with
    | @lst _ vs p hp rl=>
     refine⟨p :: bs,vs :: zs,by rw[h1];rfl,by simp[h2],fun j b z q1 q2=>?_,?_,?_,by simp[h6]⟩
     ·cases j with
      | zero=>simp at q1 q2;subst q1 q2;exact hp
      | succ j=>exact h3 j b z (by simpa using q1) (by simpa using q2)
     ·rw[List.flatten_cons,List.flatten_cons];exact rl.append h4
     ·rw[List.flatten_cons,List.length_append,List.map_cons,List.sum_cons,h5,rl.length]
  | _=>unfold D.lists at e;cases e
def sumLF:List W→Option W
 | [.val (.lst ds),.val (.lst [])]=>(D.lists ds).bind fun xss=>if xss.flatten.length≤1000000 then some (.val (.lst xss.flatten)) else none
 | _=>none
theorem cm_sumL {P:P3} (hc:Cool P.X):CallM P (.builtin "sum") sumLF:=by
 refine⟨_,call_sumL hc,fun B s st ws w vs Q wd r e k=>?_⟩
 unfold sumLF at e
 split at e
 ·rename_i ds
  cases h:D.lists ds with
  | none=>rw[h] at e;cases e
  | some xss=>
   rw[h,Option.bind_some] at e
   split at e
   ·rename_i hz
    cases e
    cases r with
    | cons r1 r=>
     cases r with
     | cons r2 r=>
      cases r
      cases r1 with
      | lst h1 rl1=>
       cases r2 with
       | lst h2 rl2=>
        cases rl2
        obtain⟨bs,zs,rfl,e2,e3,e4,e5,e6⟩:=lists_ok rl1 h
        refine⟨_,_,bs,zs,rfl,.inl (.inl (wd.sub _ _ h1)),e2,fun j b z q1 q2=>wd.sub _ _ (e3 j b z q1 q2),wd.sub _ _ h2,by rw[e5];exact hz,fun hzs=>?_,fun p hp=>?_⟩
        ·have:xss=[]:=by
          cases xss with
          | nil=>rfl
          | cons a l=>rw[hzs] at e6;cases e6
         subst this
         exact k s _ (Le.refl _) wd (.lst h2 .nil)
        ·obtain⟨wd2,l2⟩:=wd.froz hp (.lst zs.flatten)
         exact k _ _ l2 wd2 (.lst upd_same (e4.mono l2.fr l2.io))
   ·cases e
 ·cases e
end M3
namespace PySem
open Sem (wp)
def newTexts:List Str→List Str→Nat
 | _,[]=>0
 | acc,x :: xs=>(if x∈acc then 0 else 1)+newTexts (acc++[x]) xs
end PySem
namespace M3
open PySem PySem.Spec PyProof.Rows L2
def lenSetF (w:W):Option W:=w.ls.bind fun ds=>(D.strs ds).bind fun xs=>if xs.length≤1000 then some (.val (.int (newTexts [] xs))) else none
def eLenSet (m:EM):EM:=fun u=>M.bind (m u) fun w=>M.of (lenSetF w)
end M3
namespace M3
open PySem PySem.W PySem.Calls PyProof.Rows
theorem weight_mem {n:Int}:∀{ns:List Int},n∈ns→(if n == 0 then 0 else n.natAbs.log2+1)≤WData.weightAll (ns.map WData.int)
 | m :: ns,h=>by
  rw[List.map_cons,WData.weightAll,WData.weight]
  rcases List.mem_cons.mp h with e | h
  ·rw[←e];omega
  ·have:=weight_mem h;omega
theorem bits_of {ns:List Int} (h:WData.layableAll [WData.list (ns.map WData.int)]=true):∀n∈ns,n.natAbs.log2≤1048576:=by
 intro n hn
 have h1:(WData.list (ns.map WData.int)).layable=true:=by simpa[WData.layableAll] using h
 have h2:=(layableW_iff.mp h1).2.2
 rw[WData.weight] at h2
 have h3:=weight_mem hn
 by_cases z:n=0
 ·subst z;decide
 ·rw[if_neg (by simpa using z)] at h3;omega
theorem walk3 {l:OpenLaw} {n k:Nat} {q:Program} {loose:List Str} {XP:(Str→Option Value)→Heap→Prop} {YP:World→Heap→Prop} {d:DefRec} {K:Params→Frag} {x:Str} {m:List D→M D}
  (hn:l.most=some n) (hn2:n≤sizeLine) (hdf:d.params.defaults=[]) (hr:L2.Room k callerA) (hY:∀(w:World) (h:Heap),YP w h→(K w.params).In h)
  (F:∀(w:World) (mg:Str→Option Value) (fa:Addr) (h:Heap),(K w.params).In h→h.Ns mainGlobals mg→mg d.name=some (.ref fa)→∃(G:G3) (fd:FuncData),G.K=K w.params∧G.tabs=[]∧(∀(s:Shared) (u:Value),BindsTo s fd ⟨[u],[]⟩ [(x,u)])∧
    ∀base:Heap,(K w.params).In base→base.Ns mainGlobals mg→L2.FnOk l.prog w (K w.params) mg base (L2.CX l.prog w) k fa fd [x] (spM G 1 m))
  (hm:∀ns:List Int,ns.length≤n→(∀i∈ns,i.natAbs.log2≤1048576)→∃st,m [.ro (ns.map .int)] []=.ok (.bl true) st):WalkO q loose XP YP l.row.toRowW d [] (fun f vs=>PySem.call f vs):=by
 intro w s₀ s₁ mg mb Gr Y fa o pm cd doc dV kV ho hd hcd hD hmg hg args vals as hpre hlay hrd hwl hlo
 cases Dflts.none hD hdf
 cases Dflts.noKw hD
 obtain⟨a,vs,ns,rfl,rfl,hobj,hints,hlen⟩:=Att.script_of hn hpre hwl
 have KX:=hY w _ Y
 obtain⟨G,fd,hK,hT0,hb,hF⟩:=F w mg fa _ KX Gr.T.g hmg
 obtain⟨st,hst⟩:=hm ns hlen (bits_of hlay)
 refine enter_call (codeAny_mono (L2.law_call (CX:=L2.CX l.prog w) KX Gr.T.g Gr.T.b Gr.T.builtins Gr.T.nolimit hg hobj hints (Nat.le_trans hlen hn2) hr hF hb (fun H hO hS=>?_) fun H e s' hq=>?_) fun r s' hq=>?_)
 ·refine⟨rfl,fun _=>False,⟨fun _=>none,H,H⟩,[],[.ro (ns.map .int)],rfl,⟨fun _ _ e=>e,fun _ z=>z.elim,(fun b o e ps q=>by subst q;rcases hO b with z | ⟨_,_,z⟩ <;> (rw[show H b=_ from e] at z;cases z)),(fun _ _ z=>nomatch z),(fun _ _ _ _ _ z=>nomatch z),(fun _ _ z=>nomatch z),(fun _ _ z=>nomatch z),(by rw[hT0];exact fun _ z=>nomatch z)⟩,.cons (.ro (by show L2.SqL G.K _ _ _;rw[hK];exact hS) ?_) .nil,?_⟩
  ·clear hst hobj hints hlen hS hlay hrd hwl hpre
   induction ns with
   | nil=>exact .nil
   | cons i ns ih=>exact .cons .int ih
  ·rw[hst]
   intro s2 v l2 w2 r2
   cases r2
   rfl
 ·obtain⟨_,_,_,_,_,_,_,_,_,_,_,_,z⟩:=hq
  exact z
 ·obtain⟨rfl,h2,h3,h4⟩:=hq
  exact⟨.inl ⟨.bool true,.bool true,[],rfl,fun _=>rfl,.bool true,Att.post_true l _,fun _=>⟨List.Pairwise.nil,fun _ hm=>(nomatch hm)⟩⟩,h2,h3,h4⟩
end M3
namespace M3
open PySem L2
def run {α:Type} (r:Res α) (k:Res α→Prop):Prop:=k r
def srun (r:SRes) (k:SRes→Prop):Prop:=k r
theorem of_run {α:Type} {r x:Res α} (h:run r (fun y=>y=x)):r=x:=h
theorem srun_mono {r:SRes} {k k':SRes→Prop} (h:srun r k) (i:∀r,k r→k' r):srun r k':=i _ h
section
variable {α β γ:Type} {k:Res α→Prop} {kb:Res β→Prop} {ks:SRes→Prop} {st:Store} {u:Sl3}
@[simp] theorem run_ok (a:α):run (.ok a st) k=k (.ok a st):=rfl
@[simp] theorem run_err (c x):run (.err c x st:Res α) k=k (.err c x st):=rfl
@[simp] theorem run_bad:run (.bad:Res α) k=k .bad:=rfl
@[simp] theorem srun_nx:srun (.nx u st) ks=ks (.nx u st):=rfl
@[simp] theorem srun_rt (w):srun (.rt w st) ks=ks (.rt w st):=rfl
@[simp] theorem srun_bk:srun (.bk u st) ks=ks (.bk u st):=rfl
@[simp] theorem srun_ct:srun (.ct u st) ks=ks (.ct u st):=rfl
@[simp] theorem srun_err (c x):srun (.err c x u st) ks=ks (.err c x u st):=rfl
@[simp] theorem srun_bad:srun .bad ks=ks .bad:=rfl
def kBind (f:α→M β) (k:Res β→Prop):Res α→Prop
 | .ok a st=>run (f a st) k
 | .err c x st=>k (.err c x st)
 | .bad=>k .bad
@[simp] theorem kBind_ok (f:α→M β) (a):kBind f kb (.ok a st)=run (f a st) kb:=rfl
@[simp] theorem kBind_err (f:α→M β) (c x):kBind f kb (.err c x st)=kb (.err c x st):=rfl
@[simp] theorem kBind_bad (f:α→M β):kBind f kb .bad=kb .bad:=rfl
@[simp] theorem run_bind (m:M α) (f:α→M β):run (M.bind m f st) kb=run (m st) (kBind f kb):=by
 unfold run M.bind kBind
 cases m st <;> rfl
@[simp] theorem run_pure (a:α):run (M.pure a st) k=k (.ok a st):=rfl
@[simp] theorem run_Mbad:run (M.bad st) k=k .bad:=rfl
@[simp] theorem run_of_some (a:α):run (M.of (some a) st) k=k (.ok a st):=rfl
@[simp] theorem run_of_none:run (M.of (none:Option α) st) k=k .bad:=rfl
@[simp] theorem run_of_ite (p:Prop) [Decidable p] (a b:Option α):run (M.of (if p then a else b) st) k=if p then run (M.of a st) k else run (M.of b st) k:=by split <;> rfl
@[simp] theorem run_chk (p:Prop) [Decidable p] {k:Res Unit→Prop}:run (M.chk p st) k=if p then k (.ok () st) else k .bad:=by unfold run M.chk;split <;> rfl
def kQuiet (k:Res α→Prop):Res α→Prop
 | .ok a st=>k (.ok a st)
 | _=>k .bad
@[simp] theorem kQuiet_ok (a):kQuiet k (.ok a st)=k (.ok a st):=rfl
@[simp] theorem kQuiet_err (c x):kQuiet k (.err c x st)=k .bad:=rfl
@[simp] theorem kQuiet_bad:kQuiet k (.bad:Res α)=k .bad:=rfl
@[simp] theorem run_quiet (m:M α):run (M.quiet m st) k=run (m st) (kQuiet k):=by unfold run M.quiet kQuiet;cases m st <;> rfl
end
section
variable {k:Res W→Prop} {ka:Res (List W)→Prop} {kt:Res Bool→Prop} {kf:Res (List D)→Prop} {kd:Res D→Prop} {ki:Res (Option Int)→Prop} {ks:SRes→Prop} {st:Store} {u:Sl3} {a b c m:EM} {ma ms:AM} {fm:FM} {t t':TM} {g g':W→W→Option W}
def kVar (st:Store) (k:Res W→Prop):Option (Option W)→Prop
 | some (some w)=>k (.ok w st)
 | _=>k .bad
@[simp] theorem kVar_some (w):kVar st k (some (some w))=k (.ok w st):=rfl
@[simp] theorem kVar_none:kVar st k (some none)=k .bad:=rfl
@[simp] theorem kVar_out:kVar st k none=k .bad:=rfl
@[simp] theorem run_eVar (i:Nat):run (eVar i u st) k=kVar st k u[i]?:=by
 unfold run eVar kVar
 cases u[i]? with
 | none=>rfl
 | some o=>cases o <;> rfl
@[simp] theorem run_eC (d:D):run (eC d u st) k=k (.ok (.val d) st):=rfl
@[simp] theorem run_aNil:run (aNil u st) ka=ka (.ok [] st):=rfl
@[simp] theorem run_aCons:run (aCons m ms u st) ka=run (m u st) (kBind (fun w=>M.bind (ms u) fun ws=>M.pure (w :: ws)) ka):=run_bind _ _
@[simp] theorem run_eTup:run (eTup ma u st) k=run (ma u st) (kBind (fun ws=>M.bind (M.of (asDs ws)) fun ds=>M.bind (M.chk (ds.length≤1000000)) fun _=>M.pure (.val (.tup ds))) k):=run_bind _ _
@[simp] theorem run_fLst:run (fLst ma u st) kf=run (ma u st) (kBind (fun ws=>M.bind (M.of (asDs ws)) fun ds=>M.bind (M.chk (ds.length≤1000000)) fun _=>M.pure ds) kf):=run_bind _ _
@[simp] theorem run_eF:run (eF fm u st) k=run (fm u st) (kBind (fun xs=>M.pure (.val (.lst xs))) k):=run_bind _ _
@[simp] theorem run_eBin:run (eBin g a b u st) k=run (a u st) (kBind (fun x=>M.bind (b u) fun y=>M.of (g x y)) k):=run_bind _ _
@[simp] theorem run_tOf:run (tOf m u st) kt=run (m u st) (kBind (fun w=>M.of w.bool) kt):=run_bind _ _
@[simp] theorem run_tTru:run (tTru m u st) kt=run (m u st) (kBind (fun w=>M.of w.tru) kt):=run_bind _ _
@[simp] theorem run_eAnd:run (eAnd a b u st) k=run (a u st) (kBind (fun w=>M.bind (M.of w.tru) fun c=>if c=true then b u else M.pure w) k):=run_bind _ _
@[simp] theorem run_eOr:run (eOr a b u st) k=run (a u st) (kBind (fun w=>M.bind (M.of w.tru) fun c=>if c=true then M.pure w else b u) k):=run_bind _ _
@[simp] theorem run_eNot:run (eNot a u st) k=run (a u st) (kBind (fun w=>M.bind (M.of w.tru) fun c=>M.pure (.val (.bl (!c)))) k):=run_bind _ _
@[simp] theorem run_tAnd3:run (tAnd3 t t' u st) kt=run (t u st) (kBind (fun c=>if c=true then t' u else M.pure false) kt):=run_bind _ _
@[simp] theorem run_tOr3:run (tOr3 t t' u st) kt=run (t u st) (kBind (fun c=>if c=true then M.pure true else t' u) kt):=run_bind _ _
@[simp] theorem run_tNot3:run (tNot3 t u st) kt=run (t u st) (kBind (fun c=>M.pure (!c)) kt):=run_bind _ _
@[simp] theorem run_ite {α:Type} {k:Res α→Prop} (p:Prop) [Decidable p] (x y:M α):run ((if p then x else y) st) k=if p then run (x st) k else run (y st) k:=by split <;> rfl
@[simp] theorem run_eChain:run (eChain g g' a b c u st) k=run (a u st) (kBind (fun x=>M.bind (b u) fun y=>M.bind (M.of (g x y)) fun q=>M.bind (M.of q.bool) fun q=>if q=true then M.bind (c u) fun w=>M.of (g' y w) else M.pure (.val (.bl false))) k):=run_bind _ _
@[simp] theorem run_eIf:run (eIf t a b u st) k=run (t u st) (kBind (fun c=>if c=true then a u else b u) k):=run_bind _ _
@[simp] theorem run_pNone:run (pNone u st) ki=ki (.ok none st):=rfl
@[simp] theorem run_pSome (i:Int) (h:m u st=.ok (.val (.int i)) st):run (pSome m u st) ki=ki (.ok (some i) st):=by unfold run pSome M.bind;rw[h];rfl
def kPart (k:Res (Option Int)→Prop):Res W→Prop
 | .ok (.val (.int i)) st=>k (.ok (some i) st)
 | .ok _ _=>k .bad
 | .err c x st=>k (.err c x st)
 | .bad=>k .bad
@[simp] theorem kPart_ok (i:Int):kPart ki (.ok (.val (.int i)) st)=ki (.ok (some i) st):=rfl
@[simp] theorem run_pSome':run (pSome m u st) ki=run (m u st) (kPart ki):=by
 unfold run pSome M.bind kPart
 cases m u st with
 | ok w st'=>
  cases w with
  | val d=>cases d <;> rfl
  | _=>rfl
 | _=>rfl
def slA (x:W) (a b:Option Int):Option W:=match x.ls with
 | some xs=>some (.val (.lst (cutD xs a b)))
 | none=>slF x a b
@[simp] theorem slA_lst (xs a b):slA (.val (.lst xs)) a b=some (.val (.lst (cutD xs a b))):=rfl
@[simp] theorem slA_bor (xs a b):slA (.bor xs) a b=some (.val (.lst (cutD xs a b))):=rfl
@[simp] theorem slA_tup (xs a b):slA (.val (.tup xs)) a b=some (.val (.tup (cutD xs a b))):=rfl
@[simp] theorem slA_str (z a b):slA (.val (.str z)) a b=if z.length≤1000000 then some (.val (.str (cutS z a b))) else none:=rfl
@[simp] theorem run_eSlA {l h:Sl3→M (Option Int)}:run (eSlA m l h u st) k=run (m u st) (kBind (fun x=>M.bind (l u) fun a=>M.bind (h u) fun b=>M.of (slA x a b)) k):=by
 have e:eSlA m l h u=M.bind (m u) fun x=>M.bind (l u) fun a=>M.bind (h u) fun b=>M.of (slA x a b):=by
  unfold eSlA slA
  congr 1
  funext x
  cases x.ls <;> rfl
 rw[e];exact run_bind _ _
@[simp] theorem run_eB (g:List W→Option W):run (eB g ma u st) k=run (ma u st) (kBind (fun ws=>M.of (g ws)) k):=run_bind _ _
@[simp] theorem run_fB (g:List W→Option (List D)):run (fB g ma u st) kf=run (ma u st) (kBind (fun ws=>M.of (g ws)) kf):=run_bind _ _
@[simp] theorem run_eCall (n:Nat) (f:List D→M D):run (eCall n f ma u st) k=run (ma u st) (kBind (fun ws=>M.bind (M.of (asDs ws)) fun ds=>M.bind (M.chk (ds.length=n)) fun _=>M.bind (f ds) fun d=>M.pure (.val d)) k):=run_bind _ _
def kSeqs (k:Res (List D)→Prop):Res W→Prop
 | .ok (.val d) st=>run (M.of d.walk st) k
 | .ok _ _=>k .bad
 | .err c x st=>k (.err c x st)
 | .bad=>k .bad
@[simp] theorem kSeqs_ok (d:D):kSeqs kf (.ok (.val d) st)=run (M.of d.walk st) kf:=rfl
@[simp] theorem run_iSeq:run (iSeq m u st) kf=run (m u st) (kSeqs kf):=by
 unfold run iSeq M.bind kSeqs
 cases m u st with
 | ok w st'=>cases w <;> rfl
 | _=>rfl
@[simp] theorem rng1_int (j:Int):rng1 [.val (.int j)]=if -1000000≤j∧j≤1000000 then some (rangeD 0 j.toNat) else none:=rfl
@[simp] theorem rng2_int (i j:Int):rng2 [.val (.int i),.val (.int j)]=if -1000000≤i∧i≤1000000∧-1000000≤j∧j≤1000000 then some (rangeD i (j - i).toNat) else none:=rfl
@[simp] theorem run_iRange1:run (iRange1 ma u st) kf=run (ma u st) (kBind (fun ws=>M.of (rng1 ws)) kf):=run_bind _ _
@[simp] theorem run_iRange2:run (iRange2 ma u st) kf=run (ma u st) (kBind (fun ws=>M.of (rng2 ws)) kf):=run_bind _ _
@[simp] theorem run_fLc {gm:GM} {own:List Nat}:run (fLc fm gm t m own u st) kf=run (fm u st) (kBind (fun ds=>lcL gm t m (wipe3 u own) ds []) kf):=run_bind _ _
@[simp] theorem lcL_nil {gm:GM} {u0:Sl3} (acc):lcL gm t m u0 [] acc=M.pure acc:=rfl
@[simp] theorem lcL_cons {gm:GM} {u0:Sl3} (d ds acc):run (lcL gm t m u0 (d :: ds) acc st) kf=run (M.of (gm d u0) st) (kBind (fun u1=>M.bind (M.quiet (t u1)) fun k=>
  if k=true then M.bind (M.quiet (m u1)) fun w=>M.bind (M.of w.d) fun x=>M.bind (M.chk (acc.length<1000000)) fun _=>lcL gm t m u0 ds (acc++[x])
  else lcL gm t m u0 ds acc) kf):=run_bind _ _
@[simp] theorem run_tYes3:run (tYes3 u st) kt=kt (.ok true st):=rfl
@[simp] theorem gName3_eq (i d):gName3 i d u=some (u.set i (some (.val d))):=rfl
@[simp] theorem gCons3_eq (g gs d ds):gCons3 g gs (d :: ds) u=(g d u).bind (gs ds):=rfl
@[simp] theorem gTup3_eq (n gs ds):gTup3 n gs (.tup ds) u=if ds.length=n then gs ds u else none:=rfl
def kSeq (b:SM) (k:SRes→Prop):SRes→Prop
 | .nx u st=>srun (b u st) k
 | r=>k r
@[simp] theorem kSeq_nx (s:SM):kSeq s ks (.nx u st)=srun (s u st) ks:=rfl
@[simp] theorem kSeq_rt (s:SM) (w):kSeq s ks (.rt w st)=ks (.rt w st):=rfl
@[simp] theorem kSeq_bk (s:SM):kSeq s ks (.bk u st)=ks (.bk u st):=rfl
@[simp] theorem kSeq_ct (s:SM):kSeq s ks (.ct u st)=ks (.ct u st):=rfl
@[simp] theorem kSeq_err (s:SM) (c x):kSeq s ks (.err c x u st)=ks (.err c x u st):=rfl
@[simp] theorem kSeq_bad (s:SM):kSeq s ks .bad=ks .bad:=rfl
@[simp] theorem run_sSeq (s s':SM):srun (sSeq s s' u st) ks=srun (s u st) (kSeq s' ks):=by unfold srun sSeq kSeq;cases s u st <;> rfl
@[simp] theorem run_sNext:srun (sNext u st) ks=ks (.nx u st):=rfl
@[simp] theorem run_sBreak:srun (sBreak u st) ks=ks (.bk u st):=rfl
@[simp] theorem run_sCont:srun (sCont u st) ks=ks (.ct u st):=rfl
@[simp] theorem run_sRetN:srun (sRetN u st) ks=ks (.rt (.val .non) st):=rfl
def kSet (i:Nat) (u:Sl3) (k:SRes→Prop):Res W→Prop
 | .ok (.val d) st=>k (.nx (u.set i (some (.val d))) st)
 | .ok _ _=>k .bad
 | .err c x st=>k (.err c x u st)
 | .bad=>k .bad
def kRetV (u:Sl3) (k:SRes→Prop):Res W→Prop
 | .ok (.val d) st=>k (.rt (.val d) st)
 | .ok _ _=>k .bad
 | .err c x st=>k (.err c x u st)
 | .bad=>k .bad
def kDrop (u:Sl3) (k:SRes→Prop):Res W→Prop
 | .ok _ st=>k (.nx u st)
 | .err c x st=>k (.err c x u st)
 | .bad=>k .bad
def kOwnS (i:Nat) (u:Sl3) (k:SRes→Prop):Res (List D)→Prop
 | .ok xs st=>k (.nx (u.set i (some (.bor xs))) st)
 | .err c x st=>k (.err c x u st)
 | .bad=>k .bad
def kFor (gm:GM) (s:SM) (u:Sl3) (k:SRes→Prop):Res (List D)→Prop
 | .ok ds st=>srun (forL gm s ds u st) k
 | .err c x st=>k (.err c x u st)
 | .bad=>k .bad
def kIf (s s':SM) (u:Sl3) (k:SRes→Prop):Res Bool→Prop
 | .ok c st=>if c=true then srun (s u st) k else srun (s' u st) k
 | .err c x st=>k (.err c x u st)
 | .bad=>k .bad
@[simp] theorem kSet_ok (i d):kSet i u ks (.ok (.val d) st)=ks (.nx (u.set i (some (.val d))) st):=rfl
@[simp] theorem kSet_err (i c x):kSet i u ks (.err c x st)=ks (.err c x u st):=rfl
@[simp] theorem kSet_bad (i):kSet i u ks .bad=ks .bad:=rfl
@[simp] theorem kRetV_ok (d):kRetV u ks (.ok (.val d) st)=ks (.rt (.val d) st):=rfl
@[simp] theorem kRetV_err (c x):kRetV u ks (.err c x st)=ks (.err c x u st):=rfl
@[simp] theorem kRetV_bad:kRetV u ks .bad=ks .bad:=rfl
@[simp] theorem kDrop_ok (w):kDrop u ks (.ok w st)=ks (.nx u st):=rfl
@[simp] theorem kDrop_err (c x):kDrop u ks (.err c x st)=ks (.err c x u st):=rfl
@[simp] theorem kOwnS_ok (i xs):kOwnS i u ks (.ok xs st)=ks (.nx (u.set i (some (.bor xs))) st):=rfl
@[simp] theorem kFor_ok (gm s ds):kFor gm s u ks (.ok ds st)=srun (forL gm s ds u st) ks:=rfl
@[simp] theorem kFor_err (gm s c x):kFor gm s u ks (.err c x st)=ks (.err c x u st):=rfl
@[simp] theorem kIf_ok (s s' c):kIf s s' u ks (.ok c st)=if c=true then srun (s u st) ks else srun (s' u st) ks:=rfl
@[simp] theorem kIf_err (s s' c x):kIf s s' u ks (.err c x st)=ks (.err c x u st):=rfl
@[simp] theorem run_sSet (i:Nat):srun (sSet i m u st) ks=run (m u st) (kSet i u ks):=by
 unfold srun sSet run kSet
 cases m u st with
 | ok w st'=>cases w <;> rfl
 | _=>rfl
@[simp] theorem run_sRetV:srun (sRetV m u st) ks=run (m u st) (kRetV u ks):=by
 unfold srun sRetV run kRetV
 cases m u st with
 | ok w st'=>cases w <;> rfl
 | _=>rfl
@[simp] theorem run_sDrop:srun (sDrop m u st) ks=run (m u st) (kDrop u ks):=by unfold srun sDrop run kDrop;cases m u st <;> rfl
@[simp] theorem run_sOwn (i:Nat):srun (sOwn i fm u st) ks=run (fm u st) (kOwnS i u ks):=by unfold srun sOwn run kOwnS;cases fm u st <;> rfl
@[simp] theorem run_sIf (s s':SM):srun (sIf t s s' u st) ks=run (t u st) (kIf s s' u ks):=by
 unfold srun sIf run kIf
 cases t u st with
 | ok c st'=>cases c <;> rfl
 | _=>rfl
def kRetOwn (st:Store) (k:SRes→Prop):Option (Option W)→Prop
 | some (some (.bor xs))=>k (.rt (.bor xs) st)
 | _=>k .bad
@[simp] theorem kRetOwn_bor (xs):kRetOwn st ks (some (some (.bor xs)))=ks (.rt (.bor xs) st):=rfl
@[simp] theorem run_sRetO (i:Nat):srun (sRetO i u st) ks=kRetOwn st ks u[i]?:=by
 unfold srun sRetO kRetOwn
 cases u[i]? with
 | none=>rfl
 | some o=>
  cases o with
  | none=>rfl
  | some w=>cases w <;> rfl
def kApp (i:Nat) (u:Sl3) (xs:List D) (k:SRes→Prop):Res W→Prop
 | .ok (.val d) st=>if xs.length<1000000 then k (.nx (u.set i (some (.bor (xs++[d])))) st) else k .bad
 | .ok _ _=>k .bad
 | .err c x st=>k (.err c x u st)
 | .bad=>k .bad
def kAppTo (i:Nat) (m:EM) (u:Sl3) (st:Store) (k:SRes→Prop):Option (Option W)→Prop
 | some (some (.bor xs))=>run (m u st) (kApp i u xs k)
 | _=>k .bad
@[simp] theorem kApp_ok (i xs d):kApp i u xs ks (.ok (.val d) st)=if xs.length<1000000 then ks (.nx (u.set i (some (.bor (xs++[d])))) st) else ks .bad:=rfl
@[simp] theorem kAppTo_bor (i xs):kAppTo i m u st ks (some (some (.bor xs)))=run (m u st) (kApp i u xs ks):=rfl
@[simp] theorem run_sApp (i:Nat):srun (sApp i m u st) ks=kAppTo i m u st ks u[i]?:=by
 unfold srun sApp kAppTo run kApp
 cases u[i]? with
 | none=>rfl
 | some o=>
  cases o with
  | none=>rfl
  | some w=>
   cases w with
   | bor xs=>
    dsimp only
    cases m u st with
    | ok w st'=>
     cases w with
     | val d=>dsimp only;split <;> rfl
     | _=>rfl
    | _=>rfl
   | _=>rfl
@[simp] theorem run_sFor {gm:GM} (s:SM):srun (sFor fm gm s u st) ks=run (fm u st) (kFor gm s u ks):=by unfold srun sFor run kFor;cases fm u st <;> rfl
@[simp] theorem run_forL_nil {gm:GM} (s:SM):srun (forL gm s [] u st) ks=ks (.nx u st):=rfl
@[simp] theorem wipe3_nil:wipe3 u []=u:=rfl
@[simp] theorem wipe3_cons (v vs):wipe3 u (v :: vs)=(wipe3 u vs).set v none:=rfl
def kTurn (f:Sl3→Store→Prop) (k:SRes→Prop):SRes→Prop
 | .nx u st=>f u st
 | .ct u st=>f u st
 | .bk u st=>k (.nx u st)
 | r=>k r
@[simp] theorem kTurn_nx (f):kTurn f ks (.nx u st)=f u st:=rfl
@[simp] theorem kTurn_ct (f):kTurn f ks (.ct u st)=f u st:=rfl
@[simp] theorem kTurn_bk (f):kTurn f ks (.bk u st)=ks (.nx u st):=rfl
@[simp] theorem kTurn_rt (f w):kTurn f ks (.rt w st)=ks (.rt w st):=rfl
@[simp] theorem kTurn_err (f c x):kTurn f ks (.err c x u st)=ks (.err c x u st):=rfl
@[simp] theorem kTurn_bad (f):kTurn f ks .bad=ks .bad:=rfl
theorem run_forL_cons {gm:GM} (s:SM) {d:D} {ds:List D} {u1:Sl3} (h:gm d u=some u1):srun (forL gm s (d :: ds) u st) ks=srun (s u1 st) (kTurn (fun u st=>srun (forL gm s ds u st) ks) ks):=by
 unfold srun
 rw[forL,h]
 dsimp only
 unfold kTurn
 cases s u1 st <;> rfl
theorem forL_run {gm:GM} {s:SM} {ds:List D} (I:Nat→Sl3→Store→Prop) (h0:I 0 u st) (turn:∀i d u st,ds[i]?=some d→I i u st→∃u1,gm d u=some u1∧srun (s u1 st) (kTurn (I (i+1)) ks)) (fin:∀u st,I ds.length u st→ks (.nx u st)):srun (forL gm s ds u st) ks:=by
 have all:∀(n i:Nat) (u:Sl3) (st:Store),i+n=ds.length→I i u st→srun (forL gm s (ds.drop i) u st) ks:=by
  intro n
  induction n with
  | zero=>
   intro i u st hi hI
   rw[List.drop_eq_nil_of_le (by omega)]
   have:i=ds.length:=by omega
   subst this
   exact fin u st hI
  | succ n ih=>
   intro i u st hi hI
   have hl:i<ds.length:=by omega
   rw[List.drop_eq_getElem_cons hl]
   obtain⟨u1,e,t⟩:=turn i ds[i] u st (List.getElem?_eq_getElem hl) hI
   rw[run_forL_cons s e]
   refine srun_mono t fun r hr=>?_
   cases r with
   | nx u' st'=>exact ih (i+1) u' st' (by omega) hr
   | ct u' st'=>exact ih (i+1) u' st' (by omega) hr
   | _=>exact hr
 have:=all ds.length 0 u st (by omega) h0
 simpa using this
theorem lcL_eq {gm:GM} {u0:Sl3} (p:D→Bool) (f:D→D):∀(ds acc:List D),(∀d∈ds,∃u1,gm d u0=some u1∧t u1 st=.ok (p d) st∧(p d=true→m u1 st=.ok (.val (f d)) st))→acc.length+ds.length≤1000000→
  lcL gm t m u0 ds acc st=.ok (acc++(ds.filter p).map f) st
 | [],acc,_,_=>by simp[lcL,M.pure]
 | d :: ds,acc,h,hz=>by
  obtain⟨u1,e1,e2,e3⟩:=h d List.mem_cons_self
  have ih:=fun acc=>lcL_eq p f ds acc fun d hd=>h d (List.mem_cons_of_mem _ hd)
  simp only[List.length_cons] at hz
  apply of_run
  rw[lcL_cons,e1]
  simp only[run_of_some,kBind_ok,run_bind,run_quiet,e2,run_ok,kQuiet_ok,run_ite]
  cases hp:p d with
  | false=>
   rw[if_neg Bool.false_ne_true,ih acc (by omega)]
   simp[hp]
  | true=>
   rw[if_pos rfl,e3 hp]
   simp only[run_ok,kQuiet_ok,kBind_ok,run_bind,W.d,run_of_some,run_chk]
   rw[if_pos (by omega),ih _ (by simp;omega)]
   simp[hp]
def kRet (k:Res D→Prop):SRes→Prop
 | .nx _ st=>k (.ok .non st)
 | .rt (.val d) st=>k (.ok d st)
 | .rt (.bor xs) st=>k (.ok (.lst xs) st)
 | .err c x _ st=>k (.err c x st)
 | _=>k .bad
@[simp] theorem kRet_nx:kRet kd (.nx u st)=kd (.ok .non st):=rfl
@[simp] theorem kRet_rt (d):kRet kd (.rt (.val d) st)=kd (.ok d st):=rfl
@[simp] theorem kRet_bor (xs):kRet kd (.rt (.bor xs) st)=kd (.ok (.lst xs) st):=rfl
@[simp] theorem kRet_err (c x):kRet kd (.err c x u st)=kd (.err c x st):=rfl
@[simp] theorem kRet_bad:kRet kd .bad=kd .bad:=rfl
theorem run_mfn (N:Nat) (mb:SM) (ds:List D):run (mfn N mb ds st) kd=srun (mb (ds.map (fun d=>some (.val d))++List.replicate (N - ds.length) none) st) (kRet kd):=by
 unfold run mfn srun kRet
 cases mb (ds.map (fun d=>some (.val d))++List.replicate (N - ds.length) none) st with
 | rt w st'=>cases w <;> rfl
 | _=>rfl
end
@[simp] theorem asDs_nil:asDs []=some []:=rfl
@[simp] theorem asDs_cons (d:D) (ws:List W):asDs (.val d :: ws)=(asDs ws).map (d :: ·):=rfl
@[simp] theorem W_d_val (d:D):(W.val d).d=some d:=rfl
@[simp] theorem W_bool_bl (b:Bool):(W.val (.bl b)).bool=some b:=rfl
@[simp] theorem W_rd_val (d:D):(W.val d).rd=some d:=rfl
@[simp] theorem W_rd_bor (xs:List D):(W.bor xs).rd=some (.lst xs):=rfl
@[simp] theorem W_ls_lst (xs:List D):(W.val (.lst xs)).ls=some xs:=rfl
@[simp] theorem W_ls_bor (xs:List D):(W.bor xs).ls=some xs:=rfl
@[simp] theorem walk_tup (xs:List D):(D.tup xs).walk=some xs:=rfl
@[simp] theorem walk_ctup (xs:List D):(D.ctup xs).walk=some xs:=rfl
@[simp] theorem walk_lst (xs:List D):(D.lst xs).walk=some xs:=rfl
@[simp] theorem walk_ro (xs:List D):(D.ro xs).walk=some xs:=rfl
@[simp] theorem walk_str (x:Str):(D.str x).walk=some (x.cps.toList.map fun c=>.str ⟨#[c]⟩):=rfl
@[simp] theorem items_ctup (xs:List D):(D.ctup xs).items=some xs:=rfl
@[simp] theorem items_tup (xs:List D):(D.tup xs).items=some xs:=rfl
@[simp] theorem items_lst (xs:List D):(D.lst xs).items=some xs:=rfl
@[simp] theorem items_ro (xs:List D):(D.ro xs).items=some xs:=rfl
@[simp] theorem tru_non:(W.val .non).tru=some false:=rfl
@[simp] theorem tru_bl (b:Bool):(W.val (.bl b)).tru=some b:=rfl
@[simp] theorem tru_int (i:Int):(W.val (.int i)).tru=some (i != 0):=rfl
@[simp] theorem tru_tup (xs:List D):(W.val (.tup xs)).tru=some (!xs.isEmpty):=rfl
@[simp] theorem tru_lst (xs:List D):(W.val (.lst xs)).tru=some (!xs.isEmpty):=rfl
@[simp] theorem tru_bor (xs:List D):(W.bor xs).tru=some (!xs.isEmpty):=rfl
@[simp] theorem addF_int (i j:Int):addF (.val (.int i)) (.val (.int j))=some (.val (.int (i+j))):=rfl
@[simp] theorem addF_str (x y:Str):addF (.val (.str x)) (.val (.str y))=if x.length+y.length≤1000000 then some (.val (.str (x++y))) else none:=rfl
@[simp] theorem addF_tup (xs ys:List D):addF (.val (.tup xs)) (.val (.tup ys))=if xs.length+ys.length≤1000000 then some (.val (.tup (xs++ys))) else none:=rfl
@[simp] theorem addF_lst (xs ys:List D):addF (.val (.lst xs)) (.val (.lst ys))=if xs.length+ys.length≤1000000 then some (.val (.lst (xs++ys))) else none:=rfl
@[simp] theorem addF_bl (xs ys:List D):addF (.bor xs) (.val (.lst ys))=if xs.length+ys.length≤1000000 then some (.val (.lst (xs++ys))) else none:=rfl
@[simp] theorem addF_lb (xs ys:List D):addF (.val (.lst xs)) (.bor ys)=if xs.length+ys.length≤1000000 then some (.val (.lst (xs++ys))) else none:=rfl
@[simp] theorem addF_bb (xs ys:List D):addF (.bor xs) (.bor ys)=if xs.length+ys.length≤1000000 then some (.val (.lst (xs++ys))) else none:=rfl
@[simp] theorem subF_int (i j:Int):subF (.val (.int i)) (.val (.int j))=some (.val (.int (i - j))):=rfl
@[simp] theorem modF_int (i j:Int):modF (.val (.int i)) (.val (.int j))=if 0<j then some (.val (.int (i % j))) else none:=by simp[modF,intF]
@[simp] theorem divF_int (i j:Int):divF (.val (.int i)) (.val (.int j))=if 0<j∧j<1073741824 then some (.val (.int (i / j))) else none:=by simp[divF,intF]
@[simp] theorem powF_int (i j:Int):powF (.val (.int i)) (.val (.int j))=if 0≤j∧j≤1000∧i.natAbs<1000000 then some (.val (.int (i ^ j.toNat))) else none:=by simp[powF,intF]
@[simp] theorem mulF_int (i j:Int):mulF (.val (.int i)) (.val (.int j))=if mulC i j=true then some (.val (.int (i * j))) else none:=rfl
@[simp] theorem mulF_str (x:Str) (j:Int):mulF (.val (.str x)) (.val (.int j))=if MulS x j=true then some (.val (.str (Txt.mul x j))) else none:=rfl
@[simp] theorem ltF_int (i j:Int):ltF (.val (.int i)) (.val (.int j))=some (.val (.bl (decide (i<j)))):=rfl
@[simp] theorem gtF_int (i j:Int):gtF (.val (.int i)) (.val (.int j))=some (.val (.bl (decide (j<i)))):=rfl
@[simp] theorem geF_int (i j:Int):geF (.val (.int i)) (.val (.int j))=some (.val (.bl (decide (j≤i)))):=rfl
@[simp] theorem lenF_str (z:Str):lenF [.val (.str z)]=if z.length≤1000000 then some (.val (.int z.length)) else none:=rfl
@[simp] theorem lenF_tup (xs:List D):lenF [.val (.tup xs)]=some (.val (.int xs.length)):=rfl
@[simp] theorem lenF_lst (xs:List D):lenF [.val (.lst xs)]=some (.val (.int xs.length)):=rfl
@[simp] theorem lenF_ro (xs:List D):lenF [.val (.ro xs)]=some (.val (.int xs.length)):=rfl
@[simp] theorem lenF_bor (xs:List D):lenF [.bor xs]=some (.val (.int xs.length)):=rfl
@[simp] theorem intCF_int (i:Int):intCF [.val (.int i)]=some (.val (.int i)):=rfl
@[simp] theorem intCF_bl (b:Bool):intCF [.val (.bl b)]=some (.val (.int (if b then 1 else 0))):=rfl
@[simp] theorem tupCF_lst (xs:List D):tupCF [.val (.lst xs)]=some (.val (.tup xs)):=rfl
@[simp] theorem tupCF_tup (xs:List D):tupCF [.val (.tup xs)]=some (.val (.tup xs)):=rfl
@[simp] theorem tupCF_bor (xs:List D):tupCF [.bor xs]=some (.val (.tup xs)):=rfl
@[simp] theorem lstCF_lst (xs:List D):lstCF [.val (.lst xs)]=some xs:=rfl
@[simp] theorem lstCF_tup (xs:List D):lstCF [.val (.tup xs)]=some xs:=rfl
@[simp] theorem lstCF_bor (xs:List D):lstCF [.bor xs]=some xs:=rfl
@[simp] theorem ixF_lst (xs:List D) (i:Int):ixF (.val (.lst xs)) (.val (.int i))=(atI xs i).map .val:=rfl
@[simp] theorem ixF_tup (xs:List D) (i:Int):ixF (.val (.tup xs)) (.val (.int i))=(atI xs i).map .val:=rfl
@[simp] theorem ixF_ro (xs:List D) (i:Int):ixF (.val (.ro xs)) (.val (.int i))=(atI xs i).map .val:=rfl
@[simp] theorem ixF_bor (xs:List D) (i:Int):ixF (.bor xs) (.val (.int i))=(atI xs i).map .val:=rfl
@[simp] theorem ixF_str (z:Str) (i:Int):ixF (.val (.str z)) (.val (.int i))=if z.length≤1000000 then (atI z.cps.toList i).map fun c=>.val (.str ⟨#[c]⟩) else none:=rfl
theorem atN {α:Type} (xs:List α) (i:Nat):atI xs (i:Int)=xs[i]?:=by
 unfold atI ixN
 rw[if_pos (by omega)]
 by_cases h:i<xs.length
 ·rw[if_pos (by omega)];simp
 ·rw[if_neg (by omega)];simp[List.getElem?_eq_none (by omega:xs.length≤i)]
theorem atI_int {α:Type} (xs:List α) {i:Int} (h:0≤i):atI xs i=xs[i.toNat]?:=by
 have:=atN xs i.toNat
 rwa [Int.toNat_of_nonneg h] at this
end M3
namespace M3
open PySem L2
section
variable {α β γ:Type} {k:Res α→Prop} {kw:Res W→Prop} {ks:SRes→Prop} {st:Store} {u:Sl3} {m a b:EM} {g:GM}
@[simp] theorem run_eM1 (g:Str→W→Option W):run (eM1 g a b u st) kw=run (a u st) (kBind (fun x=>M.bind (M.of x.str?) fun z=>M.bind (b u) fun y=>M.of (g z y)) kw):=run_bind _ _
@[simp] theorem run_eCnt:run (eCnt a b u st) kw=run (a u st) (kBind (fun x=>M.bind (M.of x.tup?) fun xs=>M.bind (b u) fun y=>M.of (cntF xs y)) kw):=run_bind _ _
def kNeg (k:Res W→Prop):Res W→Prop
 | .ok (.val (.int i)) st=>k (.ok (.val (.int (-i))) st)
 | .ok _ _=>k .bad
 | .err c x st=>k (.err c x st)
 | .bad=>k .bad
@[simp] theorem kNeg_ok (i):kNeg kw (.ok (.val (.int i)) st)=kw (.ok (.val (.int (-i))) st):=rfl
@[simp] theorem run_eNeg:run (eNeg a u st) kw=run (a u st) (kNeg kw):=by
 unfold run eNeg M.bind kNeg
 cases a u st with
 | ok w st'=>cases w with
  | val d=>cases d <;> rfl
  | _=>rfl
 | _=>rfl
@[simp] theorem str?_str (x:Str):(W.val (.str x)).str?=some x:=rfl
@[simp] theorem tup?_tup (xs:List D):(W.val (.tup xs)).tup?=some xs:=rfl
@[simp] theorem splitF_str (x y:Str):splitF x (.val (.str y))=if y.length≠0∧x.length≤900000 then some (.val (.lst ((Txt.split x y).map .str))) else none:=rfl
theorem strs_map:∀xs:List Str,D.strs (xs.map .str)=some xs
 | []=>rfl
 | x :: xs=>by rw[List.map_cons,D.strs,strs_map xs];rfl
@[simp] theorem joinF_strs (x:Str) (xs:List Str):joinF x (.val (.lst (xs.map .str)))=if (xs.map (·.length)).sum+xs.length * x.length≤1000000 then some (.val (.str (Txt.join x xs))) else none:=by
 show (D.strs (xs.map .str)).bind _=_
 rw[strs_map];rfl
theorem bls_map:∀xs:List Bool,D.bls (xs.map .bl)=some xs
 | []=>rfl
 | x :: xs=>by rw[List.map_cons,D.bls,bls_map xs];rfl
@[simp] theorem allF_bls (xs:List Bool):allF [.val (.lst (xs.map .bl))]=some (.val (.bl (xs.all id))):=by
 show (D.bls (xs.map .bl)).map _=_
 rw[bls_map];rfl
@[simp] theorem anyF_bls (xs:List Bool):anyF [.val (.lst (xs.map .bl))]=some (.val (.bl (xs.any id))):=by
 show (D.bls (xs.map .bl)).map _=_
 rw[bls_map];rfl
theorem bls_mapF {α:Type} (f:α→Bool) (xs:List α):(xs.map fun x=>D.bl (f x))=(xs.map f).map .bl:=by rw[List.map_map];rfl
@[simp] theorem allF_mapF {α:Type} (f:α→Bool) (xs:List α):allF [.val (.lst (xs.map fun x=>D.bl (f x)))]=some (.val (.bl (xs.all f))):=by
 rw[bls_mapF,allF_bls,List.all_map];rfl
@[simp] theorem anyF_mapF {α:Type} (f:α→Bool) (xs:List α):anyF [.val (.lst (xs.map fun x=>D.bl (f x)))]=some (.val (.bl (xs.any f))):=by
 rw[bls_mapF,anyF_bls,List.any_map];rfl
@[simp] theorem inF_sign (neg:Bool) (c:Nat) (b:Str):inF neg (.val (.str ⟨#[c]⟩)) (.val (.str b))=some (.val (.bl (if neg then !decide (c∈b.cps.toList) else decide (c∈b.cps.toList)))):=rfl
@[simp] theorem srun_sFrz (i:Nat) (xs:List D) (h:u[i]?=some (some (.bor xs))):srun (sFrz i u st) ks=ks (.nx (u.set i (some (.val (.lst xs)))) st):=by
 unfold srun sFrz;rw[h]
def kAsg (g:GM) (u:Sl3) (ks:SRes→Prop):Res W→Prop
 | .ok (.val d) st=>(match g d u with
  | some u'=>ks (.nx u' st)
  | none=>ks .bad)
 | .ok _ _=>ks .bad
 | .err c x st=>ks (.err c x u st)
 | .bad=>ks .bad
def kAsg2 (st:Store) (ks:SRes→Prop):Option Sl3→Prop
 | some u'=>ks (.nx u' st)
 | none=>ks .bad
@[simp] theorem kAsg2_some (u'):kAsg2 st ks (some u')=ks (.nx u' st):=rfl
@[simp] theorem kAsg_ok (d:D):kAsg g u ks (.ok (.val d) st)=kAsg2 st ks (g d u):=by unfold kAsg kAsg2;rfl
@[simp] theorem srun_sAsg:srun (sAsg m g u st) ks=run (m u st) (kAsg g u ks):=by
 unfold srun sAsg run kAsg
 cases m u st with
 | ok w st'=>cases w with
  | val d=>dsimp only;cases g d u <;> rfl
  | _=>rfl
 | _=>rfl
@[simp] theorem srun_sPop (i:Nat) (xs:List D) (h:u[i]?=some (some (.bor xs))):srun (sPop i u st) ks=if xs.isEmpty=true then ks .bad else ks (.nx (u.set i (some (.bor xs.dropLast))) st):=by
 unfold srun sPop;rw[h];dsimp only;split <;> rfl
end
end M3
namespace M3
open PySem L2
section
variable {α β γ:Type} {k:Res α→Prop} {kw:Res W→Prop} {kf:Res (List D)→Prop} {ks:SRes→Prop} {kd:Res D→Prop} {st:Store} {u:Sl3} {m a b mo:EM} {ma mk:AM} {g:GM}
def kIns (st:Store) (k:Res (Nat×String×List (Str×D))→Prop) (i:Nat):Option MO→Prop
 | some (.ins c fs)=>k (.ok (i,c,fs) st)
 | _=>k .bad
@[simp] theorem kIns_ins {k} (i c fs):kIns st k i (some (.ins c fs))=k (.ok (i,c,fs) st):=rfl
@[simp] theorem run_insOf (i:Nat) (k):run (insOf (.val (.ref i)) st) k=kIns st k i st[i]?:=by
 unfold run insOf kIns
 dsimp only
 cases st[i]? with
 | none=>rfl
 | some o=>cases o <;> rfl
@[simp] theorem run_eFld (cs:List String) (f:Str):run (eFld cs f m u st) kw=run (m u st) (kBind (fun w=>M.bind (insOf w) fun q=>M.bind (M.chk (q.2.1∈cs)) fun _=>M.bind (M.of (q.2.2.lookup f)) fun d=>M.pure (.val d)) kw):=run_bind _ _
def kNx (u:Sl3) (k:SRes→Prop):Res Unit→Prop
 | .ok _ st=>k (.nx u st)
 | .err c x st=>k (.err c x u st)
 | .bad=>k .bad
@[simp] theorem kNx_ok (x):kNx u ks (.ok x st)=ks (.nx u st):=rfl
@[simp] theorem kNx_err (c x):kNx u ks (.err c x st)=ks (.err c x u st):=rfl
@[simp] theorem kNx_bad:kNx u ks .bad=ks .bad:=rfl
@[simp] theorem run_sFldS (cs:List String) (f:Str):srun (sFldS cs f mo m u st) ks=run (m u st) (kBind (fun w=>M.bind (M.of w.d) fun d=>M.bind (mo u) fun x=>M.bind (insOf x) fun q=>M.bind (M.chk (q.2.1∈cs∧q.2.2.length<500)) fun _=>fun st=>.ok () (st.set q.1 (.ins q.2.1 (put3 f d q.2.2)))) (kNx u ks)):=by
 rw[←run_bind]
 unfold srun sFldS run kNx
 cases (M.bind (m u) (fun w=>M.bind (M.of w.d) fun d=>M.bind (mo u) fun x=>M.bind (insOf x) fun q=>M.bind (M.chk (q.2.1∈cs∧q.2.2.length<500)) fun _=>fun st=>Res.ok () (st.set q.1 (.ins q.2.1 (put3 f d q.2.2)))) st) <;> rfl
@[simp] theorem run_fun (f:Store→Res α):run ((fun st=>f st) st) k=run (f st) k:=rfl
def kMade (i:Nat) (k:Res W→Prop):Res D→Prop
 | .ok .non st=>k (.ok (.val (.ref i)) st)
 | .ok _ _=>k .bad
 | .err c x st=>k (.err c x st)
 | .bad=>k .bad
@[simp] theorem kMade_non (i):kMade i kw (.ok .non st)=kw (.ok (.val (.ref i)) st):=rfl
@[simp] theorem kMade_err (i c x):kMade i kw (.err c x st)=kw (.err c x st):=rfl
@[simp] theorem run_mMake (c:String) (mf:List D→M D) (ds:List D):run (mMake c mf ds st) kw=run (mf (.ref st.length :: ds) (st++[.ins c []])) (kMade st.length kw):=by
 unfold run mMake kMade
 cases mf (.ref st.length :: ds) (st++[.ins c []]) with
 | ok d st'=>cases d <;> rfl
 | _=>rfl
@[simp] theorem run_eMk3 (c:String) (n:Nat) (dd:List D) (mf:List D→M D):run (eMk3 c n dd mf ma u st) kw=run (ma u st) (kBind (fun ws=>M.bind (M.of (asDs ws)) fun ds=>M.bind (M.chk (ds.length=n)) fun _=>mMake c mf (ds++dd)) kw):=run_bind _ _
@[simp] theorem run_eMkK (c:String) (n k:Nat) (arr) (mf:List D→M D):run (eMkK c n k arr mf ma mk u st) kw=run (ma u st) (kBind (fun ws=>M.bind (mk u) fun zs=>M.bind (M.of (asDs ws)) fun ds=>M.bind (M.of (asDs zs)) fun es=>M.bind (M.chk (ds.length=n∧es.length=k)) fun _=>mMake c mf (arr ds es)) kw):=run_bind _ _
@[simp] theorem run_eCallK (n k N:Nat) (arr) (mf:List D→M D):run (eCallK n k N arr mf ma mk u st) kw=run (ma u st) (kBind (fun ws=>M.bind (mk u) fun zs=>M.bind (M.of (asDs ws)) fun ds=>M.bind (M.of (asDs zs)) fun es=>M.bind (M.chk (ds.length=n∧es.length=k∧(arr ds es).length=N)) fun _=>M.bind (mf (arr ds es)) fun d=>M.pure (.val d)) kw):=run_bind _ _
@[simp] theorem run_eMeth (f:Str) (n:Nat) (tab:List (String×(List D→M D))):run (eMeth f n tab mo ma u st) kw=run (mo u st) (kBind (fun w=>M.bind (insOf w) fun q=>M.bind (M.chk (q.2.2.lookup f=none)) fun _=>M.bind (M.of (tab.lookup q.2.1)) fun mf=>
 M.bind (ma u) fun ws=>M.bind (M.of (asDs ws)) fun ds=>M.bind (M.chk (ds.length=n)) fun _=>M.bind (mf (.ref q.1 :: ds)) fun d=>M.pure (.val d)) kw):=run_bind _ _
@[simp] theorem run_eProp (c:String) (mf:List D→M D):run (eProp c mf mo u st) kw=run (mo u st) (kBind (fun w=>M.bind (insOf w) fun q=>M.bind (M.chk (q.2.1=c)) fun _=>M.bind (M.quiet (mf [.ref q.1])) fun d=>M.pure (.val d)) kw):=run_bind _ _
@[simp] theorem run_eNewDD:run (eNewDD u st) kw=kw (.ok (.val (.ref st.length)) (st++[.ddi [] []])):=rfl
@[simp] theorem run_sRaise (c):srun (sRaise c u st) ks=ks (.err c .non u st):=rfl
@[simp] theorem run_sBad:srun (sBad u st) ks=ks .bad:=rfl
def kTry0 (k:SRes→Prop):SRes→Prop
 | .err _ _ _ _=>k .bad
 | r=>k r
@[simp] theorem kTry0_nx:kTry0 ks (.nx u st)=ks (.nx u st):=rfl
@[simp] theorem kTry0_rt (w):kTry0 ks (.rt w st)=ks (.rt w st):=rfl
@[simp] theorem run_sTry0 (s:SM):srun (sTry0 s u st) ks=srun (s u st) (kTry0 ks):=by unfold srun sTry0 kTry0;cases s u st <;> rfl
def kTry (i:Option Nat) (sub:String→Option Bool) (ms:SM) (k:SRes→Prop):SRes→Prop
 | .err c x u st=>srun (match sub c with
  | some true=>if noExn u=true then sSuite i ms c x u st else .bad
  | some false=>.err c x u st
  | none=>.bad) k
 | r=>k r
@[simp] theorem kTry_nx (i sub ms):kTry i sub ms ks (.nx u st)=ks (.nx u st):=rfl
@[simp] theorem kTry_rt (i sub ms w):kTry i sub ms ks (.rt w st)=ks (.rt w st):=rfl
@[simp] theorem kTry_bk (i sub ms):kTry i sub ms ks (.bk u st)=ks (.bk u st):=rfl
@[simp] theorem kTry_ct (i sub ms):kTry i sub ms ks (.ct u st)=ks (.ct u st):=rfl
@[simp] theorem kTry_err (i sub ms c x):kTry i sub ms ks (.err c x u st)=srun (match sub c with
  | some true=>if noExn u=true then sSuite i ms c x u st else .bad
  | some false=>.err c x u st
  | none=>.bad) ks:=rfl
@[simp] theorem run_sTry (i sub) (mb ms:SM):srun (sTry i sub mb ms u st) ks=srun (mb u st) (kTry i sub ms ks):=by unfold srun sTry kTry;cases mb u st <;> rfl
def kSuite (i:Option Nat) (k:SRes→Prop):SRes→Prop
 | .nx u2 st2=>if noExn (match i with | some i=>u2.set i none | none=>u2)=true then k (.nx (match i with | some i=>u2.set i none | none=>u2) st2) else k .bad
 | .bk u2 st2=>if noExn (match i with | some i=>u2.set i none | none=>u2)=true then k (.bk (match i with | some i=>u2.set i none | none=>u2) st2) else k .bad
 | .ct u2 st2=>if noExn (match i with | some i=>u2.set i none | none=>u2)=true then k (.ct (match i with | some i=>u2.set i none | none=>u2) st2) else k .bad
 | .rt w st2=>k (.rt w st2)
 | _=>k .bad
@[simp] theorem kSuite_rt (i w):kSuite i ks (.rt w st)=ks (.rt w st):=rfl
@[simp] theorem kSuite_nx (i):kSuite i ks (.nx u st)=if noExn (match i with | some i=>u.set i none | none=>u)=true then ks (.nx (match i with | some i=>u.set i none | none=>u) st) else ks .bad:=rfl
@[simp] theorem run_sSuite (i:Option Nat) (ms:SM) (c x):srun (sSuite i ms c x u st) ks=srun (ms (match i with | some i=>u.set i (some (.exn c x)) | none=>u) st) (kSuite i ks):=by
 unfold srun sSuite kSuite
 dsimp only
 cases i <;> (dsimp only;generalize ms _ st=r;cases r <;> (try rfl) <;> (dsimp only;split <;> rfl))
def kIsE (tab:String→Option Bool) (st:Store) (k:Res W→Prop):Option (Option W)→Prop
 | some (some (.exn c _))=>(match tab c with
  | some b=>k (.ok (.val (.bl b)) st)
  | none=>k .bad)
 | _=>k .bad
@[simp] theorem run_eIsE (i:Nat) (tab):run (eIsE i tab u st) kw=kIsE tab st kw u[i]?:=by
 unfold run eIsE kIsE
 cases u[i]? with
 | none=>rfl
 | some o=>
  cases o with
  | none=>rfl
  | some w=>
   cases w with
   | exn c x=>dsimp only;cases tab c <;> rfl
   | _=>rfl
@[simp] theorem kIsE_exn (tab) (c x):kIsE tab st kw (some (some (.exn c x)))=(match tab c with
  | some b=>kw (.ok (.val (.bl b)) st)
  | none=>kw .bad):=rfl
@[simp] theorem run_sOwnD (i:Nat):srun (sOwnD i u st) ks=ks (.nx (u.set i (some (.bod [] []))) st):=rfl
@[simp] theorem run_sOwnDD (i:Nat):srun (sOwnDD i u st) ks=ks (.nx (u.set i (some (.bdd [] []))) st):=rfl
def kPutK (i:Nat) (u:Sl3) (ds:List Key) (us:List D) (d:D) (k:SRes→Prop):Res W→Prop
 | .ok (.val kd) st=>(match kd.key with
  | some x=>if ds.length<1000000 then k (.nx (u.set i (some (.bod (putK3 ds us x d).1 (putK3 ds us x d).2))) st) else k .bad
  | none=>k .bad)
 | .err c x st=>k (.err c x u st)
 | _=>k .bad
def kSetK (i:Nat) (mi:EM) (u:Sl3) (ds:List Key) (us:List D) (k:SRes→Prop):Res W→Prop
 | .ok (.val d) st=>run (mi u st) (kPutK i u ds us d k)
 | .err c x st=>k (.err c x u st)
 | _=>k .bad
@[simp] theorem kPutK_str (i ds us d) (z:Str):kPutK i u ds us d ks (.ok (.val (.str z)) st)=if ds.length<1000000 then ks (.nx (u.set i (some (.bod (putK3 ds us (.inr z) d).1 (putK3 ds us (.inr z) d).2))) st) else ks .bad:=rfl
@[simp] theorem kSetK_ok (i mi ds us d):kSetK i mi u ds us ks (.ok (.val d) st)=run (mi u st) (kPutK i u ds us d ks):=rfl
def kPutDD (i:Nat) (u:Sl3) (xs us:List D) (d:D) (k:SRes→Prop):Res W→Prop
 | .ok (.val kd) st=>(match kd.tk with
  | some x=>if xs.length<1000000 then k (.nx (u.set i (some (.bdd (ddPut xs us kd x d).1 (ddPut xs us kd x d).2))) st) else k .bad
  | none=>k .bad)
 | .err c x st=>k (.err c x u st)
 | _=>k .bad
def kSetDD (i:Nat) (mi:EM) (u:Sl3) (xs us:List D) (k:SRes→Prop):Res W→Prop
 | .ok (.val d) st=>run (mi u st) (kPutDD i u xs us d k)
 | .err c x st=>k (.err c x u st)
 | _=>k .bad
@[simp] theorem kSetDD_ok (i mi xs us d):kSetDD i mi u xs us ks (.ok (.val d) st)=run (mi u st) (kPutDD i u xs us d ks):=rfl
@[simp] theorem run_eInDD (neg:Bool):run (eInDD neg a b u st) kw=run (a u st) (kBind (fun k=>M.bind (b u) fun d=>M.bind (M.of k.d) fun kd=>M.bind (M.of kd.tk) fun x=>M.bind (ddOf d) fun q=>M.pure (.val (.bl (if neg then !ddHas q.1 x else ddHas q.1 x)))) kw):=run_bind _ _
@[simp] theorem run_eGetDD:run (eGetDD a b u st) kw=run (a u st) (kBind (fun d=>M.bind (b u) fun k=>M.bind (M.of k.d) fun kd=>M.bind (M.of kd.tk) fun x=>M.bind (ddOf d) fun q=>M.bind (M.of (ddAt q.1 q.2 x)) fun y=>M.pure (.val y)) kw):=run_bind _ _
@[simp] theorem run_ddOf_dd (xs us) (k):run (ddOf (.val (.dd xs us)) st) k=k (.ok (xs,us) st):=rfl
@[simp] theorem run_ddOf_bdd (xs us) (k):run (ddOf (.bdd xs us) st) k=k (.ok (xs,us) st):=rfl
def kDdi (st:Store) (k:Res (List D×List D)→Prop):Option MO→Prop
 | some (.ddi ks us)=>k (.ok (ks,us) st)
 | some (.rdd ks us)=>k (.ok (ks,us) st)
 | _=>k .bad
def kDdw (st:Store) (k:Res (List D×List D)→Prop):Option MO→Prop
 | some (.ddi ks us)=>k (.ok (ks,us) st)
 | _=>k .bad
@[simp] theorem kDdi_ddi {k} (xs us):kDdi st k (some (.ddi xs us))=k (.ok (xs,us) st):=rfl
@[simp] theorem kDdi_rdd {k} (xs us):kDdi st k (some (.rdd xs us))=k (.ok (xs,us) st):=rfl
@[simp] theorem kDdw_ddi {k} (xs us):kDdw st k (some (.ddi xs us))=k (.ok (xs,us) st):=rfl
@[simp] theorem run_ddOw_ref (i:Nat) (k):run (ddOw (.val (.ref i)) st) k=kDdw st k st[i]?:=by
 unfold run ddOw kDdw
 dsimp only
 cases st[i]? with
 | none=>rfl
 | some o=>cases o <;> rfl
@[simp] theorem run_ddOf_ref (i:Nat) (k):run (ddOf (.val (.ref i)) st) k=kDdi st k st[i]?:=by
 unfold run ddOf kDdi
 dsimp only
 cases st[i]? with
 | none=>rfl
 | some o=>cases o <;> rfl
@[simp] theorem run_iKeysDD (xs us) (h:m u st=.ok (.val (.dd xs us)) st):run (iKeysDD m u st) kf=kf (.ok xs st):=by unfold run iKeysDD M.bind;rw[h];rfl
@[simp] theorem run_eDc {mi:FM} {c:TM} {own:List Nat}:run (eDc mi g c a b own u st) kw=run (mi u st) (kBind (fun ds=>M.bind (dcL g c a b (wipe3 u own) ds [] []) fun q=>M.pure (.val (.dd q.1 q.2))) kw):=run_bind _ _
@[simp] theorem dcL_nil {c:TM} {u0:Sl3} (xs us):dcL g c a b u0 [] xs us=M.pure (xs,us):=rfl
def kAug (i:Nat) (u:Sl3) (k:SRes→Prop):Res W→Prop
 | .ok (.val d) st=>k (.nx (u.set i (some (.val d))) st)
 | .err c x st=>k (.err c x u st)
 | _=>k .bad
@[simp] theorem kAug_ok (i d):kAug i u ks (.ok (.val d) st)=ks (.nx (u.set i (some (.val d))) st):=rfl
@[simp] theorem run_sSetDS (mi:EM):srun (sSetDS mo mi m u st) ks=run (m u st) (kBind (fun w=>M.bind (M.of w.d) fun d=>M.bind (mo u) fun ow=>M.bind (mi u) fun k=>M.bind (M.of k.d) fun kd=>M.bind (M.of kd.tk) fun x=>M.bind (ddOw ow) fun q=>M.bind (M.chk (q.1.length<1000000)) fun _=>fun st=>match ow with
  | .val (.ref j)=>.ok () (st.set j (.ddi (ddPut q.1 q.2 kd x d).1 (ddPut q.1 q.2 kd x d).2))
  | _=>.bad) (kNx u ks)):=by
 rw[←run_bind]
 unfold srun sSetDS run kNx
 generalize (M.bind (m u) _) st=r
 cases r <;> rfl
end
@[simp] theorem atI_l0 {α:Type} (xs:List α):atI xs 0=xs[0]?:=atI_int xs (by decide)
@[simp] theorem atI_l1 {α:Type} (xs:List α):atI xs 1=xs[1]?:=atI_int xs (by decide)
@[simp] theorem atI_l2 {α:Type} (xs:List α):atI xs 2=xs[2]?:=atI_int xs (by decide)
@[simp] theorem atI_l3 {α:Type} (xs:List α):atI xs 3=xs[3]?:=atI_int xs (by decide)
@[simp] theorem atI_l4 {α:Type} (xs:List α):atI xs 4=xs[4]?:=atI_int xs (by decide)
@[simp] theorem atI_l5 {α:Type} (xs:List α):atI xs 5=xs[5]?:=atI_int xs (by decide)
@[simp] theorem atI_l6 {α:Type} (xs:List α):atI xs 6=xs[6]?:=atI_int xs (by decide)
@[simp] theorem atI_l7 {α:Type} (xs:List α):atI xs 7=xs[7]?:=atI_int xs (by decide)
@[simp] theorem atI_l8 {α:Type} (xs:List α):atI xs 8=xs[8]?:=atI_int xs (by decide)
@[simp] theorem atI_l9 {α:Type} (xs:List α):atI xs 9=xs[9]?:=atI_int xs (by decide)
@[simp] theorem atI_l10 {α:Type} (xs:List α):atI xs 10=xs[10]?:=atI_int xs (by decide)
@[simp] theorem atI_l11 {α:Type} (xs:List α):atI xs 11=xs[11]?:=atI_int xs (by decide)
@[simp] theorem atI_l12 {α:Type} (xs:List α):atI xs 12=xs[12]?:=atI_int xs (by decide)
@[simp] theorem atI_l13 {α:Type} (xs:List α):atI xs 13=xs[13]?:=atI_int xs (by decide)
@[simp] theorem atI_l14 {α:Type} (xs:List α):atI xs 14=xs[14]?:=atI_int xs (by decide)
@[simp] theorem atI_l15 {α:Type} (xs:List α):atI xs 15=xs[15]?:=atI_int xs (by decide)
@[simp] theorem isi2F_tup (xs:List D) (T):isi2F [.val (.tup xs),.val (.ty T)]=isiF [.val (.tup xs),.val (.ty T)]:=rfl
@[simp] theorem isi2F_ctup (xs:List D) (T):isi2F [.val (.ctup xs),.val (.ty T)]=isiF [.val (.ctup xs),.val (.ty T)]:=rfl
@[simp] theorem isi2F_lst (xs:List D) (T):isi2F [.val (.lst xs),.val (.ty T)]=isiF [.val (.lst xs),.val (.ty T)]:=rfl
@[simp] theorem isi2F_str (x:Str) (T):isi2F [.val (.str x),.val (.ty T)]=isiF [.val (.str x),.val (.ty T)]:=rfl
theorem kit_dict:kitB "dict" "dict" = some true:=by decide +kernel
theorem kit_list:kitB "list" "list" = some true:=by decide +kernel
theorem kit_str:kitB "str" "str" = some true:=by decide +kernel
theorem kit_tup:kitB "tuple" "tuple" = some true:=by decide +kernel
@[simp] theorem isi2F_dd (xs us:List D):isi2F [.val (.dd xs us),.val (.ty "dict")]=some (.val (.bl true)):=by unfold isi2F;simp[kit_dict]
@[simp] theorem isiF_lst (xs:List D):isiF [.val (.lst xs),.val (.ty "list")]=some (.val (.bl true)):=by unfold isiF;simp[D.tyn,kit_list]
@[simp] theorem isiF_str (x:Str):isiF [.val (.str x),.val (.ty "str")]=some (.val (.bl true)):=by unfold isiF;simp[D.tyn,kit_str]
@[simp] theorem isiF_ctup (xs:List D):isiF [.val (.ctup xs),.val (.ty "tuple")]=some (.val (.bl true)):=by unfold isiF;simp[D.tyn,kit_tup]
@[simp] theorem dgF_str (xs:List Key) (us:List D) (z:Str):dgF (.val (.dict xs us)) (.val (.str z))=(atK xs us (.inr z)).map .val:=by
 show ((some (atK xs us (.inr z):Option D)).bind fun o=>o.map W.val)=_
 rfl
@[simp] theorem dgF_bod (xs:List Key) (us:List D) (z:Str):dgF (.bod xs us) (.val (.str z))=(atK xs us (.inr z)).map .val:=by
 show ((some (atK xs us (.inr z):Option D)).bind fun o=>o.map W.val)=_
 rfl
theorem lists_map:∀xss:List (List D),D.lists (xss.map .lst)=some xss
 | []=>rfl
 | xs :: xss=>by rw[List.map_cons,D.lists,lists_map xss];rfl
@[simp] theorem sumLF_lists (xss:List (List D)):sumLF [.val (.lst (xss.map .lst)),.val (.lst [])]=if xss.flatten.length≤1000000 then some (.val (.lst xss.flatten)) else none:=by
 show (D.lists (xss.map .lst)).bind _=_
 rw[lists_map];rfl
end M3
namespace M3
open PySem PySem.Spec PyProof.Rows L2
abbrev QM:=Sl3→M (List (D×D))
inductive RepPs (K:KW) (F:Hp) (io:Io):List (D×D)→List (V×V)→Prop where
 | nil:RepPs K F io [] []
 | cons {k v x y ps qs}:Rep K F io k x→Rep K F io v y→RepPs K F io ps qs→RepPs K F io ((k,v) :: ps) ((x,y) :: qs)
theorem RepPs.length {K:KW} {F:Hp} {io:Io}:∀{ps qs},RepPs K F io ps qs→ps.length=qs.length
 | _,_,.nil=>rfl
 | _,_,.cons _ _ t=>congrArg Nat.succ (RepPs.length t)
abbrev BX:=List (NestedKey×Addr×V)
abbrev PX:BX→DkX→Prop:=Paired fun b x=>x.1=b.1∧x.2.1=b.2.1∧RelV b.2.2 x.2.2
theorem PX.length:∀{bs:BX} {xs:DkX},PX bs xs→bs.length=xs.length
 | _,_,.nil=>rfl
 | _,_,.cons _ t=>congrArg Nat.succ (PX.length t)
def ddAll:List (D×D)→List D→List D→Option (List D×List D)
 | [],ks,us=>some (ks,us)
 | (k,v) :: r,ks,us=>k.tk.bind fun x=>ddAll r (ddPut ks us k x v).1 (ddPut ks us k x v).2
end M3
namespace M3
open PySem PySem.Spec PyProof.Rows L2
def lc2L (g:GM) (c:TM) (mi1:FM) (g1:GM) (c1:TM) (e:EM) (vs1:List Nat) (u0:Sl3):List D→List D→M (List D)
 | [],acc=>M.pure acc
 | d :: ds,acc=>M.bind (M.of (g d u0)) fun u1=>M.bind (M.quiet (c u1)) fun k=>
  if k=true then M.bind (M.quiet (mi1 u1)) fun ds1=>M.bind (lcL g1 c1 e (wipe3 u1 vs1) ds1 acc) fun acc'=>lc2L g c mi1 g1 c1 e vs1 u0 ds acc'
  else lc2L g c mi1 g1 c1 e vs1 u0 ds acc
def fLc2 (mi:FM) (g:GM) (c:TM) (mi1:FM) (g1:GM) (c1:TM) (e:EM) (own vs1:List Nat):FM:=fun u=>M.bind (mi u) fun ds=>lc2L g c mi1 g1 c1 e vs1 (wipe3 u own) ds []
theorem bind_assoc3 {α β γ:Type} (m:M α) (f:α→M β) (f2:β→M γ) (st:Store):M.bind (M.bind m f) f2 st=M.bind m (fun a=>M.bind (f a) f2) st:=by
 unfold M.bind
 cases m st <;> rfl
section
variable {P:P3} {pos:Pos}
theorem lc2_ok {mi:FM} {g g1:GM} {gs gs1:List Nat} {c c1:TM} {mi1:FM} {e:EM} {own vs1:List Nat} {ti ti1:TI} (hgs:∀i∈gs,i∈own) (hgs1:∀i∈gs1,i∈vs1)
  (hti:∀(B0 B:Addr→Prop) (s:S3) (st:Store) (u:Sl3) (z:L2.St) (R:It→Hp→Prop),Wd P.G B st s→Slo P.G P.hx B0 B s u z→Post P.G B (fun s ds J=>Itm P.G s ds J) (fun c d H=>P.wx c d z H) s R (mi u st)→ti z s.H R)
  (hti1:∀(B0 B:Addr→Prop) (s:S3) (st:Store) (u:Sl3) (z:L2.St) (R:It→Hp→Prop),Wd P.G B st s→Slo P.G P.hx B0 B s u z→Post P.G B (fun s ds J=>Itm P.G s ds J) (fun c d H=>noW c d z H) s R (mi1 u st)→ti1 z s.H R)
  {B0 B:Addr→Prop} {s:S3} {st:Store} {u:Sl3} {z:L2.St} {Q:VK} (wd:Wd P.G B st s) (sl:Slo P.G P.hx B0 B s u z) (h:PostF P.G B (fun c d H=>P.wx c d z H) s Q (fLc2 mi g c mi1 g1 c1 e own vs1 u st)) :
  tLc2 ti (tG P.G P.hx g gs) (tT P.G P.hx noW c) ti1 (tG P.G P.hx g1 gs1) (tT P.G P.hx noW c1) (tE P.G P.hx noW e) own vs1 z s.H Q:=by
 refine hti B0 B s st u z _ wd sl (PostF.bind h fun ds st1 s1 J l1 wd1 im h1=>?_)
 intro p hp
 obtain⟨wd2,l2⟩:=own_wd (ho:=.lst []) wd1 hp
 have nb:¬B p:=wd1.freshB hp
 refine⟨fun i n H'=>n=ds.length - i∧i≤ds.length∧∃(s':S3) (st':Store) (acc:List D) (vs:List V),s'.H=H'∧Le B s1 s'∧Wd P.G (plus B p) st' s'∧s'.H p=some (.lst vs)∧RepL P.G.R s'.F s'.io acc vs∧
   PostF P.G B (fun c d H=>P.wx c d z H) s' Q (lc2L g c mi1 g1 c1 e vs1 (wipe3 u own) (ds.drop i) acc st'),
  ⟨_,rfl,Nat.zero_le _,_,st1,[],[],rfl,l2,wd2,upd_same,.nil,PostF.mono l2 h1⟩,?_⟩
 rintro i n H' ⟨rfl,hi,s',st',acc,vs,rfl,l',w',hq,rl,pf⟩
 rcases Nat.lt_or_ge i ds.length with hlt | hge
 ·right
  refine⟨im.go s' l'.io l'.fr w'.sub i hlt,fun H2=>i+1≤ds.length∧∃(s':S3) (st':Store) (acc:List D) (vs:List V),s'.H=H2∧Le B s1 s'∧Wd P.G (plus B p) st' s'∧s'.H p=some (.lst vs)∧RepL P.G.R s'.F s'.io acc vs∧
   PostF P.G B (fun c d H=>P.wx c d z H) s' Q (lc2L g c mi1 g1 c1 e vs1 (wipe3 u own) (ds.drop (i+1)) acc st'),fun H2 q=>⟨_,by omega,rfl,q.1,q.2⟩,fun x H2 y=>?_⟩
  obtain⟨rfl,d,ed,rd⟩:=im.yld s' l'.io l'.fr w'.sub i x _ hlt y
  rw[List.drop_eq_getElem_cons hlt] at pf
  have ed':ds[i]=d:=by rw[List.getElem?_eq_getElem hlt] at ed;cases ed;rfl
  rw[ed'] at pf
  unfold lc2L at pf
  obtain⟨u1,eg,pf⟩:=PostF.of_of pf
  have slw:Slo P.G P.hx B0 B s' (wipe3 u own) (L2.wipe z own):=(sl.mono' (l1.trans l')).wipe own
  refine⟨B0,B,s',st',wipe3 u own,d,u1,rfl,w'.less (fun a b=>.inl b),slw,rd,eg,fun z2 sl2 b2=>⟨?_,?_⟩⟩
  ·rw[b2.wipe hgs,lc_ok.wipe_wipe]
  ·obtain⟨k,st3,ek,pf⟩:=of_quiet pf
   refine⟨B0,plus B p,s',st',u1,rfl,w',sl2.more fun a b=>.inl b,?_⟩
   rw[ek]
   intro s3 k' l3 w3 rk
   subst rk
   have hq3:s3.H p=some (.lst vs):=(l3.hid p (.inr rfl)).trans hq
   have rl3:=rl.mono l3.fr l3.io
   have pf:=PostF.mono (plus_le l3) pf
   have sl3:Slo P.G P.hx B0 B s3 u1 z2:=sl2.mono' (plus_le l3)
   cases k with
   | false=>exact⟨hlt,s3,st3,acc,vs,rfl,l'.trans (plus_le l3),w3,hq3,rl3,pf⟩
   | true=>
    rw[if_pos rfl] at pf
    rw[if_pos rfl]
    obtain⟨ds1,st4,ed1,pf⟩:=of_quiet pf
    refine hti1 B0 (plus B p) s3 st3 u1 z2 _ w3 (sl3.more fun a b=>.inl b) ?_
    rw[ed1]
    intro s4 J1 l4 w4 im1
    have hq4:s4.H p=some (.lst vs):=(l4.hid p (.inr rfl)).trans hq3
    have pf:=PostF.mono (plus_le l4) pf
    have sl4:Slo P.G P.hx B0 B s4 u1 z2:=sl3.mono' (plus_le l4)
    refine⟨fun j k H'=>k=ds1.length - j∧j≤ds1.length∧∃(s':S3) (st':Store) (acc:List D) (vs:List V),s'.H=H'∧Le B s4 s'∧Wd P.G (plus B p) st' s'∧s'.H p=some (.lst vs)∧RepL P.G.R s'.F s'.io acc vs∧
      PostF P.G B (fun c d H=>P.wx c d z H) s' Q (M.bind (lcL g1 c1 e (wipe3 u1 vs1) (ds1.drop j) acc) (fun acc'=>lc2L g c mi1 g1 c1 e vs1 (wipe3 u own) (ds.drop (i+1)) acc') st'),
     ⟨_,rfl,Nat.zero_le _,s4,st4,acc,vs,rfl,Le.refl _,w4,hq4,rl3.mono l4.fr l4.io,pf⟩,?_⟩
    rintro j n1 H4 ⟨rfl,hj,s5,st5,acc5,vs5,rfl,l5,w5,hq5,rl5,pf⟩
    rcases Nat.lt_or_ge j ds1.length with jlt | jge
    ·right
     refine⟨im1.go s5 l5.io l5.fr w5.sub j jlt,fun H2=>j+1≤ds1.length∧∃(s':S3) (st':Store) (acc:List D) (vs:List V),s'.H=H2∧Le B s4 s'∧Wd P.G (plus B p) st' s'∧s'.H p=some (.lst vs)∧RepL P.G.R s'.F s'.io acc vs∧
      PostF P.G B (fun c d H=>P.wx c d z H) s' Q (M.bind (lcL g1 c1 e (wipe3 u1 vs1) (ds1.drop (j+1)) acc) (fun acc'=>lc2L g c mi1 g1 c1 e vs1 (wipe3 u own) (ds.drop (i+1)) acc') st'),fun H2 q=>⟨_,by omega,rfl,q.1,q.2⟩,fun x H2 y=>?_⟩
     obtain⟨rfl,d1,ed1,rd1⟩:=im1.yld s5 l5.io l5.fr w5.sub j x _ jlt y
     rw[List.drop_eq_getElem_cons jlt] at pf
     have ed1':ds1[j]=d1:=by rw[List.getElem?_eq_getElem jlt] at ed1;cases ed1;rfl
     rw[ed1'] at pf
     unfold lcL at pf
     rw[bind_assoc3] at pf
     obtain⟨u2,eg1,pf⟩:=PostF.of_of pf
     have slw1:Slo P.G P.hx B0 (plus B p) s5 (wipe3 u1 vs1) (L2.wipe z2 vs1):=((sl4.mono' l5).more fun a b=>.inl b).wipe vs1
     refine⟨B0,plus B p,s5,st5,wipe3 u1 vs1,d1,u2,rfl,w5,slw1,rd1,eg1,fun z3 sl5 b3=>⟨?_,?_⟩⟩
     ·rw[b3.wipe hgs1,lc_ok.wipe_wipe]
     ·rw[bind_assoc3] at pf
      obtain⟨k1,st6,ek1,pf⟩:=of_quiet pf
      refine⟨B0,plus B p,s5,st5,u2,rfl,w5,sl5,?_⟩
      rw[ek1]
      intro s6 k1' l6 w6 rk
      subst rk
      have hq6:s6.H p=some (.lst vs5):=(l6.hid p (.inr rfl)).trans hq5
      have rl6:=rl5.mono l6.fr l6.io
      have pf:=PostF.mono (plus_le l6) pf
      cases k1 with
      | false=>exact⟨jlt,s6,st6,acc5,vs5,rfl,l5.trans (plus_le l6),w6,hq6,rl6,pf⟩
      | true=>
       rw[if_pos rfl] at pf
       rw[bind_assoc3] at pf
       obtain⟨w,st7,ew,pf⟩:=of_quiet pf
       rw[if_pos rfl]
       refine⟨B0,plus B p,s6,st6,u2,rfl,w6,sl5.mono' l6,?_⟩
       rw[ew]
       intro s7 v7 l7 w7 r7
       rw[bind_assoc3] at pf
       obtain⟨x7,ex,pf⟩:=PostF.of_of pf
       rw[bind_assoc3] at pf
       obtain⟨hz,pf⟩:=PostF.of_chk pf
       have hq7:s7.H p=some (.lst vs5):=(l7.hid p (.inr rfl)).trans hq6
       have rl7:=rl6.mono l7.fr l7.io
       have rx:Rep P.G.R s7.F s7.io x7 v7:=by
        cases w with
        | val d=>cases ex;exact r7
        | _=>cases ex
       obtain⟨w8,l8⟩:=grow_wd (xs:=[]) (d:=.non) (v:=.non) w7 nb hq7 (.lst (vs5++[v7]))
       exact⟨vs5,hq7,by rw[←rl7.length];exact szl hz,jlt,_,st7,acc5++[x7],vs5++[v7],rfl,((l5.trans (plus_le l6)).trans (plus_le l7)).trans l8,w8,upd_same,rl7.append (.cons rx .nil),PostF.mono ((plus_le l7).trans l8) pf⟩
    ·left
     have e1:ds1.drop j=[]:=List.drop_eq_nil_of_le jge
     rw[e1] at pf
     exact⟨im1.stop s5 l5.io l5.fr w5.sub j jge,hlt,s5,st5,acc5,vs5,rfl,((l'.trans (plus_le l3)).trans (plus_le l4)).trans l5,w5,hq5,rl5,pf⟩
 ·left
  have e0:ds.drop i=[]:=List.drop_eq_nil_of_le hge
  rw[e0] at pf
  exact⟨im.stop s' l'.io l'.fr w'.sub i hge,pf s' p vs (Le.refl _) w' nb hq rl⟩
theorem ms_setLc2 {i:Nat} {y:Str} {py spos:Pos} {elt tg iter tg1 iter1:Expr} {ifs ifs1:List Expr} {scope:Scope} {own:List (Str×Nat)} {vs1:List Nat} {mi mi1:FM} {g g1:GM} {gs gs1:List Nat} {c c1:TM} {m:EM} (hc:Cool P.X) (hN:P.X.N.Nodup) (hi:MI P tg iter mi) (ok:BlkOk P.X.N P.X.env.scope scope own)
  (hg:∀(s:Shared) (H:Hp) (C:Addr) (cl:List (Str×Addr)) (fp:List Addr),CoolS P.X.A s H (frs P.X.stack) fp→MG (P.blk s H scope C cl fp) tg g gs) (ht:∀(s:Shared) (H:Hp) (C:Addr) (cl:List (Str×Addr)) (fp:List Addr),CoolS P.X.A s H (frs P.X.stack) fp→MIfs (P.blk s H scope C cl fp) ifs c)
  (hi1:∀(s:Shared) (H:Hp) (C:Addr) (cl:List (Str×Addr)) (fp:List Addr),CoolS P.X.A s H (frs P.X.stack) fp→MI (P.blk s H scope C cl fp) tg1 iter1 mi1)
  (hg1:∀(s:Shared) (H:Hp) (C:Addr) (cl:List (Str×Addr)) (fp:List Addr),CoolS P.X.A s H (frs P.X.stack) fp→MG (P.blk s H scope C cl fp) tg1 g1 gs1) (ht1:∀(s:Shared) (H:Hp) (C:Addr) (cl:List (Str×Addr)) (fp:List Addr),CoolS P.X.A s H (frs P.X.stack) fp→MIfs (P.blk s H scope C cl fp) ifs1 c1)
  (he:∀(s:Shared) (H:Hp) (C:Addr) (cl:List (Str×Addr)) (fp:List Addr),CoolS P.X.A s H (frs P.X.stack) fp→ME (P.blk s H scope C cl fp) elt m)
  (hsw:swapsWith (.ListComp elt [⟨tg,iter,ifs,0⟩,⟨tg1,iter1,ifs1,0⟩] scope pos) (some (.Name y py)) spos.line P.X.env=pure true) (hy:P.X.N[i]?=some y:=by rfl) (hyl:P.X.env.scope.names.lookup y=some .local:=by rfl)
  (hv:∀i∈vs1,i∈own.map (·.2):=by decide) (hgs:∀i∈gs,i∈own.map (·.2):=by decide) (hgs1:∀i∈gs1,i∈vs1:=by decide)
  (hs:∀x,foldedSetIterable iter P.X.env x=pure x:=by intro _;rfl) (hs1:∀env x,foldedSetIterable iter1 env x=pure x:=by intro _ _;rfl) :
  MS P (.Assign [.Name y py] (.ListComp elt [⟨tg,iter,ifs,0⟩,⟨tg1,iter1,ifs1,0⟩] scope pos) spos) (sSet i (eF (fLc2 mi g c mi1 g1 c1 m (own.map (·.2)) vs1))):=by
 obtain⟨ti,pi,hti⟩:=hi.out
 refine MS.mk' (ps_setLc2 (own:=own) (vs1:=vs1) (wi1:=tI P.G P.hx noW mi1) (g:=tG P.G P.hx g gs) (tt:=tT P.G P.hx noW c) (g1:=tG P.G P.hx g1 gs1) (tt1:=tT P.G P.hx noW c1) (te:=tE P.G P.hx noW m) hc hN hy hyl hsw pi ok hv (fun s H C cl fp co=>(hg s H C cl fp co).pg) (fun s H C cl fp co=>(ht s H C cl fp co).pts)
  (fun s H C cl fp co=>(hi1 s H C cl fp co).pi) (fun s H C cl fp co=>(hg1 s H C cl fp co).pg) (fun s H C cl fp co=>(ht1 s H C cl fp co).pts) (fun s H C cl fp co=>(he s H C cl fp co).pe) hs hs1) fun B0 B s o u z D b0 wd sl h=>?_
 refine lc2_ok hgs hgs1 hti (fun B0 B s st u z R w l q=>⟨B0,B,s,st,u,rfl,w,l,q⟩) wd sl ?_
 unfold sSet eF M.bind at h
 cases e:fLc2 mi g c mi1 g1 c1 m (own.map (·.2)) vs1 u o with
 | ok xs st'=>
  rw[e] at h
  dsimp only[M.pure] at h
  exact fun s' p vs l w nb hp r=>h B ⟨s'.io,upd s'.F p (.lst vs),s'.H⟩ _ b0 ((l.trans (freeze_le w)).less b0) (freeze_wd w nb hp) ((sl.mono' (l.trans (freeze_le w))).set (.lst upd_same (r.mono (freeze_le w).fr (freeze_le w).io)) i)
 | err c x st'=>rw[e] at h;exact fun s' cv dd l w q=>h B s' z cv dd b0 (l.less b0) w (sl.mono' l) q
 | bad=>rw[e] at h;exact h
end
def sOwnDsD (i:Nat) (q:QM):SM:=fun u st=>match q u st with
 | .ok ps st'=>if ps.length≤15 then match ddAll ps [] [] with
  | some r=>.nx (u.set i (some (.bdd r.1 r.2))) st'
  | none=>.bad
  else .bad
 | _=>.bad
end M3
namespace M3
open PySem PySem.Spec PyProof.Rows L2
section
variable {P:P3} {pos:Pos}
def idxF (xs:List D) (w:W):Option W:=match w with
 | .val (.str x)=>(D.strs xs).bind fun ys=>(ys.findIdx? fun y=>decide (y=x)).map fun j=>.val (.int (j:Int))
 | _=>none
end
def eGetD2 (a b c:EM):EM:=fun u=>M.bind (a u) fun d=>M.bind (ddOf d) fun _=>M.bind (b u) fun k=>M.bind (M.of k.d) fun kd=>M.bind (M.of kd.tk) fun x=>M.bind (c u) fun z=>M.bind (M.of z.d) fun zd=>M.bind (ddOf d) fun q=>M.pure (.val ((ddAt q.1 q.2 x).getD zd))
end M3
namespace M3
open PySem PySem.Spec PyProof.Rows L2
section
variable {a b c:EM} {u:Sl3} {st:Store} {kw} {ks}
@[simp] theorem run_eGetD2:run (eGetD2 a b c u st) kw=run (a u st) (kBind (fun d=>M.bind (ddOf d) fun _=>M.bind (b u) fun k=>M.bind (M.of k.d) fun kd=>M.bind (M.of kd.tk) fun x=>M.bind (c u) fun z=>M.bind (M.of z.d) fun zd=>M.bind (ddOf d) fun q=>M.pure (.val ((ddAt q.1 q.2 x).getD zd))) kw):=run_bind _ _
end
end M3
namespace M3
open PySem PySem.Spec PyProof.Rows L2
def W.arg:W→Option W
 | .val d=>some (.val d)
 | .len xs=>some (.len xs)
 | _=>none
def argsW:List W→Option (List W)
 | []=>some []
 | w :: ws=>match w.arg,argsW ws with
  | some a,some as=>some (a :: as)
  | _,_=>none
theorem RepWs.get {G:G3} {X:Hex} {B:Addr→Prop} {s:S3}:∀{ws:List W} {vs:List V} {i:Nat} {w:W},RepWs G X B s ws vs→ws[i]?=some w→∃v,vs[i]?=some v∧RepW G X B s w v
 | _,_,_,_,.nil,e=>by simp at e
 | _,_,0,_,.cons r _,e=>by simp at e;subst e;exact⟨_,rfl,r⟩
 | _,_,i+1,_,.cons _ t,e=>by
  obtain⟨v,h1,h2⟩:=RepWs.get (i:=i) t (by simpa using e)
  exact⟨v,by simpa using h1,h2⟩
theorem RepW.any {G:G3} {X X':Hex} {B:Addr→Prop} {s:S3} {w:W} {v:V} (r:RepW G X B s w v) (h:∀c x,w≠.exn c x):RepW G X' B s w v:=by
 cases w with
 | exn c x=>exact absurd rfl (h c x)
 | _=>exact r
theorem RepWs.any {G:G3} {X X':Hex} {B:Addr→Prop} {s:S3}:∀{ws:List W} {vs:List V},RepWs G X B s ws vs→(∀a∈ws,a.own=false∧∀c x,a≠.exn c x)→RepWs G X' B s ws vs
 | _,_,.nil,_=>.nil
 | _,_,.cons r t,h=>.cons (r.any (h _ List.mem_cons_self).2) (RepWs.any t fun a ha=>h a (List.mem_cons_of_mem _ ha))
def eCallW (n:Nat) (m:List W→M D) (ma:AM):EM:=fun u=>M.bind (ma u) fun ws=>M.bind (M.of (argsW ws)) fun as=>M.bind (M.chk (as.length=n)) fun _=>M.bind (m as) fun d=>M.pure (.val d)
section
variable {k:Res W→Prop} {kd:Res D→Prop} {st:Store} {u:Sl3} {m:EM} {ma:AM}
@[simp] theorem run_eCallW (n:Nat) (f:List W→M D):run (eCallW n f ma u st) k=run (ma u st) (kBind (fun ws=>M.bind (M.of (argsW ws)) fun as=>M.bind (M.chk (as.length=n)) fun _=>M.bind (f as) fun d=>M.pure (.val d)) k):=run_bind _ _
def kLend (k:Res W→Prop):Res W→Prop
 | .ok (.val d) st'=>k (.ok (.val d) st')
 | _=>k .bad
@[simp] theorem kLend_ok (d:D):kLend k (.ok (.val d) st)=k (.ok (.val d) st):=rfl
@[simp] theorem lstCF_len (xs:List D):lstCF [.len xs]=some xs:=rfl
@[simp] theorem lenF_len (xs:List D):lenF [.len xs]=some (.val (.int xs.length)):=rfl
@[simp] theorem ixF_len (xs:List D) (i:Int):ixF (.len xs) (.val (.int i))=(atI xs i).map .val:=rfl
@[simp] theorem argsW_nil:argsW []=some []:=rfl
@[simp] theorem argsW_val (d:D) (ws:List W):argsW (.val d :: ws)=(argsW ws).map (.val d :: ·):=by
 rw[argsW];cases argsW ws <;> rfl
@[simp] theorem argsW_len (xs:List D) (ws:List W):argsW (.len xs :: ws)=(argsW ws).map (.len xs :: ·):=by
 rw[argsW];cases argsW ws <;> rfl
end
end M3
namespace M3
open PySem PySem.Spec PyProof.Rows L2
def cntL (xs:List D) (w:W):Option W:=w.rd.bind fun d=>match D.pys xs,d.py with
 | some ps,some p=>if SeqAt.shaped p=true∧SeqAt.shaped (.list ps)=true then some (.val (.int ((ps.countP fun z=>PyData.eqv z p:Nat):Int))) else none
 | _,_=>none
def eCntL (a b:EM):EM:=fun u=>M.bind (a u) fun x=>M.bind (M.of x.ls) fun xs=>M.bind (b u) fun y=>M.bind (M.of x.ls) fun _=>M.of (cntL xs y)
@[simp] theorem run_eCntL {a b:EM} {u:Sl3} {st:Store} {kw:Res W→Prop}:run (eCntL a b u st) kw=run (a u st) (kBind (fun x=>M.bind (M.of x.ls) fun xs=>M.bind (b u) fun y=>M.bind (M.of x.ls) fun _=>M.of (cntL xs y)) kw):=run_bind _ _
def lstOf (w:W):M (Nat×List D):=fun st=>match w with
 | .val (.ref k)=>match st[k]? with
  | some (.lst xs)=>.ok (k,xs) st
  | _=>.bad
 | _=>.bad
def eLenS (m:EM):EM:=fun u=>M.bind (m u) fun w=>M.bind (lstOf w) fun q=>M.pure (.val (.int (q.2.length:Int)))
def ePop0S (m:EM):EM:=fun u=>M.bind (m u) fun w=>M.bind (lstOf w) fun q=>fun st=>match q.2 with
 | d :: ds=>.ok (.val d) (st.set q.1 (.lst ds))
 | []=>.bad
def eAppS (mo m:EM):EM:=fun u=>M.bind (mo u) fun w=>M.bind (lstOf w) fun _=>M.bind (m u) fun y=>M.bind (M.of y.d) fun d=>M.bind (lstOf w) fun q=>M.bind (M.chk (q.2.length<1000000)) fun _=>fun st=>.ok (.val .non) (st.set q.1 (.lst (q.2++[d])))
def mulLF:W→W→Option W
 | .val (.lst xs),.val (.int n)=>if 0≤n∧n≤1000∧xs.length≤1000 then some (.val (.lst (List.replicate n.toNat xs).flatten)) else none
 | _,_=>none
@[simp] theorem mulLF_lst (xs:List D) (n:Int):mulLF (.val (.lst xs)) (.val (.int n))=if 0≤n∧n≤1000∧xs.length≤1000 then some (.val (.lst (List.replicate n.toNat xs).flatten)) else none:=rfl
def eCallD (n:Nat) (dd:List D) (mf:List D→M D) (ma:AM):EM:=fun u=>M.bind (ma u) fun ws=>M.bind (M.of (asDs ws)) fun ds=>M.bind (M.chk (ds.length=n)) fun _=>M.bind (mf (ds++dd)) fun d=>M.pure (.val d)
@[simp] theorem run_eCallD {n:Nat} {dd:List D} {mf:List D→M D} {ma:AM} {u:Sl3} {st:Store} {kw:Res W→Prop}:run (eCallD n dd mf ma u st) kw=run (ma u st) (kBind (fun ws=>M.bind (M.of (asDs ws)) fun ds=>M.bind (M.chk (ds.length=n)) fun _=>M.bind (mf (ds++dd)) fun d=>M.pure (.val d)) kw):=run_bind _ _
section
variable {α:Type} {kw:Res W→Prop} {kf:Res (List D)→Prop} {ks:SRes→Prop} {st:Store} {u:Sl3} {mo m:EM} {fm:FM}
def kNewL (k:Res W→Prop):Res (List D)→Prop
 | .ok xs st=>k (.ok (.val (.ref st.length)) (st++[.lst xs]))
 | .err c x st=>k (.err c x st)
 | .bad=>k .bad
@[simp] theorem kNewL_ok (xs):kNewL kw (.ok xs st)=kw (.ok (.val (.ref st.length)) (st++[.lst xs])):=rfl
@[simp] theorem run_eNewL:run (eNewL fm u st) kw=run (fm u st) (kNewL kw):=by
 unfold run eNewL kNewL
 cases fm u st <;> rfl
def kLst (st:Store) (k:Res (Nat×List D)→Prop) (i:Nat):Option MO→Prop
 | some (.lst xs)=>k (.ok (i,xs) st)
 | _=>k .bad
@[simp] theorem kLst_lst {k} (i xs):kLst st k i (some (.lst xs))=k (.ok (i,xs) st):=rfl
@[simp] theorem run_lstOf (i:Nat) (k):run (lstOf (.val (.ref i)) st) k=kLst st k i st[i]?:=by
 unfold run lstOf kLst
 dsimp only
 cases st[i]? with
 | none=>rfl
 | some o=>cases o <;> rfl
@[simp] theorem run_eLenS:run (eLenS m u st) kw=run (m u st) (kBind (fun w=>M.bind (lstOf w) fun q=>M.pure (.val (.int (q.2.length:Int)))) kw):=run_bind _ _
@[simp] theorem run_ePop0S:run (ePop0S m u st) kw=run (m u st) (kBind (fun w=>M.bind (lstOf w) fun q=>fun st=>match q.2 with
 | d :: ds=>.ok (.val d) (st.set q.1 (.lst ds))
 | []=>.bad) kw):=run_bind _ _
@[simp] theorem run_eAppS:run (eAppS mo m u st) kw=run (mo u st) (kBind (fun w=>M.bind (lstOf w) fun _=>M.bind (m u) fun y=>M.bind (M.of y.d) fun d=>M.bind (lstOf w) fun q=>M.bind (M.chk (q.2.length<1000000)) fun _=>fun st=>.ok (.val .non) (st.set q.1 (.lst (q.2++[d])))) kw):=run_bind _ _
end
end M3
namespace M3
open PySem PySem.Spec PyProof.Rows L2 NdefX
end M3
namespace M3
open PySem PySem.Spec PyProof.Rows L2 NdefX
def sRaiseX (c:String) (ma:AM):SM:=fun u st=>match ma u st with
 | .ok ws st'=>match asDs ws with
  | some [d]=>.err c d u st'
  | _=>.bad
 | _=>.bad
end M3
namespace M3
open PySem
section
variable {u:Sl3} {st:Store} {ks:SRes→Prop} {kw:Res W→Prop}
def kRaiseX (c:String) (u:Sl3) (k:SRes→Prop):Res (List W)→Prop
 | .ok ws st'=>(match asDs ws with
  | some [d]=>k (.err c d u st')
  | _=>k .bad)
 | _=>k .bad
@[simp] theorem run_sRaiseX (c) (ma:AM):srun (sRaiseX c ma u st) ks=M3.run (ma u st) (kRaiseX c u ks):=by
 unfold srun sRaiseX M3.run kRaiseX
 cases ma u st with
 | ok ws st'=>
  dsimp only
  cases asDs ws with
  | none=>rfl
  | some ds=>
   match ds with
   | []=>rfl
   | [d]=>rfl
   | _ :: _ :: _=>rfl
 | err _ _ _=>rfl
 | bad=>rfl
@[simp] theorem kRaiseX_ok (c) (d:D):kRaiseX c u ks (.ok [.val d] st)=ks (.err c d u st):=rfl
def kXf (cs:List String) (st:Store) (k:Res W→Prop):Option (Option W)→Prop
 | some (some (.exn c x))=>if c∈cs then k (.ok (.val x) st) else k .bad
 | _=>k .bad
@[simp] theorem run_eXf (i:Nat) (cs):M3.run (eXf i cs u st) kw=kXf cs st kw u[i]?:=by
 unfold M3.run eXf kXf
 cases u[i]? with
 | none=>rfl
 | some o=>
  cases o with
  | none=>rfl
  | some w=>
   cases w with
   | exn c x=>dsimp only;split <;> rfl
   | _=>rfl
@[simp] theorem kXf_exn (cs) (c x):kXf cs st kw (some (some (.exn c x)))=if c∈cs then kw (.ok (.val x) st) else kw .bad:=rfl
def kOwnDsD (i:Nat) (u:Sl3) (k:SRes→Prop):Res (List (D×D))→Prop
 | .ok ps st=>if ps.length≤15 then (match ddAll ps [] [] with
  | some r=>k (.nx (u.set i (some (.bdd r.1 r.2))) st)
  | none=>k .bad) else k .bad
 | _=>k .bad
@[simp] theorem run_sOwnDsD (i:Nat) (q:QM):srun (sOwnDsD i q u st) ks=M3.run (q u st) (kOwnDsD i u ks):=by
 unfold srun sOwnDsD M3.run kOwnDsD
 cases q u st with
 | ok ps st'=>
  dsimp only
  split
  ·cases ddAll ps [] [] <;> rfl
  ·rfl
 | _=>rfl
end
end M3
namespace M3
open PySem PySem.Spec PyProof.Rows L2 NdefX
end M3
namespace M3
open PySem PySem.Spec PyProof.Rows L2
def sRetF (m:FM):SM:=fun u st=>match m u st with
 | .ok xs st'=>.rt (.bor xs) st'
 | .err c x st'=>.err c x u st'
 | .bad=>.bad
def fProp (c:String) (mf:List D→M (List D)) (mo:EM):FM:=fun u=>M.bind (mo u) fun w=>M.bind (insOf w) fun q=>M.bind (M.chk (q.2.1=c)) fun _=>M.quiet (mf [.ref q.1])
def eCon (cs:List (String×D)) (f:Str) (m:EM):EM:=fun u=>M.bind (m u) fun w=>M.bind (insOf w) fun q=>M.bind (M.chk (q.2.2.lookup f=none)) fun _=>M.bind (M.of (cs.lookup q.2.1)) fun d=>M.pure (.val d)
def fListA (ma:AM):FM:=fun u=>M.bind (ma u) fun ws=>match ws with
 | [w]=>M.bind (lstOf w) fun q=>M.pure q.2
 | _=>M.bad
section
variable {u:Sl3} {st:Store} {ks:SRes→Prop} {kw:Res W→Prop} {kl:Res (List D)→Prop}
def kRetF (u:Sl3) (k:SRes→Prop):Res (List D)→Prop
 | .ok xs st=>k (.rt (.bor xs) st)
 | .err c x st=>k (.err c x u st)
 | .bad=>k .bad
@[simp] theorem kRetF_ok (xs):kRetF u ks (.ok xs st)=ks (.rt (.bor xs) st):=rfl
@[simp] theorem run_sRetF (m:FM):srun (sRetF m u st) ks=M3.run (m u st) (kRetF u ks):=by
 unfold srun sRetF M3.run kRetF
 cases m u st <;> rfl
def kRetL (k:Res (List D)→Prop):SRes→Prop
 | .rt (.bor xs) st=>k (.ok xs st)
 | .err c x _ st=>k (.err c x st)
 | _=>k .bad
@[simp] theorem kRetL_bor (xs):kRetL kl (.rt (.bor xs) st)=kl (.ok xs st):=rfl
@[simp] theorem kRetL_err (c x):kRetL kl (.err c x u st)=kl (.err c x st):=rfl
@[simp] theorem run_fListA (ma:AM):M3.run (fListA ma u st) kl=M3.run (ma u st) (kBind (fun ws=>match ws with
 | [w]=>M.bind (lstOf w) fun q=>M.pure q.2
 | _=>M.bad) kl):=run_bind _ _
@[simp] theorem run_fProp (c) (mf:List D→M (List D)) (mo:EM):M3.run (fProp c mf mo u st) kl=M3.run (mo u st) (kBind (fun w=>M.bind (insOf w) fun q=>M.bind (M.chk (q.2.1=c)) fun _=>M.quiet (mf [.ref q.1])) kl):=run_bind _ _
@[simp] theorem run_eCon (cs f) (m:EM):M3.run (eCon cs f m u st) kw=M3.run (m u st) (kBind (fun w=>M.bind (insOf w) fun q=>M.bind (M.chk (q.2.2.lookup f=none)) fun _=>M.bind (M.of (cs.lookup q.2.1)) fun d=>M.pure (.val d)) kw):=run_bind _ _
end
end M3
namespace M3
open PySem PySem.Spec PyProof.Rows L2
def eIdxL (a b:EM):EM:=fun u=>M.bind (a u) fun x=>M.bind (M.of x.ls) fun xs=>M.bind (b u) fun y=>M.bind (M.of x.ls) fun _=>M.of (idxF xs y)
section
variable {a b:EM} {u:Sl3} {st:Store} {kw}
@[simp] theorem run_eIdxL:run (eIdxL a b u st) kw=run (a u st) (kBind (fun x=>M.bind (M.of x.ls) fun xs=>M.bind (b u) fun y=>M.bind (M.of x.ls) fun _=>M.of (idxF xs y)) kw):=run_bind _ _
end
end M3
namespace M3
open PySem PySem.Spec PyProof.Rows L2
def mulTF:W→W→Option W
 | .val (.tup xs),.val (.int n)=>if 0≤n∧n≤1000∧xs.length≤1000 then some (.val (.tup (List.replicate n.toNat xs).flatten)) else none
 | _,_=>none
@[simp] theorem mulTF_tup (xs:List D) (n:Int):mulTF (.val (.tup xs)) (.val (.int n))=if 0≤n∧n≤1000∧xs.length≤1000 then some (.val (.tup (List.replicate n.toNat xs).flatten)) else none:=rfl
end M3
namespace M3
open PySem PySem.Spec PyProof.Rows L2
def G3.at (G:G3) (b:Heap):G3:={ G with base:=b,own:=fun _=>none }
def KnowsTo (b b':Heap):Prop:=∀a v,b.IsCell a v→b'.IsCell a v
theorem KnowsTo.refl (b:Heap):KnowsTo b b:=fun _ _ h=>h
def MO.cut (o:MO):MO:=if o.tr=true then o else .dead
def MO.nap:MO→MO
 | .slp _=>.dead
 | o=>o
def MO.pick (o o':MO):MO:=if o.tr=true then o'.cut else o
def back:Store→Store→Store
 | o :: st,o' :: st'=>o.pick o' :: back st st'
 | [],st'=>st'.map MO.cut
 | _,[]=>[]
theorem back_length:∀st st':Store,(back st st').length=st'.length
 | [],st'=>by simp[back]
 | _ :: _,[]=>rfl
 | _ :: st,_ :: st'=>by simp[back,back_length st st']
theorem back_get:∀(st st':Store) (k:Nat),(back st st')[k]?=(st'[k]?).map fun o'=>match st[k]? with
  | some o=>o.pick o'
  | none=>o'.cut
 | [],st',k=>by simp[back]
 | _ :: _,[],k=>by simp[back]
 | _ :: _,_ :: _,0=>by simp[back]
 | _ :: st,_ :: st',k+1=>by simpa[back] using back_get st st' k
theorem cut_tr {o o':MO} (h:o.cut=o') (t:o'.tr=true):o=o':=by
 unfold MO.cut at h
 split at h
 ·exact h
 ·subst h;cases t
theorem cut_un {o o':MO} (h:o.cut=o') (t:o'.tr=false):o'=.dead:=by
 unfold MO.cut at h
 split at h
 ·rename_i q;rw[h] at q;rw[q] at t;cases t
 ·exact h.symm
section
variable {G:G3} {b b':Heap} {B:Addr→Prop} {st st':Store} {s s':S3}
theorem Wd.back {B0 B1:Addr→Prop} (w:Wd G B0 st s) (l:Le B1 s s') (w':Wd (G.at b) B st' s'):Wd G B (back st st') s':=by
 have old:∀{k:Nat} {o:MO},(M3.back st st')[k]?=some o→o.tr=true→st'[k]?=some o:=fun {k o} e t=>by
  rw[back_get] at e
  obtain⟨o',e1,e2⟩:=Option.map_eq_some_iff.mp e
  rw[e1]
  split at e2
  ·unfold MO.pick at e2
   split at e2
   ·rw[cut_tr e2 t]
   ·rename_i q;subst e2;exact absurd t q
  ·rw[cut_tr e2 t]
 refine⟨w'.sub,w'.hid,w'.ftb,fun k a e=>by rw[back_length];exact w'.dom k a e,fun j k a oj ok e1 e2 q1 t1 q2 t2=>?_,fun k o e t=>w'.obj k o (old e t) t,fun k o e t=>?_,w'.tabs⟩
 ·exact w'.inj j k a oj ok e1 e2 (old q1 t1) t1 (old q2 t2) t2
 ·rw[back_get] at e
  obtain⟨o',e1,e2⟩:=Option.map_eq_some_iff.mp e
  have dead:o=.dead→∃a,s'.io k=some a∧UntR G s' a o:=fun z=>by
   subst z
   by_cases q:o'.tr=true
   ·obtain⟨a,e3,_⟩:=w'.obj k o' e1 q
    exact⟨a,e3,True.intro⟩
   ·obtain⟨a,e3,_⟩:=w'.unt k o' e1 (by simpa using q)
    exact⟨a,e3,True.intro⟩
  split at e2
  ·rename_i o0 e0
   unfold MO.pick at e2
   split at e2
   ·exact dead (cut_un e2 t)
   ·rename_i q
    subst e2
    obtain⟨a,e3,x⟩:=w.unt k o0 e0 (by simpa using q)
    exact⟨a,l.io _ _ e3,x.mono l.io l.fr⟩
  ·exact dead (cut_un e2 t)
def nap {α β:Type} (m:α→M β):α→M β:=fun ds st=>match m ds (st.map MO.nap) with
 | .ok d st'=>.ok d (M3.back st st')
 | .err c x st'=>.err c x (M3.back st st')
 | .bad=>.bad
end
end M3
namespace M3
open PySem PySem.Spec PyProof.Rows L2 LamX NdefX
def Over (b0 b:Heap):Prop:=∀a o,b0.get? a=some o→b.get? a=some o
theorem Over.refl (b:Heap):Over b b:=fun _ _ e=>e
theorem Over.trans {b0 b1 b2:Heap} (h:Over b0 b1) (g:Over b1 b2):Over b0 b2:=fun a o e=>g a o (h a o e)
def MO.lent (u:Sl3):MO→MO
 | .slp i=>match u[i]? with
  | some (some (.val d))=>.kc d
  | _=>.dead
 | o=>o
def OwnOk (P:P3):Prop:=∀i a,P.G.own i=some a→∃y,P.X.N[i]?=some y∧P.X.fn y=true∧(P.X.env.scope.names.lookup y=some .cell∨P.X.env.scope.names.lookup y=some .free)∧P.X.env.cells.lookup y=some a
def lend {α β:Type} (u:Sl3) (m:α→M β):α→M β:=fun ds st=>match m ds (st.map (MO.lent u)) with
 | .ok d st'=>.ok d (M3.back st st')
 | .err c x st'=>.err c x (M3.back st st')
 | .bad=>.bad
def eCallR (n:Nat) (m:List D→M D) (ma:AM):EM:=fun u=>M.bind (ma u) fun ws=>M.bind (M.of (asDs ws)) fun ds=>M.bind (M.chk (ds.length=n)) fun _=>M.bind (lend u m ds) fun d=>M.pure (.val d)
end M3
namespace M3
open PySem PySem.Spec PyProof.Rows L2 LamX NdefX
structure LF where
 qual:Str
 params:Arguments
 body:Expr
 scope:Scope
 cl:List (Str×Addr)
 c:Addr
def ownOf (N:List Str) (sc:Scope) (cells:List (Str×Addr)):Nat→Option Addr:=fun i=>match N[i]? with
 | some y=>if sc.names.lookup y=some .cell∨sc.names.lookup y=some .free then cells.lookup y else none
 | none=>none
structure Owner (P:P3):Prop where
 own:P.G.own=ownOf P.X.N P.X.env.scope P.X.env.cells
 fn:∀y,P.X.fn y=true
 base:P.X.base=P.G.base
theorem Owner.ok {P:P3} (o:Owner P):OwnOk P:=fun i a e=>by
 rw[o.own] at e
 unfold ownOf at e
 split at e
 ·rename_i y hy
  split at e
  ·rename_i hk
   exact⟨y,hy,o.fn y,hk,e⟩
  ·cases e
 ·cases e
def eLam (c:String) (js:List Nat):EM:=fun _ st=>.ok (.val (.fn c (List.range' st.length js.length))) (st++js.map .slp)
end M3
namespace M3
open PySem PySem.Spec PyProof.Rows L2 LamX NdefX
structure VOk (P:Program) (w:World) (K:PySem.W.Frag) (mg:Str→Option Value) (base:Heap) (CX:CXH) (k:Nat) (F:FV) (sp:Sp):Prop where
 fn:∀(H:Hp) (h:Heap) (f:Addr),HOk P w H h→H f=some (F.ob f)→PySem.W.FnAt f h
 run:∀(A:Around) (outer:List Env) (s:Shared) (H:Hp) (f:Addr) (us:List Value) (vs:List V) (Q:VK) (E:XK),RoomC k A outer H s→Env0 P w K mg base A outer s H→H f=some (F.ob f)→H F.c=some (CodeO F.c F.qual)→
  (F.cl.map (·.2)).Nodup→Vals vs us→sp vs H Q E→codeAny (model P w) A (.call (.ref f) ⟨us,[]⟩) (CR (CX A.handled) outer P w H s Q E) s
theorem VOk.mono {P:Program} {w:World} {K:PySem.W.Frag} {mg:Str→Option Value} {base:Heap} {CX:CXH} {j k:Nat} {F:FV} {sp:Sp} (o:VOk P w K mg base CX j F sp) (h:j≤k):VOk P w K mg base CX k F sp:=
 ⟨o.fn,fun A outer s H f us vs Q E hr=>o.run A outer s H f us vs Q E (hr.mono h)⟩
def LF.nf (F:LF):NF:=⟨"<lambda>",F.qual,F.params,[],F.scope,F.cl,F.c⟩
def mfnE (N:Nat) (e:EM):List D→M D:=fun ds=>M.bind (e (ds.map (fun d=>some (.val d))++List.replicate (N - ds.length) none)) fun w=>M.of w.d
def capsS (st:Store):List Nat→Option (List D)
 | []=>some []
 | k :: ks=>match st[k]?,capsS st ks with
  | some (.kc d),some ds=>some (d :: ds)
  | _,_=>none
def capsM (ks:List Nat):M (List D):=fun st=>match capsS st ks with
 | some ds=>.ok ds st
 | none=>.bad
def capd (m:List D→M D):List Nat→List D→M D:=fun ks ds=>M.bind (capsM ks) fun cs=>m (ds++cs)
def fnOf (w:W):Option (String×List Nat):=match w with
 | .val (.fn c ks)=>some (c,ks)
 | _=>none
abbrev FnTab:=List (String×(List Nat→List D→M D))
def fcall (n:Nat) (tab:FnTab) (w:W) (ds:List D):M D:=M.bind (M.of (fnOf w)) fun q=>M.bind (M.of (tab.lookup q.1)) fun mf=>M.bind (M.chk (ds.length=n)) fun _=>mf q.2 ds
def eCallV (n:Nat) (tab:FnTab) (i:Nat) (ma:AM):EM:=fun u=>M.bind (eVar i u) fun w=>M.bind (M.of (fnOf w)) fun _=>M.bind (ma u) fun ws=>M.bind (M.of (asDs ws)) fun ds=>M.bind (fcall n tab w ds) fun d=>M.pure (.val d)
def eCallA (n:Nat) (tab:FnTab) (cs:List String) (f:Str) (mo:EM) (ma:AM):EM:=fun u=>M.bind (mo u) fun w=>M.bind (insOf w) fun q=>M.bind (M.chk (q.2.1∈cs)) fun _=>M.bind (M.of (q.2.2.lookup f)) fun d=>M.bind (M.of (fnOf (.val d))) fun _=>
 M.bind (ma u) fun ws=>M.bind (M.of (asDs ws)) fun ds=>M.bind (fcall n tab (.val d) ds) fun d=>M.pure (.val d)
end M3
namespace M3
open PySem PySem.Spec PyProof.Rows L2
end M3
namespace M3
open PySem PySem.Spec PyProof.Rows L2
end M3
namespace M3
open PySem PySem.Spec PyProof.Rows L2
def sAsgStar (m:EM) (g:GM) (i:Nat):SM:=fun u st=>match m u st with
 | .ok (.val d) st'=>match d with
  | .ctup (x :: xs)=>if xs.length≤1000 then match g x u with
    | some u'=>.nx (u'.set i (some (.val (.lst xs)))) st'
    | none=>.bad
   else .bad
  | .tup (x :: xs)=>if xs.length≤1000 then match g x u with
    | some u'=>.nx (u'.set i (some (.val (.lst xs)))) st'
    | none=>.bad
   else .bad
  | _=>.bad
 | .ok _ _=>.bad
 | .err c x st'=>.err c x u st'
 | .bad=>.bad
end M3
namespace M3
open PySem PySem.Spec PyProof.Rows L2
def eCallRp (m:List D→M D) (ma:AM):EM:=fun u=>M.bind (ma u) fun ws=>M.bind (M.of (asDs ws)) fun ds=>M.bind (m ds) fun d=>M.pure (.val d)
def eMethRp (m:Str) (tab:List (String×(List D→M D))) (mo:EM) (ma:AM):EM:=fun u=>M.bind (mo u) fun w=>M.bind (insOf w) fun q=>M.bind (M.chk (q.2.2.lookup m=none)) fun _=>M.bind (M.of (tab.lookup q.2.1)) fun mf=>
 M.bind (ma u) fun ws=>M.bind (M.of (asDs ws)) fun ds=>M.bind (mf (.ref q.1 :: ds)) fun d=>M.pure (.val d)
def eMethRs (W:Sl3→(List D→M D)→List D→M D) (m:Str) (tab:List (String×(List D→M D))) (mo m1 m2:EM):EM:=fun u=>M.bind (mo u) fun w=>M.bind (insOf w) fun q=>M.bind (M.chk (q.2.2.lookup m=none)) fun _=>M.bind (M.of (tab.lookup q.2.1)) fun mf=>
 M.bind (m1 u) fun w1=>M.bind (M.of w1.d) fun d1=>M.bind (m2 u) fun w2=>M.bind (M.of (w2.d.bind D.items)) fun ds=>M.bind (W u mf (.ref q.1 :: d1 :: ds)) fun d=>M.pure (.val d)
end M3
namespace M3
open PySem PySem.Spec PyProof.Rows L2
end M3
namespace M3
open PySem PySem.Spec PyProof.Rows L2
abbrev RoomQ:=L2H.RoomH
structure FnQ (P:Program) (w:World) (K:PySem.W.Frag) (mg:Str→Option Value) (base:Heap) (k:Nat) (f:Addr) (fd:FuncData) (ps:List Str) (sp:List (Option V)→Hp→VK→Prop):Prop where
 run:∀(A:Around) (outer:List Env) (s:Shared) (H:Hp) (args:Args) (us:List Value) (ws:List (Option V)) (Q:VK),RoomQ k A→Env0 P w K mg base A outer s H→BindsTo s fd args (ps.zip us)→us.length=ps.length→ws.length=ps.length→
  (∀(i:Nat) (v:V),ws[i]?=some (some v)→∃u,us[i]?=some u∧L2.RelV v u)→sp ws H Q→codeAny (model P w) A (.call (.ref f) args) (CR C8.CX0 outer P w H s Q C8.E0) s
end M3
namespace M3
open PySem PySem.Spec PyProof.Rows L2
theorem Zq.eqN {X:Cx} {cls:Value} {d:Option Addr} (n:X.A.handled=none):Zq X cls d=L2N.Zn cls d:=by
 funext o
 exact propext ⟨fun h=>⟨h.1.1,h.1.2,h.2 n⟩,fun h=>⟨h.zc,fun _=>h.2.2⟩⟩
theorem Zq.eqC {X:Cx} {cls:Value} {d:Option Addr} (n:X.A.handled≠none):Zq X cls d=Zc cls d:=by
 funext o
 exact propext ⟨fun h=>h.1,fun h=>⟨h,fun e=>absurd e n⟩⟩
def XE (X:Cx) (W:WX) (u:Value) (s':Shared):Prop:=
 ∃(a:Addr) (B:Heap) (sI:Shared) (pins:List (Addr×Obj)) (z:L2.St) (H:Hp) (cls:Value) (d:Option Addr),
  u=.ref a∧Inv X pins z H sI∧(∀b o,sI.heap.get? b=some o→b∉frs X.stack→B.get? b=some o)∧sI.heap.UpToSlots s'.heap∧
   Sky B X.stack a (Zq X cls d) X.env.locals s'.heap∧H a=none∧s'.os=sI.os∧AllBare s'.gens∧W cls d z H
theorem Takes.of {X:Cx} {W:WX} (h:∀u s',XE X W u s'→X.xe u s'):Takes X W:=by
 refine⟨fun n u s' x=>?_,fun n u s' x=>?_⟩
 ·obtain⟨a,B,sI,pins,z,H,cls,d,e,I,nb,up,sky,r⟩:=x
  rw[←Zq.eqN (X:=X) n] at sky
  exact h u s' ⟨a,B,sI,pins,z,H,cls,d,e,I,nb,up,sky,r⟩
 ·obtain⟨a,B,sI,pins,z,H,cls,d,e,I,nb,up,sky,r⟩:=x
  rw[←Zq.eqC (X:=X) n] at sky
  exact h u s' ⟨a,B,sI,pins,z,H,cls,d,e,I,nb,up,sky,r⟩
theorem CXq.of {X:Cx} {outer:List Env} {H:Hp} {s:Shared} {E:XK} {u:Value} {s':Shared} (h:∃(a:Addr) (B:Heap) (H':Hp) (cls:Value) (d:Option Addr),u=.ref a∧HandSPX.FlyingZ B outer a (Zq X cls d) s'.heap∧HOk X.prog X.w H' B∧UB (frs outer) H H' s.heap B s'.heap∧H' a=none∧s'.os=s.os∧AllBare s'.gens∧E cls d H') :
  CXq X.prog X.w X.A.handled outer H s E u s':=by
 obtain⟨a,B,H',cls,d,e,fl,r⟩:=h
 by_cases n:X.A.handled=none
 ·rw[Zq.eqN n] at fl
  exact .inl ⟨n,a,B,H',cls,d,e,fl,r⟩
 ·rw[Zq.eqC n] at fl
  exact .inr ⟨n,a,B,H',cls,d,e,fl,r⟩
end M3
namespace PySem.W
open PySem PySem.Calls PyProof.Rows
end PySem.W
namespace M3
open PySem PySem.Spec PyProof.Rows L2 PySem.W
end M3
namespace M3
open PySem PySem.Spec PyProof.Rows L2 PySem.W
end M3
namespace M3
open PySem PySem.Spec PyProof.Rows L2 PySem.W
def sExit (mfx:List D→M D) (k:Nat):SRes→SRes
 | .nx u st=>match mfx [.ref k] st with
  | .ok _ st'=>.nx u st'
  | _=>.bad
 | .rt (.val d) st=>match mfx [.ref k] st with
  | .ok _ st'=>.rt (.val d) st'
  | _=>.bad
 | .err c x u st=>match mfx [.ref k] st with
  | .ok .non st'=>.err c x u st'
  | _=>.bad
 | _=>.bad
def sWith (c:String) (mfe mfx:List D→M D) (me:EM) (mb:SM):SM:=fun u st=>match M.bind (me u) (fun w=>M.bind (insOf w) fun q=>M.bind (M.chk (q.2.1=c)) fun _=>M.bind (mfe [.ref q.1]) fun _=>M.pure q.1) st with
 | .ok k st'=>sExit mfx k (mb u st')
 | .err c x st'=>.err c x u st'
 | .bad=>.bad
end M3
namespace M3
open PySem PySem.Spec PyProof.Rows L2 LamX NdefX
theorem TabB.over {b0 b:Heap} {mg:Str→Option Value} {c P:Addr} (t:TabB b0 mg c P) (h:Over b0 b):TabB b mg c P:=⟨t.code.keeps h,t.bm.keeps h,t.gP⟩
section
variable {Pg:Program} {w:World} {K:PySem.W.Frag} {mg:Str→Option Value} {base b:Heap} {G:G3} {k n:Nat} {x f:Str} {c:String} {m:List D→M D} {dd:List D}
theorem FnQ.mono {P:Program} {j:Nat} {g:Addr} {fd:FuncData} {ps:List Str} {sp:List (Option V)→Hp→VK→Prop} (F:FnQ P w K mg base j g fd ps sp) (h:j≤k):FnQ P w K mg base k g fd ps sp:=
 ⟨fun A outer s H args us ws Q hr=>F.run A outer s H args us ws Q (hr.mono h)⟩
end
end M3
namespace M3
open PySem PySem.Spec PyProof.Rows L2 PySem.W
end M3
namespace M3
open PySem L2
section
variable {α β γ:Type} {k:Res α→Prop} {kw:Res W→Prop} {kl:Res (List D)→Prop} {ks:SRes→Prop} {kd:Res D→Prop} {st:Store} {u:Sl3} {m a b mo m1 m2:EM} {ma mk:AM} {g:GM} {tab:FnTab}
@[simp] theorem run_eCallV (n i:Nat):run (eCallV n tab i ma u st) kw=kVar st (kBind (fun w=>M.bind (M.of (fnOf w)) fun _=>M.bind (ma u) fun ws=>M.bind (M.of (asDs ws)) fun ds=>M.bind (fcall n tab w ds) fun d=>M.pure (.val d)) kw) u[i]?:=by
 rw[←run_eVar]
 exact run_bind _ _
@[simp] theorem run_eCallA (n:Nat) (cs:List String) (f:Str):run (eCallA n tab cs f mo ma u st) kw=run (mo u st) (kBind (fun w=>M.bind (insOf w) fun q=>M.bind (M.chk (q.2.1∈cs)) fun _=>M.bind (M.of (q.2.2.lookup f)) fun d=>M.bind (M.of (fnOf (.val d))) fun _=>
 M.bind (ma u) fun ws=>M.bind (M.of (asDs ws)) fun ds=>M.bind (fcall n tab (.val d) ds) fun d=>M.pure (.val d)) kw):=run_bind _ _
@[simp] theorem fnOf_fn (c:String) (js:List Nat):fnOf (.val (.fn c js))=some (c,js):=rfl
@[simp] theorem run_fcall (n:Nat) (w:W) (ds:List D):run (fcall n tab w ds st) kd=run (M.of (fnOf w) st) (kBind (fun q=>M.bind (M.of (tab.lookup q.1)) fun mf=>M.bind (M.chk (ds.length=n)) fun _=>mf q.2 ds) kd):=run_bind _ _
@[simp] theorem run_eLam (c:String) (js:List Nat):run (eLam c js u st) kw=kw (.ok (.val (.fn c (List.range' st.length js.length))) (st++js.map .slp)):=rfl
@[simp] theorem run_capd (f:List D→M D) (js:List Nat) (ds:List D):run (capd f js ds st) kd=run (capsM js st) (kBind (fun cs=>f (ds++cs)) kd):=run_bind _ _
@[simp] theorem run_mfnE (N:Nat) (e:EM) (ds:List D):run (mfnE N e ds st) kd=run (e (ds.map (fun d=>some (.val d))++List.replicate (N - ds.length) none) st) (kBind (fun w=>M.of w.d) kd):=run_bind _ _
def kBack (st:Store) (k:Res α→Prop):Res α→Prop
 | .ok d st'=>k (.ok d (back st st'))
 | .err c x st'=>k (.err c x (back st st'))
 | .bad=>k .bad
@[simp] theorem kBack_ok (d:α) (st'):kBack st k (.ok d st')=k (.ok d (back st st')):=rfl
@[simp] theorem kBack_err (c x st'):kBack st k (.err c x st')=k (.err c x (back st st')):=rfl
@[simp] theorem kBack_bad:kBack st k (.bad:Res α)=k .bad:=rfl
@[simp] theorem run_nap (m:β→M α) (ds:β):run (nap m ds st) k=run (m ds (st.map MO.nap)) (kBack st k):=by
 unfold run nap kBack
 cases m ds (st.map MO.nap) <;> rfl
@[simp] theorem run_lend (m:β→M α) (ds:β):run (lend u m ds st) k=run (m ds (st.map (MO.lent u))) (kBack st k):=by
 unfold run lend kBack
 cases m ds (st.map (MO.lent u)) <;> rfl
@[simp] theorem run_eCallR (n:Nat) (f:List D→M D):run (eCallR n f ma u st) kw=run (ma u st) (kBind (fun ws=>M.bind (M.of (asDs ws)) fun ds=>M.bind (M.chk (ds.length=n)) fun _=>M.bind (lend u f ds) fun d=>M.pure (.val d)) kw):=run_bind _ _
def kOwn (k:Res α→Prop):Res α→Prop
 | .ok d st'=>k (.ok d (st'.map MO.nap))
 | .err c x st'=>k (.err c x (st'.map MO.nap))
 | .bad=>k .bad
@[simp] theorem kOwn_ok (d:α) (st'):kOwn k (.ok d st')=k (.ok d (st'.map MO.nap)):=rfl
@[simp] theorem kOwn_err (c x st'):kOwn k (.err c x st':Res α)=k (.err c x (st'.map MO.nap)):=rfl
@[simp] theorem kOwn_bad:kOwn k (.bad:Res α)=k .bad:=rfl
@[simp] theorem run_eMethRp (f:Str) (tb:List (String×(List D→M D))):run (eMethRp f tb mo ma u st) kw=run (mo u st) (kBind (fun w=>M.bind (insOf w) fun q=>M.bind (M.chk (q.2.2.lookup f=none)) fun _=>M.bind (M.of (tb.lookup q.2.1)) fun mf=>
 M.bind (ma u) fun ws=>M.bind (M.of (asDs ws)) fun ds=>M.bind (mf (.ref q.1 :: ds)) fun d=>M.pure (.val d)) kw):=run_bind _ _
@[simp] theorem run_eMethRs (X:Sl3→(List D→M D)→List D→M D) (f:Str) (tb:List (String×(List D→M D))):run (eMethRs X f tb mo m1 m2 u st) kw=run (mo u st) (kBind (fun w=>M.bind (insOf w) fun q=>M.bind (M.chk (q.2.2.lookup f=none)) fun _=>M.bind (M.of (tb.lookup q.2.1)) fun mf=>
 M.bind (m1 u) fun w1=>M.bind (M.of w1.d) fun d1=>M.bind (m2 u) fun w2=>M.bind (M.of (w2.d.bind D.items)) fun ds=>M.bind (X u mf (.ref q.1 :: d1 :: ds)) fun d=>M.pure (.val d)) kw):=run_bind _ _
@[simp] theorem lenF_ctup (xs:List D):lenF [.val (.ctup xs)]=some (.val (.int xs.length)):=rfl
def kStar (g:GM) (i:Nat) (u:Sl3) (ks:SRes→Prop):Res W→Prop
 | .ok w st'=>match w with
  | .val (.ctup (x :: xs))=>if xs.length≤1000 then kAsg2 st' ks ((g x u).map fun u'=>u'.set i (some (.val (.lst xs)))) else ks .bad
  | .val (.tup (x :: xs))=>if xs.length≤1000 then kAsg2 st' ks ((g x u).map fun u'=>u'.set i (some (.val (.lst xs)))) else ks .bad
  | _=>ks .bad
 | .err c x st'=>ks (.err c x u st')
 | .bad=>ks .bad
@[simp] theorem kStar_ctup (i:Nat) (x xs st'):kStar g i u ks (.ok (.val (.ctup (x :: xs))) st')=if xs.length≤1000 then kAsg2 st' ks ((g x u).map fun u'=>u'.set i (some (.val (.lst xs)))) else ks .bad:=rfl
@[simp] theorem srun_sAsgStar (i:Nat):srun (sAsgStar m g i u st) ks=run (m u st) (kStar g i u ks):=by
 unfold srun sAsgStar run kStar
 cases m u st with
 | ok w st'=>
  cases w with
  | val d=>
   cases d with
   | ctup xs=>cases xs with
    | nil=>rfl
    | cons x xs=>
     dsimp only
     split
     ·cases g x u <;> rfl
     ·rfl
   | tup xs=>cases xs with
    | nil=>rfl
    | cons x xs=>
     dsimp only
     split
     ·cases g x u <;> rfl
     ·rfl
   | _=>rfl
  | _=>rfl
 | _=>rfl
def kExit (mfx:List D→M D) (j:Nat) (ks:SRes→Prop) (r:SRes):Prop:=ks (sExit mfx j r)
@[simp] theorem kExit_rt {mfx:List D→M D} {j:Nat} {d:D} {r st'} (h:mfx [.ref j] st=.ok r st'):kExit mfx j ks (.rt (.val d) st)=ks (.rt (.val d) st'):=by
 unfold kExit sExit
 simp only[h]
@[simp] theorem kExit_nx {mfx:List D→M D} {j:Nat} {r st'} (h:mfx [.ref j] st=.ok r st'):kExit mfx j ks (.nx u st)=ks (.nx u st'):=by
 unfold kExit sExit
 simp only[h]
@[simp] theorem kExit_err {mfx:List D→M D} {j:Nat} {c x st'} (h:mfx [.ref j] st=.ok .non st'):kExit mfx j ks (.err c x u st)=ks (.err c x u st'):=by
 unfold kExit sExit
 simp only[h]
def kWithIn (mfx:List D→M D) (mb:SM) (u:Sl3) (ks:SRes→Prop):Res Nat→Prop
 | .ok j st'=>srun (mb u st') (kExit mfx j ks)
 | .err c x st'=>ks (.err c x u st')
 | .bad=>ks .bad
@[simp] theorem kWithIn_ok {mfx:List D→M D} {mb:SM} (j):kWithIn mfx mb u ks (.ok j st)=srun (mb u st) (kExit mfx j ks):=rfl
@[simp] theorem srun_sWith (c:String) (mfe mfx:List D→M D) (mb:SM):srun (sWith c mfe mfx m mb u st) ks=run (m u st) (kBind (fun w=>M.bind (insOf w) fun q=>M.bind (M.chk (q.2.1=c)) fun _=>M.bind (mfe [.ref q.1]) fun _=>M.pure q.1) (kWithIn mfx mb u ks)):=by
 rw[←run_bind]
 unfold srun sWith run kWithIn
 cases (M.bind (m u) (fun w=>M.bind (insOf w) fun q=>M.bind (M.chk (q.2.1=c)) fun _=>M.bind (mfe [.ref q.1]) fun _=>M.pure q.1) st) <;> rfl
end
end M3
namespace M3
open PySem PySem.Spec PyProof.Rows L2 LamX NdefX
def PostR (P:P3) (me:EM) (B0:Addr→Prop) (s:S3) (R:V→L2.St→Hp→Prop):SRes→Prop
 | .nx u' st'=>∀(B':Addr→Prop) (s':S3) (z':L2.St),(∀a,B0 a→B' a)→Le B0 s s'→Wd P.G B' st' s'→Slo P.G P.hx B0 B' s' u' z'→Post P.G B' (fun s d v=>Rep P.G.R s.F s.io d v) (fun c d H=>P.wx c d z' H) s' (fun v H=>R v z' H) (M.bind (me u') (fun w=>M.of w.d) st')
 | .err c x u' st'=>∀(B':Addr→Prop) (s':S3) (z':L2.St) (cv:Value) (dd:Option Addr),(∀a,B0 a→B' a)→Le B0 s s'→Wd P.G B' st' s'→Slo P.G P.hx B0 B' s' u' z'→ExR P.G s' c x cv dd→P.wx cv dd z' s'.H
 | _=>False
theorem PostR.mono {P:P3} {me:EM} {B0:Addr→Prop} {s s1:S3} {R:V→L2.St→Hp→Prop} {r:SRes} (l:Le B0 s s1) (h:PostR P me B0 s R r):PostR P me B0 s1 R r:=by
 cases r with
 | nx u' st'=>exact fun B' s' z' b l' w r=>h B' s' z' b (l.trans l') w r
 | err c x u' st'=>exact fun B' s' z' cv dd b l' w r=>h B' s' z' cv dd b (l.trans l') w r
 | _=>exact h
end M3
namespace M3
open PySem PySem.Spec PyProof.Rows L2 LamX NdefX
end M3
namespace M3
open PySem PySem.Spec PyProof.Rows L2 LamX NdefX
end M3
namespace M3
open PySem PySem.Spec PyProof.Rows L2
section
variable {Pg:Program} {w:World} {K:PySem.W.Frag} {mg:Str→Option Value} {base b:Heap} {G:G3} {k n:Nat} {x f:Str} {c:String} {m:List D→M D} {w':Nat→Option Addr}
theorem FnQ.imp {f:Addr} {fd:FuncData} {ps:List Str} {sp sp':List (Option V)→Hp→VK→Prop} (F:FnQ Pg w K mg base k f fd ps sp) (h:∀ws H Q,sp' ws H Q→sp ws H Q):FnQ Pg w K mg base k f fd ps sp':=
 ⟨fun A outer s H args us ws Q a1 a2 a3 a4 a5 a6 a7=>F.run A outer s H args us ws Q a1 a2 a3 a4 a5 a6 (h _ _ _ a7)⟩
end
end M3
namespace M3
end M3
namespace M3
open PySem
end M3
namespace M3
open PySem PySem.Spec PyProof.Rows L2
def eIxS (i:Int) (ma:EM):EM:=fun u=>M.bind (ma u) fun w=>M.bind (lstOf w) fun q=>M.of ((atI q.2 i).map W.val)
section
variable {kw:Res W→Prop} {st:Store} {u:Sl3} {ma:AM} {m:EM}
@[simp] theorem run_eIxS (i:Int):run (eIxS i m u st) kw=run (m u st) (kBind (fun w=>M.bind (lstOf w) fun q=>M.of ((atI q.2 i).map W.val)) kw):=run_bind _ _
@[simp] theorem run_eCallRp (f:List D→M D):run (eCallRp f ma u st) kw=run (ma u st) (kBind (fun ws=>M.bind (M.of (asDs ws)) fun ds=>M.bind (f ds) fun d=>M.pure (.val d)) kw):=run_bind _ _
end
end M3
namespace M3
open PySem PySem.Spec PyProof.Rows L2 NdefX
end M3
namespace M3
open PySem PySem.Spec PyProof.Rows L2
def sRaiseT (c:String) (me:EM):SM:=fun u st=>match me u st with
 | .ok (.val (.str _)) st'=>.err c .non u st'
 | _=>.bad
section
variable {ks:SRes→Prop} {st:Store} {u:Sl3} {m:EM}
def kRaiseT (c:String) (u:Sl3) (ks:SRes→Prop):Res W→Prop
 | .ok (.val (.str _)) st'=>ks (.err c .non u st')
 | _=>ks .bad
@[simp] theorem kRaiseT_ok (c:String) (y:Str):kRaiseT c u ks (.ok (.val (.str y)) st)=ks (.err c .non u st):=rfl
@[simp] theorem srun_sRaiseT (c:String):srun (sRaiseT c m u st) ks=run (m u st) (kRaiseT c u ks):=by
 unfold srun sRaiseT run kRaiseT
 cases m u st with
 | ok w st'=>cases w with
  | val d=>cases d <;> rfl
  | _=>rfl
 | _=>rfl
end
end M3
namespace M3
open PySem PySem.Spec PyProof.Rows L2
end M3
namespace M3
open PySem PySem.Spec PyProof.Rows L2
end M3
namespace M3
open PySem PySem.Spec PyProof.Rows L2
def ePopS (m:EM):EM:=fun u=>M.bind (m u) fun w=>M.bind (lstOf w) fun q=>fun st=>match q.2.getLast? with
 | some d=>.ok (.val d) (st.set q.1 (.lst q.2.dropLast))
 | none=>.bad
section
variable {kw:Res W→Prop} {st:Store} {u:Sl3} {m:EM}
@[simp] theorem run_ePopS:run (ePopS m u st) kw=run (m u st) (kBind (fun w=>M.bind (lstOf w) fun q=>fun st=>match q.2.getLast? with
 | some d=>.ok (.val d) (st.set q.1 (.lst q.2.dropLast))
 | none=>.bad) kw):=run_bind _ _
end
end M3
namespace M3
open PySem PySem.Spec PyProof.Rows L2
def eSlS (m:EM) (l h:PM):EM:=fun u=>M.bind (m u) fun x=>M.bind (l u) fun a=>M.bind (h u) fun b=>M.bind (lstOf x) fun q=>M.pure (.val (.lst (cutD q.2 a b)))
section
variable {kw:Res W→Prop} {st:Store} {u:Sl3} {m:EM} {l h:PM}
@[simp] theorem run_eSlS:run (eSlS m l h u st) kw=run (m u st) (kBind (fun x=>M.bind (l u) fun a=>M.bind (h u) fun b=>M.bind (lstOf x) fun q=>M.pure (.val (.lst (cutD q.2 a b)))) kw):=run_bind _ _
end
end M3
namespace M3
open PySem PySem.Spec PyProof.Rows L2
def eEqS (neg:Bool) (mo m:EM):EM:=fun u=>M.bind (mo u) fun w=>M.bind (lstOf w) fun _=>M.bind (m u) fun y=>M.bind (lstOf w) fun q=>M.of (eqF neg (.bor q.2) y)
section
variable {u:Sl3} {st:Store} {neg:Bool} {mo m:EM} {kw:Res W→Prop}
@[simp] theorem run_eEqS:run (eEqS neg mo m u st) kw=run (mo u st) (kBind (fun w=>M.bind (lstOf w) fun _=>M.bind (m u) fun y=>M.bind (lstOf w) fun q=>M.of (eqF neg (.bor q.2) y)) kw):=run_bind _ _
end
end M3
namespace M3
open PySem PySem.Spec PyProof.Rows L2
def lcS (w:W) (g:GM) (c:TM) (e:EM) (u0:Sl3):Nat→Nat→List D→M (List D)
 | 0,_,_=>M.bad
 | n+1,i,acc=>M.bind (lstOf w) fun q=>match q.2[i]? with
  | none=>M.pure acc
  | some d=>M.bind (M.of (g d u0)) fun u1=>M.bind (M.quiet (c u1)) fun k=>
   if k=true then M.bind (M.quiet (e u1)) fun y=>M.bind (M.of y.d) fun x=>M.bind (M.chk (acc.length<1000000)) fun _=>lcS w g c e u0 n (i+1) (acc++[x])
   else lcS w g c e u0 n (i+1) acc
def fLcS (fuel:Nat) (m:EM) (g:GM) (c:TM) (e:EM) (own:List Nat):FM:=fun u=>M.bind (m u) fun w=>M.bind (lstOf w) fun _=>lcS w g c e (wipe3 u own) fuel 0 []
section
variable {u:Sl3} {st:Store} {fuel:Nat} {gm:GM} {t:TM} {m ml:EM} {own:List Nat} {kf:Res (List D)→Prop}
@[simp] theorem run_fLcS:run (fLcS fuel ml gm t m own u st) kf=run (ml u st) (kBind (fun w=>M.bind (lstOf w) fun _=>lcS w gm t m (wipe3 u own) fuel 0 []) kf):=run_bind _ _
end
end M3
namespace M3
open PySem PySem.Spec PyProof.Rows L2 LamX NdefX
end M3
namespace M3
open PySem PySem.Spec PyProof.Rows L2
def eIxSX (ma mb:EM):EM:=fun u=>M.bind (ma u) fun w=>M.bind (mb u) fun wi=>M.bind (lstOf w) fun q=>match wi with
 | .val (.int i)=>M.of ((atI q.2 i).map W.val)
 | _=>M.bad
section
variable {kw:Res W→Prop} {st:Store} {u:Sl3} {ma mb:EM}
@[simp] theorem run_eIxSX:run (eIxSX ma mb u st) kw=run (ma u st) (kBind (fun w=>M.bind (mb u) fun wi=>M.bind (lstOf w) fun q=>match wi with
 | .val (.int i)=>M.of ((atI q.2 i).map W.val)
 | _=>M.bad) kw):=run_bind _ _
end
end M3
namespace M3
open PySem PySem.Spec PyProof.Rows L2
namespace RevT
open HT PySem.SeqAt PySem.MeetsSeq PySem.MeetsSeq2 PySem.MeetsSeq3
theorem fm_congr {α β:Type} {f g:α→Option β}:∀{l:List α},(∀x∈l,f x=g x)→l.filterMap f=l.filterMap g
 | [],_=>rfl
 | x :: l,h=>by
  rw[List.filterMap_cons,List.filterMap_cons,h x List.mem_cons_self,fm_congr (l:=l) fun y hy=>h y (List.mem_cons_of_mem _ hy)]
theorem many (n:Nat):Builtin.Slice.slicePlaces ((n:Int) - 1) (-1) (-1)=n:=by
 cases n with
 | zero=>rfl
 | succ m=>
  have one:(-(-1):Int)=1:=rfl
  simp only[Builtin.Slice.slicePlaces,one,Int.ediv_one]
  rw[if_neg (by decide),if_pos (by omega)]
  omega
theorem picked (its:Array Value):((List.range its.size).filterMap fun (m:Nat)=>its[((its.size:Int) - 1+(m:Int) * (-1)).toNat]?).toArray=its.toList.reverse.toArray:=by
 have turned:(List.range its.size).filterMap (fun (m:Nat)=>its[((its.size:Int) - 1+(m:Int) * (-1)).toNat]?)=((List.range its.size).map fun k=>its.size - 1 - k).filterMap (its[·]?):=by
  rw[List.filterMap_map]
  apply fm_congr
  intro m hm
  have lt:=List.mem_range.mp hm
  have same:((its.size:Int) - 1+(m:Int) * (-1)).toNat=its.size - 1 - m:=by omega
  simp only[Function.comp,same]
 rw[turned,PySem.W.krv_range,List.filterMap_reverse,PySem.W.krv_all]
section
variable {pg:Program} {wd:World} {Ar:Around} {Er:Value→Shared→Prop} {now:Shared} {tp cutAt:Addr} {its:Array Value} {v1 v2 v3:Value}
theorem applied {n:Nat} {Go:Int×Int×Nat→Shared→Prop} (cut:now.heap.IsSliceOf cutAt v1 v2 v3) (b1:IsPart v1 none) (b2:IsPart v2 none) (b3:IsPart v3 (some (-1))) (go:Go ((n:Int) - 1,-1,n) now) :
  wpAny (model pg wd) Ar (Builtin.Slice.sliceApplied (.ref cutAt) (pure (n:Int))) Go Er now:=by
 rcases cut with⟨ob,here,-,parts⟩
 have last:wpAny (model pg wd) Ar (pure ((n:Int) - 1,(-1:Int),Builtin.Slice.slicePlaces ((n:Int) - 1) (-1) (-1))) Go Er now:=wpAny_pure (by rw[many];exact go)
 have bounds:wpAny (model pg wd) Ar (Builtin.Slice.slicePartIndex v1 >>= fun lo=>Builtin.Slice.slicePartIndex v2 >>= fun hi=>pure (n:Int) >>= fun m=>match Builtin.Slice.sliceAdjust lo hi (-1) m with | (x,y)=>pure (x,(-1:Int),Builtin.Slice.slicePlaces x y (-1))) Go Er now:=
  wpAny_bind (slicePart_ b1 (wpAny_bind (slicePart_ b2 (wpAny_bind (wpAny_pure last)))))
 simp only[Builtin.Slice.sliceApplied,Builtin.Slice.sliceFields]
 apply wpAny_bind
 apply wpAny_bind
 apply wpAny_field here parts (x:=v1) rfl
 apply wpAny_bind
 apply wpAny_field here parts (x:=v2) rfl
 apply wpAny_bind
 apply wpAny_field here parts (x:=v3) rfl
 apply wpAny_pure
 apply wpAny_bind
 apply slicePart_ b3
 exact bounds
theorem item {Go:Value→Shared→Prop} (tup:IsTup now.heap tp its) (cut:now.heap.IsSliceOf cutAt v1 v2 v3) (b1:IsPart v1 none) (b2:IsPart v2 none) (b3:IsPart v3 (some (-1))) (room:its.size≤sizeLine)
  (go:Go (.ref now.heap.objs.size) { now with heap:=now.heap.push { cls:=.type "tuple",data:=.seq its.toList.reverse.toArray } }):wpAny (model pg wd) Ar (getItem (.ref tp) (.ref cutAt)) Go Er now:=by
 have kind:now.TypeIs (.ref cutAt) "slice":=by rcases cut with⟨ob,here,cl,-⟩;exact⟨ob,here,cl⟩
 have fits:sizeOk (.seq its.toList.reverse.toArray):=(by rw[List.size_toArray,List.length_reverse,Array.length_toList];exact room:its.toList.reverse.toArray.size≤sizeLine)
 have other:((((its.size:Int) - 1) == 0 && (-1:Int) == 1 && its.size == its.size)=true)=False:=by simp
 simp only[getItem]
 try with_reducible apply wpAny_holding
 try (apply wpAny_bind;apply wpAny_pure)
 apply wpAny_bind
 apply wpAny_sequenceKey tup.typeIs (by decide)
 apply wpAny_bind
 apply wpAny_callSpecial?_slot (name:=Str.ofString "__getitem__") tup.typeIs PyProof.Rows.slot_tuple_getitem
 refine wpAny_call_entry PyProof.Rows.slot_tuple_getitem tup.typeIs entry_tuple_getitem ?inside (args_tuple_getitem _ _)
 case inside=>
  apply wpAny_bind (m:=Builtin.Tuple.tupleItemsOf (.ref tp))
  apply tupleItemsOf_ tup
  apply wpAny_bind
  apply wpAny_typeOf kind
  rw[if_pos (by decide)]
  apply wpAny_bind
  apply applied cut b1 b2 b3
  show wpAny _ _ (if ((((its.size:Int) - 1) == 0 && (-1:Int) == 1 && its.size == its.size)=true) then _ else _) _ _ now
  simp only[other,if_false,picked]
  apply wpAny_bind
  apply wpAny_newObj_type _ fits
  exact wpAny_pure ⟨_,rfl,wpAny_pure go⟩
end
end RevT
end M3
namespace M3
open PySem PySem.Spec PyProof.Rows L2
def mCallD (n:Nat) (m:List D→M (List Key×List D)) (ma:AM):Sl3→M (List Key×List D):=fun u=>M.bind (ma u) fun ws=>M.bind (M.of (asDs ws)) fun ds=>M.bind (M.chk (ds.length=n)) fun _=>m ds
def sSetCD (i n:Nat) (m:List D→M (List Key×List D)) (ma:AM):SM:=fun u st=>match mCallD n m ma u st with
 | .ok r st'=>.nx (u.set i (some (.bod r.1 r.2))) st'
 | .err c x st'=>.err c x u st'
 | .bad=>.bad
section
variable {u:Sl3} {st:Store} {ks:SRes→Prop} {kd:Res (List Key×List D)→Prop}
def kRetD (k:Res (List Key×List D)→Prop):SRes→Prop
 | .rt (.bod xs us) st=>k (.ok (xs,us) st)
 | .err c x _ st=>k (.err c x st)
 | _=>k .bad
@[simp] theorem kRetD_bod (xs us):kRetD kd (.rt (.bod xs us) st)=kd (.ok (xs,us) st):=rfl
@[simp] theorem kRetD_bad:kRetD kd .bad=kd .bad:=rfl
@[simp] theorem kRetD_err (c x):kRetD kd (.err c x u st)=kd (.err c x st):=rfl
def kSetCD (i:Nat) (u:Sl3) (k:SRes→Prop):Res (List Key×List D)→Prop
 | .ok r st'=>k (.nx (u.set i (some (.bod r.1 r.2))) st')
 | .err c x st'=>k (.err c x u st')
 | .bad=>k .bad
@[simp] theorem kSetCD_ok (i) (r):kSetCD i u ks (.ok r st)=ks (.nx (u.set i (some (.bod r.1 r.2))) st):=rfl
@[simp] theorem kSetCD_bad (i):kSetCD i u ks .bad=ks .bad:=rfl
@[simp] theorem kSetCD_err (i) (c x):kSetCD i u ks (.err c x st)=ks (.err c x u st):=rfl
@[simp] theorem run_sSetCD (i n:Nat) (m:List D→M (List Key×List D)) (ma:AM):srun (sSetCD i n m ma u st) ks=M3.run (ma u st) (kBind (fun ws=>M.bind (M.of (asDs ws)) fun ds=>M.bind (M.chk (ds.length=n)) fun _=>m ds) (kSetCD i u ks)):=by
 rw[←run_bind]
 unfold srun sSetCD M3.run kSetCD mCallD
 cases M.bind (ma u) (fun ws=>M.bind (M.of (asDs ws)) fun ds=>M.bind (M.chk (ds.length=n)) fun _=>m ds) st <;> rfl
end
end M3
namespace M3
open PySem PySem.Spec PyProof.Rows L2
structure Clause where
 c:Value
 sl:Option Nat
 ts:Addr→Value→Option Addr→TS
def Clause.slots (e:Addr) (z:L2.St):Option Nat→L2.St
 | none=>z
 | some i=>z.set i (some (.ref e))
section
variable {X:Cx} {body:List Stmt} {h0:ExceptHandler} {hs:List ExceptHandler} {qs:List Clause} {pos:Pos} {tb:WX→TS} {W0:WX}
structure Landed (X:Cx) (pins:List (Addr×Obj)) (σ:L2.St) (H:Hp) (B:Heap) (e:Addr) (cv:Value) (dd:Option Addr) (s:Shared):Prop where
 inv:Inv X pins σ H s
 at_:HandSPX.FlyingZ B (X.env :: X.outer) e (Zq X cv dd) s.heap
 free:H e=none
 notL:e≠X.env.locals
 notF:e∉X.fs
theorem Landed.frames {B:Heap} {e:Addr} {Z:Obj→Prop} {s:Shared} (f:HandSPX.FlyingZ B (X.env :: X.outer) e Z s.heap) {o:Obj} {vs:Array Value} (ho:s.heap.get? e=some o) (hd:o.data=.fields vs):e∉frs (X.env :: X.outer):=fun m=>by
 obtain⟨_,o2,q2,n2⟩:=f.2.2.1.mem m
 rw[ho] at q2
 cases q2
 exact n2 _ hd
theorem SP.back {e:Addr} {ob:Obj} {pins:List (Addr×Obj)} {D:Ends} {f:Flow} {s:Shared} (ok:X.Ok) (h:SP (X.suite e ((e,ob) :: (X.pn++pins))) [] D f s):SP X pins D f s:=by
 cases f <;> first
  | (obtain⟨v,z,H,I,r,q⟩:=h;exact⟨v,z,H,I.unsuite ok,r,q⟩)
  | (obtain⟨z,H,I,q⟩:=h;exact⟨z,H,I.unsuite ok,q⟩)
end
def sTryA (i:Nat) (sub1:String→Option Bool) (ms1:SM) (sub2:String→Option Bool) (ms2:SM) (mb:SM):SM:=fun u st=>match mb u st with
 | .err c x u' st'=>match sub1 c with
  | some true=>if noExn u'=true then sSuite (some i) ms1 c x u' st' else .bad
  | some false=>match sub2 c with
   | some true=>if noExn u'=true then sSuite none ms2 c x u' st' else .bad
   | some false=>.err c x u' st'
   | none=>.bad
  | none=>.bad
 | r=>r
section
variable {u:Sl3} {st:Store} {ks:SRes→Prop}
def kTryA (i:Nat) (sub1:String→Option Bool) (ms1:SM) (sub2:String→Option Bool) (ms2:SM) (k:SRes→Prop):SRes→Prop
 | .err c x u' st'=>srun (match sub1 c with
  | some true=>if noExn u'=true then sSuite (some i) ms1 c x u' st' else .bad
  | some false=>match sub2 c with
   | some true=>if noExn u'=true then sSuite none ms2 c x u' st' else .bad
   | some false=>.err c x u' st'
   | none=>.bad
  | none=>.bad) k
 | r=>k r
@[simp] theorem run_sTryA (i:Nat) (sub1 sub2) (ms1 ms2 mb:SM):srun (sTryA i sub1 ms1 sub2 ms2 mb u st) ks=srun (mb u st) (kTryA i sub1 ms1 sub2 ms2 ks):=by
 unfold srun sTryA kTryA
 cases mb u st <;> rfl
@[simp] theorem kTryA_nx (i:Nat) (sub1 sub2) (ms1 ms2:SM):kTryA i sub1 ms1 sub2 ms2 ks (.nx u st)=ks (.nx u st):=rfl
@[simp] theorem kTryA_rt (i:Nat) (sub1 sub2) (ms1 ms2:SM) (w):kTryA i sub1 ms1 sub2 ms2 ks (.rt w st)=ks (.rt w st):=rfl
end
end M3
namespace M3
open PySem PySem.Spec PyProof.Rows L2
def fListDD (ma:AM):FM:=fun u=>M.bind (ma u) fun ws=>match ws with
 | [.val (.dd ks _)]=>M.bind (M.chk (ks.length≤1000000)) fun _=>M.pure ks
 | _=>M.bad
@[simp] theorem run_fListDD (ma:AM) {u:Sl3} {st:Store} {kl:Res (List D)→Prop}:M3.run (fListDD ma u st) kl=M3.run (ma u st) (kBind (fun ws=>match ws with
 | [.val (.dd ks _)]=>M.bind (M.chk (ks.length≤1000000)) fun _=>M.pure ks
 | _=>M.bad) kl):=run_bind _ _
end M3
namespace M3
open PySem PySem.Spec PyProof.Rows L2
def eIsI (tab:List (String×Bool)) (m:EM):EM:=fun u=>M.bind (m u) fun w=>M.bind (insOf w) fun q=>M.bind (M.of (tab.lookup q.2.1)) fun b=>M.pure (.val (.bl b))
section
variable {u:Sl3} {st:Store} {kw:Res W→Prop}
@[simp] theorem run_eIsI (tab:List (String×Bool)) (m:EM):M3.run (eIsI tab m u st) kw=M3.run (m u st) (kBind (fun w=>M.bind (insOf w) fun q=>M.bind (M.of (tab.lookup q.2.1)) fun b=>M.pure (.val (.bl b))) kw):=run_bind _ _
end
end M3
namespace M3
open PySem PySem.Spec PyProof.Rows L2
end M3
namespace M3
open PySem PySem.Spec PyProof.Rows L2
section
variable {k j:Nat} {A:Around} {s0:Shared} {H0:Hp} {fs ex:List Addr}
theorem RoomS.units (r:RoomS k A s0 H0 fs ex):A.units+64<cLine:=by have:=r.un;omega
end
section
variable {P:Program} {w:World} {K:PySem.W.Frag} {mg:Str→Option Value} {base:Heap}
abbrev FnOk0 (P:Program) (w:World) (K:PySem.W.Frag) (mg:Str→Option Value) (base:Heap) (k:Nat) (f:Addr) (fd:FuncData) (ps:List Str) (sp:Sp):Prop:=L2.FnOk P w K mg base (CXq P w none) k f fd ps sp
theorem low0 {k:Nat} {f:Addr} {fd:FuncData} {ps:List Str} {sp:Sp} (F:FnOk0 P w K mg base k f fd ps sp):L2.FnOk P w K mg base (L2.CX P w) k f fd ps sp:=⟨F.len,fun A outer s H args us vs Q E hr e b r q=>codeAny_mono (F.run A outer s H args us vs Q E hr e b r q) fun r s' h=>match r,h with
 | .ok (.ret _),h=>h
 | .error _,h=>h.zc⟩
theorem body_sp {G:G3} {hx:Hex} (hK:K=G.K) (hw:w=G.w) {N:List Str} {n:Nat} {mb:SM} {body:List Stmt} {X:Cx} {E:XK} (eK:X.K=G.K) (ew:X.w=G.w) (m:MSs ⟨X,G,none,fun cls d _ H=>E cls d H,eK,ew⟩ body mb) {vs:List V} {H:Hp} {Q:VK} (q:spM G n (mfn N.length mb) vs H Q E) :
  ∃t,PSs X body t∧t { nx:=fun _ H'=>Q .non H',rt:=Q } (L2.start N vs) H:=by
 obtain⟨hl,B,s,o,ds,e,wd,rl,hp⟩:=q
 subst e
 obtain⟨t,pt,ht⟩:=m.out
 refine⟨t,pt,ht B B s o _ _ _ (fun _ b=>b) wd (slo_start (N:=N) rl) ?_⟩
 unfold mfn at hp
 cases em:mb (ds.map (fun d=>some (.val d))++List.replicate (N.length - ds.length) none) o with
 | nx u' st'=>rw[em] at hp;exact fun B' s' z' b l w sl=>hp s' .non l (w.less b) .non
 | rt w st'=>
  rw[em] at hp
  cases w with
  | val d=>exact fun B' s' v b l w r=>hp s' v l (w.less b) r
  | bor xs=>
   rintro B' s' v b l w ⟨p,vs',rfl,bp,nb,hq,r⟩
   have w':Wd G (plus B p) st' s':=w.less fun a q=>q.elim (b a) fun z=>z▸bp
   exact hp ⟨s'.io,upd s'.F p (.lst vs'),s'.H⟩ (.ref p) (l.trans (freeze_le w')) (freeze_wd w' nb hq) (.lst upd_same (r.mono (freeze_le w').fr (freeze_le w').io))
  | bod ks us=>exact hp.elim
  | bdd ks us=>exact hp.elim
  | exn c x=>exact hp.elim
  | len xs=>exact hp.elim
 | bk u' st'=>rw[em] at hp;exact hp.elim
 | ct u' st'=>rw[em] at hp;exact hp.elim
 | err c x u' st'=>rw[em] at hp;exact fun B' s' z' cv dd b l w sl q=>hp s' cv dd l (w.less b) q
 | bad=>rw[em] at hp;exact hp.elim
theorem fn_ok0 {G:G3} (hK:K=G.K) (hw:w=G.w) {x qual:Str} {st:Stmt} {f:Addr} {fd:FuncData} {N ps:List Str} {k:Nat} {mb:SM} (F:Fun K x qual st f fd) (S:FnScope N ps (defScope st))
  (h:∀(cdv:Value) (A:Around) (outer:List Env) (s:Shared) (H:Hp) (E:XK),Room k (cxOf (CXq P w) P w K mg base N qual (defScope st) f cdv A outer s H E)→A.handled=none→
   MSs ⟨cxOf (CXq P w) P w K mg base N qual (defScope st) f cdv A outer s H E,G,none,fun cls d _ H=>E cls d H,hK,hw⟩ (defBody st) mb) :
  FnOk0 P w K mg base (k+1) f fd ps (spM G ps.length (mfn N.length mb)):=by
 obtain⟨oc,od,kV,doc,pm,an,cdv,ct,osl,rfl,lk,hcd⟩:=F.ex
 refine⟨fun vs H Q E h=>h.1,fun A outer s H args us vs Q E hr e0 hb r q=>?_⟩
 have rc:RoomC (k+1) A outer H s:=.of hr
 have slots:∀y∈ps.zip us,(defScope st).names.lookup y.1=some .local∨((defScope st).names.lookup y.1=some .cell∧((cellsFrom (s.heap.objs.size+1) (defScope st).names []).lookup y.1).isSome=true):=fun y hy=>
  (S.par y.1 (List.of_mem_zip hy).1).imp id fun q=>⟨q,PySem.W.cellsFrom_some _ _ _ (.inl q)⟩
 have KX:K.In s.heap:=e0.mod.kin.keeps fun b o e=>(e0.bs b o e).1
 refine codeAny_call_function rc.depth (KX _ _ lk) rfl S.co S.gen rfl (PySem.W.codeRec_of KX hcd) (hb _ _ _ _ (wpAny_newFunctionEnv_cells S.kind slots ?_))
 rintro env rfl s1 x
 refine⟨(e0.mod.nolimit.keeps fun b o e=>(e0.bs b o e).1).keeps x.toInCall.keep,codeAny_func ?_⟩
 obtain⟨t,ht,y⟩:=body_sp (hx:=none) hK hw hK hw (h cdv A outer s H E rc.inside hr.hd) q
 have fin:=body_end (CX:=CXq P w A.handled) (s0:=s) ht (inv_start S rc.hot e0 q.1 r x) rfl rfl rfl (Un.kept fun _ _ e=>e) y fun e s' h=>h
 rw[hr.hd] at fin
 exact fin
end
section
variable {X:Cx} {P:P3} {pos p:Pos} {x:Str} {e:Expr} {es:List Expr} {ma:AM} {m:List D→M D} {k j n:Nat} {pins:List (Addr×Obj)} {z:L2.St} {H:Hp} {s:Shared}
structure RoomW (k:Nat) (X:Cx):Prop where
 dp:X.A.depth+3 * k+5<recursionLimit
 un:X.A.units+16 * k+200<cLine
 hot:∀(pins:List (Addr×Obj)) (z:L2.St) (H:Hp) (s:Shared),Inv X pins z H s→HotO X.A X.stack H s
theorem RoomW.mono (r:RoomW k X) (h:j≤k):RoomW j X:=⟨by have:=r.dp;omega,by have:=r.un;omega,r.hot⟩
theorem RoomW.call (r:RoomW k X) (I:Inv X pins z H s):RoomC k X.A X.stack H s:=⟨r.dp,r.un,r.hot _ _ _ _ I⟩
end
end M3
namespace M3
open PySem PySem.Spec PyProof.Rows L2 PySem.W PySem.Calls
end M3
namespace PySem.SeqAt
open AutoSeq1 (wpAny_loadPart')
open MeetsSeq MeetsSeq2 MeetsSeq3 SeqRoads2
end PySem.SeqAt
namespace M3
open PySem PySem.Spec PyProof.Rows L2 PySem.W PySem.Calls
end M3
namespace M3
open PySem PySem.Spec PyProof.Rows L2 PySem.W PySem.Calls
end M3
namespace M3
open PySem PySem.Spec PyProof.Rows L2 PySem.W PySem.Calls
end M3
namespace M3
open PySem PySem.Spec PyProof.Rows L2 PySem.W PySem.Calls
end M3
namespace M3
open PySem PySem.Spec PyProof.Rows L2 PySem.W PySem.Calls
end M3
namespace M3
open PySem PySem.Spec PyProof.Rows L2 PySem.W PySem.Calls
end M3
namespace M3
open PySem PySem.Spec PyProof.Rows L2 PySem.W PySem.Calls
theorem Wd.dead {G:G3} {B:Addr→Prop} {st:Store} {s:S3} (w:Wd G B st s) (C:Addr):Wd G B (st++[.dead]) ⟨ioNew s.io st.length C,s.F,s.H⟩∧Le B s ⟨ioNew s.io st.length C,s.F,s.H⟩∧ioNew s.io st.length C st.length=some C:=by
 have hio:IoLe s.io (ioNew s.io st.length C):=fun k a e=>by
  have:=w.dom k a e
  unfold ioNew
  rw[if_neg (by omega)]
  exact e
 have old:∀{k:Nat} {o:MO},(st++[MO.dead])[k]?=some o→o.tr=true→k<st.length∧st[k]?=some o:=fun {k o} e t=>by
  rcases Nat.lt_trichotomy k st.length with q | q | q
  ·rw[List.getElem?_append_left q] at e
   exact⟨q,e⟩
  ·subst q
   rw[List.getElem?_append_right (Nat.le_refl _),Nat.sub_self] at e
   cases e
   cases t
  ·rw[List.getElem?_eq_none (by simp;omega)] at e
   cases e
 have ioo:∀{k:Nat},k<st.length→ioNew s.io st.length C k=s.io k:=fun {k} h=>by
  unfold ioNew
  rw[if_neg (by omega)]
 refine⟨⟨w.sub,w.hid,w.ftb,fun k a e=>?_,fun j k a oj ok e1 e2 q1 t1 q2 t2=>?_,fun k o e t=>?_,fun k o e t=>?_,w.tabM (Same.refl _) fun P ps e=>e⟩,⟨hio,Same.refl _,fun _ _=>rfl⟩,if_pos rfl⟩
 ·rw[List.length_append]
  have e:(if k=st.length then some C else s.io k)=some a:=e
  by_cases q:k=st.length
  ·rw[q];simp
  ·rw[if_neg q] at e
   have:=w.dom k a e
   simp;omega
 ·obtain⟨l1,q1⟩:=old q1 t1
  obtain⟨l2,q2⟩:=old q2 t2
  have e1:s.io j=some a:=(ioo l1).symm.trans e1
  have e2:s.io k=some a:=(ioo l2).symm.trans e2
  exact w.inj j k a oj ok e1 e2 q1 t1 q2 t2
 ·obtain⟨l1,q1⟩:=old e t
  obtain⟨a,h1,h2,h3,h4⟩:=w.obj k o q1 t
  exact⟨a,hio k a h1,h2,h3,ObjR.mono (s':=⟨ioNew s.io st.length C,s.F,s.H⟩) hio (Same.refl _) rfl h4⟩
 ·rcases Nat.lt_trichotomy k st.length with q | q | q
  ·rw[List.getElem?_append_left q] at e
   exact w.untM (s':=⟨ioNew s.io st.length C,s.F,s.H⟩) hio (Same.refl _) k o e t
  ·subst q
   rw[List.getElem?_append_right (Nat.le_refl _),Nat.sub_self] at e
   cases e
   exact⟨C,if_pos rfl,True.intro⟩
  ·rw[List.getElem?_eq_none (by simp;omega)] at e
   cases e
end M3
namespace M3
open PySem PySem.Spec PyProof.Rows L2 PySem.W PySem.Calls
end M3
namespace M3
open PySem PySem.Spec PyProof.Rows L2
end M3
namespace M3
open PySem PySem.Spec PyProof.Rows L2
end M3
namespace M3
open PySem PySem.Spec PyProof.Rows L2
end M3
namespace M3
open PySem PySem.Spec PyProof.Rows L2
end M3
namespace M3
open PySem PySem.Spec PyProof.Rows L2
def eIsDD (ma:AM):EM:=fun u=>M.bind (ma u) fun ws=>match ws with
 | [w,.val (.ty T)]=>M.bind (ddOf w) fun _=>M.bind (M.of (kitB "dict" T)) fun b=>M.pure (.val (.bl b))
 | _=>M.bad
@[simp] theorem run_eIsDD (ma:AM) {u:Sl3} {st:Store} {kw:Res W→Prop}:M3.run (eIsDD ma u st) kw=M3.run (ma u st) (kBind (fun ws=>match ws with
 | [w,.val (.ty T)]=>M.bind (ddOf w) fun _=>M.bind (M.of (kitB "dict" T)) fun b=>M.pure (.val (.bl b))
 | _=>M.bad) kw):=run_bind _ _
def eClrDD (mo:EM):EM:=fun u=>M.bind (mo u) fun w=>M.bind (ddOw w) fun _=>fun st=>match w with
 | .val (.ref j)=>.ok (.val .non) (st.set j (.ddi [] []))
 | _=>.bad
@[simp] theorem run_eClrDD (mo:EM) {u:Sl3} {st:Store} {kw:Res W→Prop}:M3.run (eClrDD mo u st) kw=M3.run (mo u st) (kBind (fun w=>M.bind (ddOw w) fun _=>fun st=>match w with
 | .val (.ref j)=>.ok (.val .non) (st.set j (.ddi [] []))
 | _=>.bad) kw):=run_bind _ _
end M3
namespace M3
open PySem PySem.Spec PyProof.Rows L2
def mNewDD (q:List D×List D):M W:=fun st=>.ok (.val (.ref st.length)) (st++[.ddi q.1 q.2])
def eNewDc (mi:FM) (g:GM) (c:TM) (ek ev:EM) (own:List Nat):EM:=fun u=>M.bind (mi u) fun ds=>M.bind (dcL g c ek ev (wipe3 u own) ds [] []) mNewDD
@[simp] theorem run_eNewDc {mi:FM} {g:GM} {c:TM} {a b:EM} {own:List Nat} {u:Sl3} {st:Store} {kw:Res W→Prop}:M3.run (eNewDc mi g c a b own u st) kw=M3.run (mi u st) (kBind (fun ds=>M.bind (dcL g c a b (wipe3 u own) ds [] []) mNewDD) kw):=run_bind _ _
@[simp] theorem run_mNewDD (q:List D×List D) {st:Store} {kw:Res W→Prop}:M3.run (mNewDD q st) kw=kw (.ok (.val (.ref st.length)) (st++[.ddi q.1 q.2])):=rfl
end M3
namespace M3
open PySem PySem.Spec PyProof.Rows L2
end M3
namespace M3
open PySem PySem.Spec PyProof.Rows
def snooze:GenState→GenState
 | .suspended _ l c p fs cl=>.suspended (fun _=>.unsupported "woken") l c p fs cl
 | x=>x
def isSlp:GenState→Bool
 | .suspended ..=>true
 | _=>false
theorem snooze_seen (x:GenState):(snooze x).seen=x.seen:=by cases x <;> rfl
theorem snooze_bare (x:GenState):(snooze x).bare=x.bare:=by cases x <;> rfl
structure Doze (O:Nat→Option GenState) (s0 s:Shared):Prop where
 heap:s.heap=s0.heap
 drawn:s.drawn=s0.drawn
 toks:s.toks=s0.toks
 os:s.os=s0.os
 size:s.gens.size=s0.gens.size
 slp:∀i x,O i=some x→isSlp x=true∧s0.gens[i]?=some (snooze x)∧s.gens[i]?=some x
 oth:∀i,O i=none→s.gens[i]?=s0.gens[i]?
 nice:∀i k l c p fs cl,O i=none→s0.gens[i]?=some (.suspended k l c p fs cl)→splitAtGen fs=none
section
variable {O:Nat→Option GenState} {s0 s:Shared} {M:Model} {Γ:PySem.Ctx} {p:Pos}
theorem Doze.heapTo (d:Doze O s0 s) (h:Heap):Doze O { s0 with heap:=h } { s with heap:=h }:=⟨rfl,d.drawn,d.toks,d.os,d.size,d.slp,d.oth,d.nice⟩
theorem Doze.set (d:Doze O s0 s) {g:Nat} (hg:O g=none) (x:GenState) (hx:∀k l c p fs cl,x=.suspended k l c p fs cl→splitAtGen fs=none):Doze O (s0.setGen g x) (s.setGen g x):=by
 have other:∀{t:Shared} {i:Nat},i≠g→(t.setGen g x).gens[i]?=t.gens[i]?:=fun {t i} ne=>by
  show (t.gens.setIfInBounds g x)[i]?=_
  rw[Array.getElem?_setIfInBounds_ne (Ne.symm ne)]
 refine⟨d.heap,d.drawn,d.toks,d.os,?_,fun i y e=>?_,fun i e=>?_,fun i k l c p fs cl e q=>?_⟩
 ·show (s.gens.setIfInBounds g x).size=(s0.gens.setIfInBounds g x).size
  simp[d.size]
 ·have ne:i≠g:=fun z=>by rw[z,hg] at e;cases e
  rw[other ne,other ne]
  exact d.slp i y e
 ·by_cases ne:i=g
  ·subst ne
   show (s.gens.setIfInBounds i x)[i]?=(s0.gens.setIfInBounds i x)[i]?
   by_cases hi:i<s0.gens.size
   ·rw[Array.getElem?_setIfInBounds_self_of_lt (by rw[d.size];exact hi),Array.getElem?_setIfInBounds_self_of_lt hi]
   ·rw[Array.getElem?_eq_none (by simp[d.size];omega),Array.getElem?_eq_none (by simp;omega)]
  ·rw[other ne,other ne]
   exact d.oth i e
 ·by_cases ne:i=g
  ·subst ne
   have q:(s0.gens.setIfInBounds i x)[i]?=some (.suspended k l c p fs cl):=q
   by_cases hi:i<s0.gens.size
   ·rw[Array.getElem?_setIfInBounds_self_of_lt hi] at q
    cases q
    exact hx _ _ _ _ _ _ rfl
   ·rw[Array.getElem?_eq_none (by simp;omega)] at q
    cases q
  ·rw[other ne] at q
   exact d.nice i k l c p fs cl e q
theorem Doze.push (d:Doze O s0 s) (c:Code):Doze O { s0 with gens:=s0.gens.push (.fresh c) } { s with gens:=s.gens.push (.fresh c) }:=by
 have lt:∀i x,O i=some x→i<s0.gens.size:=fun i x e=>(Array.getElem?_eq_some_iff.mp (d.slp i x e).2.1).1
 refine⟨d.heap,d.drawn,d.toks,d.os,by simp[d.size],fun i x e=>?_,fun i e=>?_,fun i k l c' p fs cl e q=>?_⟩
 ·have h:=lt i x e
  obtain⟨h1,h2,h3⟩:=d.slp i x e
  exact⟨h1,by show (s0.gens.push _)[i]?=_;rw[Array.getElem?_push_lt h,←h2,Array.getElem?_eq_getElem h],by
   have h':i<s.gens.size:=by rw[d.size];exact h
   show (s.gens.push _)[i]?=_
   rw[Array.getElem?_push_lt h',←h3,Array.getElem?_eq_getElem h']⟩
 ·show (s.gens.push _)[i]?=(s0.gens.push _)[i]?
  rw[Array.getElem?_push,Array.getElem?_push,d.size,d.oth i e]
 ·have q:(s0.gens.push (.fresh c))[i]?=some (.suspended k l c' p fs cl):=q
  rw[Array.getElem?_push] at q
  split at q
  ·cases q
  ·exact d.nice i k l c' p fs cl e q
theorem no_runs {w:String}:∀{fs:List Frame} {s:Shared} {e:End} {s':Shared} {Γ:PySem.Ctx},¬Runs M Γ p (.unsupported w) fs s e s':=by
 have key:∀{Γ:PySem.Ctx} {p:Pos} {t:Sem PySem.Fin} {fs:List Frame} {s:Shared} {e:End} {s':Shared},Runs M Γ p t fs s e s'→t≠.unsupported w:=by
  intro Γ p t fs s e s' h
  induction h <;> first | (intro z;cases z;done) | assumption
 exact fun {fs s e s' Γ} h=>key h rfl
def niceEnd:End→Prop
 | .susp _ _ _ _ _ _ fs=>splitAtGen fs=none
 | _=>True
theorem niceEnd_gen {e:End} (n:niceEnd e):∀k l c p fs cl,e.genState=.suspended k l c p fs cl→splitAtGen fs=none:=fun k l c p fs cl z=>by
 cases e with
 | ret _=>cases z
 | susp v g l k c p fs=>cases z;exact n
theorem split_ret {k:Result→Sem PySem.Fin} {h:Option Value} {gd:Bool} {l kp:List Value} {c:Code} {q:Pos} {fs:List Frame}:splitAtGen (.ret k h gd l c q kp :: fs)=none↔splitAtGen fs=none:=by
 show (splitAtGen fs).map _=none↔_
 cases splitAtGen fs <;> simp
theorem split_app:∀{a b:List Frame},splitAtGen a=none→splitAtGen b=none→splitAtGen (a++b)=none
 | [],_,_,h=>h
 | .ret .. :: a,b,h,h'=>split_ret.mpr (split_app (split_ret.mp h) h')
 | .gen .. :: a,b,h,_=>by cases h
theorem Doze.look (d:Doze O s0 s) {g:Nat} {x:GenState} (e:s0.gens[g]?=some x):(O g=none∧s.gens[g]?=some x)∨∃y,isSlp y=true∧x=snooze y∧s.gens[g]?=some y:=by
 cases hO:O g with
 | none=>exact .inl ⟨rfl,(d.oth g hO).trans e⟩
 | some y=>
  obtain⟨h1,h2,h3⟩:=d.slp g y hO
  rw[e] at h2
  exact .inr ⟨y,h1,Option.some.inj h2,h3⟩
theorem Doze.up (d:Doze O s0 s) {g:Nat} {x:GenState} (e:s0.gens[g]?=some x) (h:isSlp x=false):O g=none∧s.gens[g]?=some x:=by
 rcases d.look e with q | ⟨y,h1,rfl,_⟩
 ·exact q
 ·cases y <;> first | (cases h1;done) | exact Bool.noConfusion h
theorem runs_doze {t:Sem PySem.Fin} {fs:List Frame} {e:End} {s0':Shared} (h:Runs M Γ p t fs s0 e s0'):∀{s:Shared},splitAtGen fs=none→Doze O s0 s→∃s',Doze O s0' s'∧Runs M Γ p t fs s e s'∧niceEnd e:=by
 induction h with
 | done=>exact fun _ d=>⟨_,d,.done,trivial⟩
 | raise=>exact fun _ d=>⟨_,d,.raise,trivial⟩
 | again q _ ih=>intro s hf d;obtain⟨s',d',r,n⟩:=ih hf d;exact⟨s',d',.again q r,n⟩
 | rule _ ih=>intro s hf d;obtain⟨s',d',r,n⟩:=ih hf d;exact⟨s',d',.rule r,n⟩
 | «at» _ ih=>intro s hf d;obtain⟨s',d',r,n⟩:=ih hf d;exact⟨s',d',.at r,n⟩
 | load e _ ih=>intro s hf d;obtain⟨s',d',r,n⟩:=ih hf d;exact⟨s',d',.load (by rw[d.heap];exact e) r,n⟩
 | update e _ ih=>
  intro s hf d
  obtain⟨s',d',r,n⟩:=ih hf (d.heapTo _)
  exact⟨s',d',.update (by rw[d.heap];exact e) (by rw[d.heap];exact r),n⟩
 | loadIfAlive _ ih=>intro s hf d;obtain⟨s',d',r,n⟩:=ih hf d;exact⟨s',d',.loadIfAlive (by rw[d.heap];exact r),n⟩
 | point _ ih=>intro s hf d;obtain⟨s',d',r,n⟩:=ih hf d;exact⟨s',d',.point r,n⟩
 | alloc _ ih=>
  intro s hf d
  obtain⟨s',d',r,n⟩:=ih hf (d.heapTo _)
  exact⟨s',d',.alloc (by rw[d.heap];exact r),n⟩
 | fresh _ ih=>
  intro s hf d
  obtain⟨s',d',r,n⟩:=ih hf (s:={ s with toks:=s.toks+1 }) ⟨d.heap,d.drawn,by show s.toks+1=_;rw[d.toks],d.os,d.size,d.slp,d.oth,d.nice⟩
  exact⟨s',d',.fresh (by rw[d.toks];rw[d.toks] at r;exact r),n⟩
 | ask _ ih=>intro s hf d;obtain⟨s',d',r,n⟩:=ih hf d;exact⟨s',d',.ask r,n⟩
 | choose q _ ih=>
  intro s hf d
  obtain⟨s',d',r,n⟩:=ih hf (s:={ s with drawn:=s.drawn.bump _ }) ⟨d.heap,congrArg (fun x=>Drawn.bump x _) d.drawn,d.toks,d.os,d.size,d.slp,d.oth,d.nice⟩
  exact⟨s',d',.choose q (by rw[d.drawn];rw[d.drawn] at r;exact r),n⟩
 | os _ ih=>
  intro s hf d
  obtain⟨s',d',r,n⟩:=ih hf (s:={ s with os:=(Os.step s.os _).1 }) ⟨d.heap,d.drawn,d.toks,congrArg (fun x=>(Os.step x _).1) d.os,d.size,d.slp,d.oth,d.nice⟩
  exact⟨s',d',.os (by rw[d.os];rw[d.os] at r;exact r),n⟩
 | handled _ ih=>intro s hf d;obtain⟨s',d',r,n⟩:=ih hf d;exact⟨s',d',.handled r,n⟩
 | genState e _ ih=>
  intro s hf d
  obtain⟨s',d',r,n⟩:=ih hf d
  rcases d.look e with⟨_,q⟩ | ⟨y,_,rfl,q⟩
  ·exact⟨s',d',.genState q r,n⟩
  ·rw[snooze_seen] at r
   exact⟨s',d',.genState q r,n⟩
 | stack _ ih=>intro s hf d;obtain⟨s',d',r,n⟩:=ih hf d;exact⟨s',d',.stack r,n⟩
 | thread _ ih=>intro s hf d;obtain⟨s',d',r,n⟩:=ih hf d;exact⟨s',d',.thread r,n⟩
 | newGen _ ih=>
  intro s hf d
  obtain⟨s',d',r,n⟩:=ih hf (d.push _)
  exact⟨s',d',.newGen (by rw[d.size];exact r),n⟩
 | call _ _ ih1 ih2=>
  intro s hf d
  obtain⟨s1,d1,r1,_⟩:=ih1 rfl d
  obtain⟨s',d',r,n⟩:=ih2 hf d1
  exact⟨s',d',.call r1 r,n⟩
 | callSusp _ ih=>
  intro s hf d
  obtain⟨s1,d1,r1,n⟩:=ih rfl d
  exact⟨s1,d1,.callSusp r1,split_app n rfl⟩
 | yield=>exact fun _ d=>⟨_,d,.yield,rfl⟩
 | resumeFresh e _ hq _ ih1 ih2=>
  intro s hf d
  obtain⟨hO,q⟩:=d.up e rfl
  obtain⟨s1,d1,r1,n1⟩:=ih1 rfl (d.set hO .running (fun _ _ _ _ _ _ z=>by cases z))
  obtain⟨s',d',r,n⟩:=ih2 hf (d1.set hO _ (niceEnd_gen n1))
  exact⟨s',d',.resumeFresh q r1 hq r,n⟩
 | resumeSuspended e r0 hq _ ih1 ih2=>
  intro s hf d
  rcases d.look e with⟨hO,q⟩ | ⟨y,h1,h2,_⟩
  ·obtain⟨s1,d1,r1,n1⟩:=ih1 (d.nice _ _ _ _ _ _ _ hO e) (d.set hO .running (fun _ _ _ _ _ _ z=>by cases z))
   obtain⟨s',d',r,n⟩:=ih2 hf (d1.set hO _ (niceEnd_gen n1))
   exact⟨s',d',.resumeSuspended q r1 hq r,n⟩
  ·cases y with
   | suspended k l c p fs cl=>
    injection h2 with h2
    rw[h2] at r0
    exact absurd r0 no_runs
   | _=>cases h1
 | resumeJustStarted e hv _ ih=>
  intro s hf d
  obtain⟨s',d',r,n⟩:=ih hf d
  exact⟨s',d',.resumeJustStarted (d.up e rfl).2 hv r,n⟩
 | resumeThrowFresh e _ ih=>
  intro s hf d
  obtain⟨hO,q⟩:=d.up e rfl
  obtain⟨s',d',r,n⟩:=ih hf (d.set hO .finished (fun _ _ _ _ _ _ z=>by cases z))
  exact⟨s',d',.resumeThrowFresh q r,n⟩
 | resumeRunning e _ ih=>
  intro s hf d
  obtain⟨s',d',r,n⟩:=ih hf d
  exact⟨s',d',.resumeRunning (d.up e rfl).2 r,n⟩
 | resumeFinished e _ ih=>
  intro s hf d
  obtain⟨s',d',r,n⟩:=ih hf d
  exact⟨s',d',.resumeFinished (d.up e rfl).2 r,n⟩
 | segRet _ _ ih1 ih2=>
  intro s hf d
  obtain⟨s1,d1,r1,_⟩:=ih1 rfl d
  obtain⟨s',d',r,n⟩:=ih2 (split_ret.mp hf) d1
  exact⟨s',d',.segRet r1 r,n⟩
 | segGen _ _ _ _=>intro s hf d;cases hf
 | segSuspOut h0 _ ih=>
  intro s hf d
  obtain⟨s1,d1,r1,n⟩:=ih rfl d
  exact⟨s1,d1,.segSuspOut h0 r1,split_app n hf⟩
 | segSuspGen h0 _ _ _ _ _=>intro s hf d;rw[hf] at h0;cases h0
theorem wp_doze {α:Type} {Q:α→Pos→Shared→Prop} {E:Value→Pos→Shared→Prop} (t:Sem α):∀{p:Pos} {s0 s:Shared},Sem.wp M Γ t Q E p s0→Doze O s0 s→
  Sem.wp M Γ t (fun a p' s'=>∃u,Doze O u s'∧Q a p' u) (fun x p' s'=>∃u,Doze O u s'∧E x p' u) p s:=by
 induction t with
 | pure a=>exact fun h d=>⟨_,d,h⟩
 | raise x=>exact fun h d=>⟨_,d,h⟩
 | unsupported _=>exact fun h _=>h.elim
 | finish _=>exact fun h _=>h.elim
 | register _ _=>exact fun h _=>h.elim
 | yield _ _ _ _=>exact fun h _=>h.elim
 | fork _ _=>exact fun h _=>h.elim
 | await _ _ _ _ _=>exact fun h _=>h.elim
 | rule _ k ih=>exact fun h d=>ih _ h d
 | «at» _ k ih=>exact fun h d=>ih _ h d
 | point _ k ih=>exact fun h d=>ih _ h d
 | ask k ih=>exact fun h d=>ih _ h d
 | stack k ih=>exact fun h d=>ih _ h d
 | thread k ih=>exact fun h d=>ih _ h d
 | handled own k ih=>exact fun h d=>ih _ h d
 | load a _ k ih=>intro p s0 s ⟨o,e,h⟩ d;exact⟨o,by rw[d.heap];exact e,ih _ h d⟩
 | update a _ f k ih=>intro p s0 s ⟨e,h⟩ d;exact⟨by rw[d.heap];exact e,by have:=ih _ h (d.heapTo _);rw[d.heap];exact this⟩
 | loadIfAlive a k ih=>intro p s0 s h d;have:=ih _ h d;show Sem.wp M Γ (k (s.heap.get? a)) _ _ _ _;rw[d.heap];exact this
 | alloc o k ih=>intro p s0 s h d;have:=ih _ h (d.heapTo _);show Sem.wp M Γ (k s.heap.objs.size) _ _ _ { s with heap:=s.heap.push o };rw[d.heap];exact this
 | fresh k ih=>
  intro p s0 s h d
  have:=ih _ h (s:={ s with toks:=s.toks+1 }) ⟨d.heap,d.drawn,by show s.toks+1=_;rw[d.toks],d.os,d.size,d.slp,d.oth,d.nice⟩
  show Sem.wp M Γ (k s.toks) _ _ _ { s with toks:=s.toks+1 }
  rw[d.toks] at this⊢
  exact this
 | choose src n k ih=>
  intro p s0 s ⟨e,h⟩ d
  refine⟨e,?_⟩
  have:=ih _ h (s:={ s with drawn:=s.drawn.bump src }) ⟨d.heap,congrArg (fun x=>Drawn.bump x _) d.drawn,d.toks,d.os,d.size,d.slp,d.oth,d.nice⟩
  rw[d.drawn] at this⊢
  exact this
 | os q _ k ih=>
  intro p s0 s h d
  have:=ih _ h (s:={ s with os:=(Os.step s.os q).1 }) ⟨d.heap,d.drawn,d.toks,congrArg (fun x=>(Os.step x _).1) d.os,d.size,d.slp,d.oth,d.nice⟩
  show Sem.wp M Γ (k (Os.step s.os q).2) _ _ _ { s with os:=(Os.step s.os q).1 }
  rw[d.os] at this⊢
  exact this
 | call c hd _ _ k ih=>
  intro p s0 s ⟨r,s1,hr,h⟩ d
  obtain⟨s2,d2,r2,_⟩:=runs_doze hr rfl d
  exact⟨r,s2,r2,ih _ h d2⟩
 | genState g k ih=>
  intro p s0 s ⟨st,e,h⟩ d
  rcases d.look e with⟨_,q⟩ | ⟨y,_,rfl,q⟩
  ·exact⟨st,q,ih _ h d⟩
  ·rw[snooze_seen] at h
   exact⟨y,q,ih _ h d⟩
 | newGen c k ih=>
  intro p s0 s h d
  have:=ih _ h (d.push c)
  show Sem.wp M Γ (k s.gens.size) _ _ _ { s with gens:=s.gens.push (.fresh c) }
  rw[d.size]
  exact this
 | resume g r _ k ih=>
  intro p s0 s ⟨res,s1,hw,h⟩ d
  have key:∃s2,Doze O s1 s2∧Wakes M Γ p g r s res s2:=by
   unfold Wakes at hw⊢
   cases e:s0.gens[g]? with
   | none=>rw[e] at hw;exact hw.elim
   | some x=>
    rw[e] at hw
    rcases d.look e with⟨hO,q⟩ | ⟨y,h1,rfl,q⟩
    ·rw[q]
     have run:∀{c:Code} {t:Sem PySem.Fin} {p0:Pos} {fs:List Frame} {e1:End} {s2:Shared},splitAtGen fs=none→Runs M (Γ.wake c p) p0 t fs (s0.setGen g .running) e1 s2→∃s3,Runs M (Γ.wake c p) p0 t fs (s.setGen g .running) e1 s3∧Doze O (s2.setGen g e1.genState) (s3.setGen g e1.genState):=fun hf hr=>by
      obtain⟨s3,d3,r3,n3⟩:=runs_doze hr hf (d.set hO .running (fun _ _ _ _ _ _ z=>by cases z))
      exact⟨s3,r3,d3.set hO _ (niceEnd_gen n3)⟩
     cases x with
     | fresh c=>
      cases r with
      | send v=>
       cases v <;> first
        | (obtain⟨e1,s2,hr,hq,rfl,rfl⟩:=hw;obtain⟨s3,r3,d3⟩:=run rfl hr;exact⟨_,d3,e1,s3,r3,hq,rfl,rfl⟩)
        | (obtain⟨rfl,rfl⟩:=hw;exact⟨s,d,rfl,rfl⟩)
      | throw x=>obtain⟨rfl,rfl⟩:=hw;exact⟨_,d.set hO .finished (fun _ _ _ _ _ _ z=>by cases z),rfl,rfl⟩
     | suspended k0 l0 c0 p0 fs cl=>
      obtain⟨e1,s2,hr,hq,rfl,rfl⟩:=hw
      obtain⟨s3,r3,d3⟩:=run (d.nice _ _ _ _ _ _ _ hO e) hr
      exact⟨_,d3,e1,s3,r3,hq,rfl,rfl⟩
     | running=>obtain⟨rfl,rfl⟩:=hw;exact⟨s,d,rfl,rfl⟩
     | finished=>obtain⟨rfl,rfl⟩:=hw;exact⟨s,d,rfl,rfl⟩
    ·cases y with
     | suspended k0 l0 c0 p0 fs cl=>obtain⟨e1,s2,hr,_⟩:=hw;exact absurd hr no_runs
     | _=>cases h1
  obtain⟨s2,d2,w2⟩:=key
  exact⟨res,s2,w2,ih _ h d2⟩
end
def lull (s:Shared):Shared:={ s with gens:=s.gens.map snooze }
def slept (s:Shared):Nat→Option GenState:=fun i=>match s.gens[i]? with
 | some x=>if isSlp x=true then some x else none
 | none=>none
theorem doze_lull (s:Shared):Doze (slept s) (lull s) s:=by
 have at_:∀i:Nat,(lull s).gens[i]?=s.gens[i]?.map snooze:=fun i=>by
  show (s.gens.map snooze)[i]?=_
  rw[Array.getElem?_map]
 refine⟨rfl,rfl,rfl,rfl,by show _=(s.gens.map snooze).size;simp,fun i x e=>?_,fun i e=>?_,fun i k l c p fs cl e q=>?_⟩
 ·unfold slept at e
  cases h:s.gens[i]? with
  | none=>rw[h] at e;cases e
  | some y=>
   rw[h] at e
   dsimp only at e
   split at e
   ·cases e
    exact⟨by assumption,by rw[at_,h];rfl,rfl⟩
   ·cases e
 ·rw[at_]
  unfold slept at e
  cases h:s.gens[i]? with
  | none=>rfl
  | some y=>
   rw[h] at e
   dsimp only at e
   split at e
   ·cases e
   ·cases y <;> first | rfl | (exfalso;apply_assumption;rfl)
 ·rw[at_] at q
  unfold slept at e
  cases h:s.gens[i]? with
  | none=>rw[h] at q;cases q
  | some y=>
   rw[h] at e q
   dsimp only at e
   split at e
   ·cases e
   ·rename_i hn
    cases y <;> first | (injection q with q;cases q;done) | exact absurd rfl hn
theorem bare_lull {s:Shared} (h:AllBare s.gens):AllBare (lull s).gens:=fun y hy=>by
 obtain⟨x,hx,rfl⟩:=Array.mem_map.mp (show y∈s.gens.map snooze from hy)
 rw[snooze_bare]
 exact h x hx
structure Dozed (s u s':Shared):Prop where
 heap:s'.heap=u.heap
 toks:s'.toks=u.toks
 os:s'.os=u.os
 bare:AllBare s.gens→AllBare u.gens→AllBare s'.gens
 slp:∀(i:Nat) (x:GenState),s.gens[i]?=some x→isSlp x=true→s'.gens[i]?=some x
theorem dozed_of {s u s':Shared} (d:Doze (slept s) u s'):Dozed s u s':=by
 refine⟨d.heap,d.toks,d.os,fun h h' y hy=>?_,fun i x e q=>(d.slp i x (by unfold slept;rw[e];dsimp only;rw[if_pos q])).2.2⟩
 obtain⟨i,hi,e⟩:=Array.mem_iff_getElem.mp hy
 have e:s'.gens[i]?=some y:=by rw[Array.getElem?_eq_getElem hi,e]
 cases hO:slept s i with
 | none=>exact h' y (Array.mem_of_getElem? ((d.oth i hO).symm.trans e))
 | some x=>
  have q:=(d.slp i x hO).2.2
  rw[e] at q
  cases q
  unfold slept at hO
  cases hs:s.gens[i]? with
  | none=>rw[hs] at hO;cases hO
  | some z=>
   rw[hs] at hO
   dsimp only at hO
   split at hO
   ·cases hO
    exact h _ (Array.mem_of_getElem? hs)
   ·cases hO
theorem wpAny_doze {M:Model} {A:Around} {α:Type} {t:Sem α} {Q:α→Shared→Prop} {E:Value→Shared→Prop} {s:Shared} (h:wpAny M A t Q E (lull s)) :
  wpAny M A t (fun a s'=>∃u,Dozed s u s'∧Q a u) (fun x s'=>∃u,Dozed s u s'∧E x u) s:=fun Γ p hΓ=>
 Sem.wp_mono M Γ t (fun _ _ _ ⟨u,d,q⟩=>⟨u,dozed_of d,q⟩) (fun _ _ _ ⟨u,d,q⟩=>⟨u,dozed_of d,q⟩) p s (wp_doze t (h Γ p hΓ) (doze_lull s))
end M3
namespace M3
open PySem PySem.Spec PyProof.Rows L2 GenW
def Sg (M:Model) (A:Around) (Z:End→Shared→Prop) (c:Code) (t:Sem PySem.Fin) (fs:List Frame) (s:Shared):Prop:=
 ∀(Γ:PySem.Ctx) (p:Pos),Γ.code=c→Γ.Woken A→∃(e:End) (s1:Shared),Runs M Γ p t fs s e s1∧Z e s1
section
variable {M:Model} {A:Around} {Z:End→Shared→Prop} {c:Code} {fs:List Frame} {s:Shared}
theorem Sg.imp {Z':End→Shared→Prop} {t:Sem PySem.Fin} (h:∀e s1,Z e s1→Z' e s1) (x:Sg M A Z c t fs s):Sg M A Z' c t fs s:=fun Γ p hc w=>
 let ⟨e,s1,r,z⟩:=x Γ p hc w
 ⟨e,s1,r,h e s1 z⟩
theorem sg_wrap {α:Type} {m:Sem α} {K:α→Sem PySem.Fin} {H:Value→Sem PySem.Fin} {gd:Bool→Bool} {lv:List Value→List Value}
  (h:wpAny M (A.over c fs) m (fun a s'=>Sg M A Z c (K a) fs s') (fun x s'=>Sg M A Z c (H x) fs s') s):Sg M A Z c (m.wrap K H gd lv) fs s:=fun Γ p hc w=>by
 subst hc
 exact runs_wrap_of_wp K H gd lv m (h (Γ.over fs) p (w.over fs)) (fun a p' s' k=>k Γ p' rfl w) (fun x p' s' k=>k Γ p' rfl w)
theorem sg_at {q:Pos} {k:Unit→Sem PySem.Fin} (h:Sg M A Z c (k ()) fs s):Sg M A Z c (.at q k) fs s:=sg_wrap (K:=k) (m:=standAt q) (gd:=id) (lv:=id) (H:=.raise) (wpAny_standAt h)
theorem sg_point {l:List Value} {k:Unit→Sem PySem.Fin} (h:Sg M A Z c (k ()) fs s):Sg M A Z c (.point l k) fs s:=sg_wrap (K:=k) (m:=point) (gd:=id) (lv:=fun _=>l) (H:=.raise) (wpAny_point h)
theorem sg_call {c1:Code} {h g l} {k:Result→Sem PySem.Fin} (hc:∀p,Sg M A Z c1 (M.den c1) (.ret k h g l c p [] :: fs) s):Sg M A Z c (.call c1 h g l k) fs s:=fun Γ p e w=>by
 subst e
 obtain⟨e,s1,r,z⟩:=hc p (Γ.goto c1) p rfl (w.goto c1)
 exact⟨e,s1,runs_call_seg r,z⟩
theorem sg_leaf {k h g l c1 p1 kp} (r:Result) (hk:Sg M A Z c1 (k r) fs s):Sg M A Z c (leafOf r) (.ret k h g l c1 p1 kp :: fs) s:=fun Γ p e w=>by
 subst e
 obtain⟨e,s1,q,z⟩:=hk (Γ.goto c1) p1 rfl (w.goto c1)
 exact⟨e,s1,Runs.pop r q,z⟩
theorem sg_again {c1:Code} (hq:c1.quiet=true) (hc:Sg M A Z c1 (M.den c1) fs s):Sg M A Z c (.pure (.again c1)) fs s:=fun Γ p e w=>by
 subst e
 obtain⟨e,s1,r,z⟩:=hc (Γ.goto c1) p rfl (w.goto c1)
 exact⟨e,s1,Runs.head (c₁:=c1) (fun _ _ x=>.again hq x) r,z⟩
theorem sg_end (r:Result) (h:Z (.ret r) s):Sg M A Z c (leafOf r) [] s:=fun Γ p e w=>⟨.ret r,s,Runs.leaf r,h⟩
theorem sg_yield {v g l} {k:Resume→Sem PySem.Fin} (hf:splitAtGen fs=none) (h:∀p,Z (.susp v g l k c p fs) s):Sg M A Z c (.yield v g l k) fs s:=fun Γ p e w=>by
 subst e
 exact⟨_,s,Runs.yield' fs hf,h p⟩
def Go (M:Model) (A:Around) (Z:End→Shared→Prop) (gs:GenState) (r:Resume) (s:Shared):Prop:=match gs with
 | .fresh c=>r=.send .none∧Sg M A Z c (M.den c) [] s
 | .suspended k _ c _ fs _=>Sg M A Z c (k r) fs s
 | _=>False
theorem wpAny_go {Z:End→Shared→Prop} {E:Value→Shared→Prop} {g:Nat} {gs:GenState} {r:Resume} {l:List Value} {α:Type} {k:GenResult→Sem α} {Q:α→Shared→Prop} (hg:s.gens[g]?=some gs)
  (hgo:Go M A Z gs r (s.setGen g .running)) (hq:∀e s1,Z e s1→e.quiet=true) (h:∀e s1,Z e s1→wpAny M A (k e.result) Q E (s1.setGen g e.genState)):wpAny M A (.resume g r l k) Q E s:=fun Γ p w=>by
 rw[Sem.wp_resume]
 have hB:∀c,(Γ.wake c p).Woken A:=fun c=>w.wake c p
 cases gs with
 | running=>exact False.elim hgo
 | finished=>exact False.elim hgo
 | fresh c=>
  obtain⟨e0,hs⟩:=hgo
  subst e0
  obtain⟨e,s1,q,z⟩:=hs (Γ.wake c p) p rfl (hB c)
  refine⟨_,_,?_,h e s1 z Γ p w⟩
  unfold Wakes
  rw[hg]
  exact⟨e,s1,q,hq e s1 z,rfl,rfl⟩
 | suspended k0 l0 c0 p0 fs0 cl=>
  obtain⟨e,s1,q,z⟩:=hgo (Γ.wake c0 p) p0 rfl (hB c0)
  refine⟨_,_,?_,h e s1 z Γ p w⟩
  unfold Wakes
  rw[hg]
  exact⟨e,s1,q,hq e s1 z,rfl,rfl⟩
end
section
variable {Pg:Program} {wl:World} {A:Around} {s:Shared}
theorem stop_then {α β:Type} {Q:β→Shared→Prop} {E:Value→Shared→Prop} {f:α→Sem β} (c:CoolAt A s.heap) (hE:∀a h',(∀b o,s.heap.get? b=some o→h'.get? b=some o)→(∃o,h'.get? a=some o∧o.cls=.type "StopIteration")→E (.ref a) { s with heap:=h' }) :
  wpAny (model Pg wl) A (newExc (.type "StopIteration") [] >>= fun e=>((raiseNew e:Sem α) >>= f)) Q E s:=fun Γ p h=>by
 have q:=stop_cool (prog:=Pg) (w:=wl) (α:=α) (Q:=fun _ _=>False) c hE Γ p h
 rw[Sem.wp_bind'] at q⊢
 refine Sem.wp_mono _ Γ _ (fun e p1 s1 z=>?_) (fun _ _ _ z=>z) p s q
 rw[Sem.wp_bind']
 exact Sem.wp_mono _ Γ _ (fun _ _ _ z=>z.elim) (fun _ _ _ z=>z) p1 s1 z
theorem next_go {a:Addr} {g:Nat} {gs:GenState} {Z:End→Shared→Prop} {Q:Option Value→Shared→Prop} {E:Value→Shared→Prop} (hh:A.handled=none) (hl:s.heap.NoLimit) (hroom:A.depth<recursionLimit) (hg:s.heap.IsGen a g) (hgs:s.gens[g]?=some gs)
  (hgo:Go (model Pg wl) A.in1 Z gs (.send .none) (s.setGen g .running)) (hq:∀e s1,Z e s1→e.quiet=true)
  (hY:∀v gd l k c p fs s1,Z (.susp v gd l k c p fs) s1→Q (some v) (s1.setGen g (End.susp v gd l k c p fs).genState))
  (hR:∀r s1,Z (.ret r) s1→(r=.ok (.ret .none)∨r=.ok .next)∧∀h',(∀b o,s1.heap.get? b=some o→h'.get? b=some o)→Q none { s1.setGen g .finished with heap:=h' }):wpAny (model Pg wl) A (pyNext (.ref a)) Q E s:=by
 have up:gs≠.running∧gs≠.finished:=⟨fun z=>by subst z;exact hgo,fun z=>by subst z;exact hgo⟩
 have over:∀{r:Result},(r=.ok (.ret .none)∨r=.ok .next)→End.result (.ret r)=.returned .none:=fun h=>h.elim (fun z=>z▸rfl) fun z=>z▸rfl
 (unfold pyNext;refine wpAny_bind (wpAny_attempt (wpAny_callSpecial?_slot (name:=Str.ofString "__next__") hg.typeIs slot_gen_next (wpAny_call_entry slot_gen_next hg.typeIs entry_gen_next (show wpAny _ A.in1 (Builtin.Generator.genWake (.ref a) (.send .none)) _ _ s from ?_) (args_gen_next _)))))
 (unfold Builtin.Generator.genWake;refine wpAny_bind (wpAny_holding (wpAny_genNumber hg (wpAny_bind (wpAny_genState hgs ?_)))))
 cases gs with
 | running=>exact absurd rfl up.1
 | finished=>exact absurd rfl up.2
 | _=>
  (refine wpAny_bind (wpAny_roomToWake hl hroom ?_);show wpAny _ A.in1 (.resume g (.send .none) [] _) _ _ s;refine wpAny_go hgs hgo hq fun e s1 hz=>?_)
  cases e with
  | susp v gd l k c p fs=>exact wpAny_pure ⟨v,rfl,wpAny_pure (hY v gd l k c p fs s1 hz)⟩
  | ret r=>
   obtain⟨hr,hp⟩:=hR r s1 hz
   rw[over hr]
   refine(show wpAny _ A.in1 (newExc (.type "StopIteration") [] >>= fun x=>((raiseNew x:Sem _) >>= _)) _ _ _ from stop_then (.inl hh) fun x h' k ⟨o,e,cl⟩=>?_)
   exact wpAny_bind (wpAny_isInstance (T:="StopIteration") (b:=true) ⟨o,e,cl⟩ isSubtype_stop (wpAny_pure (hp h' k)))
end
end M3
namespace M3
open PySem PySem.Spec PyProof.Rows L2 GenW
section
variable {M:Model} {A:Around} {Z:End→Shared→Prop} {c:Code} {fs:List Frame} {s:Shared} {env:Env}
 {K:Flow→Sem PySem.Fin} {J:Value→Sem PySem.Fin} {gd:Bool→Bool} {lv:List Value→List Value}
theorem sg_stm {st:Stmt} {rest:List Stmt} (h:Sg M A Z c ((exec st env).wrap (fun f=>match f with
  | .next=>(execs rest env).wrap K J gd lv
  | f=>K f) J gd lv) fs s):Sg M A Z c ((execs (st :: rest) env).wrap K J gd lv) fs s:=(execs_cons_wrap st rest).symm▸h
theorem sg_yieldS {e:Expr} {q pos:Pos} (hf:splitAtGen fs=none) (hg:gd false=false) (hco:env.scope.isCoroutine=false) (hi:interactive env=false)
  (h:wpAny M (A.over c fs) (eval e env) (fun v s1=>∀(l:List Value) (k:Resume→Sem PySem.Fin) (p:Pos),(∀(Z':End→Shared→Prop) (s2:Shared),Sg M A Z' c (K .next) fs s2→Sg M A Z' c (k (.send .none)) fs s2)→Z (.susp v false l k c p fs) s1) (fun _ _=>False) s) :
  Sg M A Z c ((exec (.Expr (.Yield (some e) q) pos) env).wrap K J gd lv) fs s:=by
 have out:yieldOut env=yieldValue:=funext fun v=>by unfold yieldOut;rw[if_neg (by rw[hco];exact Bool.false_ne_true)]
 (rw[exec_Expr env _ pos hi rfl];show Sg M A Z c (.at pos fun _=>((eval e env >>= fun v=>(standAt q >>= fun _=>yieldOut env v)) >>= fun x=>dropValue (.Yield (some e) q) pos x).wrap K J gd lv) fs s)
 rw[out]
 refine sg_at ?_
 (rw[Sem.bind_eq_wrap',Sem.bind_eq_wrap'];rw[Sem.wrap_wrap,Sem.wrap_wrap])
 refine sg_wrap (wpAny_mono h (fun v s1 z=>sg_at (sg_yield hf fun p=>?_)) fun _ _ x=>x.elim)
 dsimp only[id]
 rw[hg]
 exact z _ _ p fun Z' s2 y=>y
theorem sg_forS {tg iter:Expr} {body:List Stmt} {pos:Pos} (hs:∀x,foldedSetIterable iter env x=pure x)
  (h:wpAny M (A.over c fs) (eval iter env) (fun x s1=>wpAny M (A.over c fs) (pyIter x) (fun it s2=>∀(p:Pos) (k:Result→Sem PySem.Fin),(∀f,k (.ok f)=K f)→Sg M A Z (.forLoop tg it body [] env) (M.den (.forLoop tg it body [] env)) (.ret k none (gd false) (lv []) c p [] :: fs) s2) (fun _ _=>False) s1) (fun _ _=>False) s) :
  Sg M A Z c ((exec (.For tg iter body [] pos) env).wrap K J gd lv) fs s:=by
 show Sg M A Z c (.at pos fun _=>(eval iter env >>= fun x0=>foldedSetIterable iter env x0 >>= fun x=>(standAt iter.pos >>= fun _=>holding [x] (pyIter x) >>= fun it=>runOwn (.forLoop tg it body [] env) env)).wrap K J gd lv) fs s
 refine sg_at ?_
 rw[Sem.bind_eq_wrap',Sem.wrap_wrap]
 refine sg_wrap (wpAny_mono h (fun x s1 h1=>?_) fun _ _ z=>z.elim)
 rw[hs x]
 show Sg M A Z c (.at iter.pos fun _=>(holding [x] (pyIter x) >>= fun it=>runOwn (.forLoop tg it body [] env) env).wrap K J gd lv) fs s1
 refine sg_at ?_
 rw[Sem.bind_eq_wrap',Sem.wrap_wrap]
 exact sg_wrap (wpAny_holding (wpAny_mono h1 (fun it s2 h2=>sg_call fun p=>h2 p _ fun f=>rfl) fun _ _ z=>z.elim))
end
section
variable {prog:Program} {w:World} {A:Around} {Z:End→Shared→Prop} {fs:List Frame} {s:Shared} {env:Env}
def turnK (tg:Expr) (it:Value) (body:List Stmt) (env:Env):Flow→Sem PySem.Fin
 | .next | .cont=>.pure (.again (.forLoop tg it body [] env))
 | .brk=>.pure (.done .next)
 | .ret v=>.pure (.done (.ret v))
theorem sg_loopS {tg:Expr} {it:Value} {body:List Stmt}
  (h:wpAny (model prog w) (A.over (.forLoop tg it body [] env) fs) (pyNext it) (fun r s1=>match r with
   | none=>Sg (model prog w) A Z (.block [] env) (leafOf (.ok .next)) fs s1
   | some v=>wpAny (model prog w) (A.over (.forLoop tg it body [] env) fs) (letOwnedTupleGo tg it v) (fun _ s2=>wpAny (model prog w) (A.over (.forLoop tg it body [] env) fs) (assign tg env v) (fun _ s3=>∀J:Value→Sem PySem.Fin,
     Sg (model prog w) A Z (.forLoop tg it body [] env) ((execs body env).wrap (turnK tg it body env) J id id) fs s3) (fun _ _=>False) s2) (fun _ _=>False) s1) (fun _ _=>False) s) :
  Sg (model prog w) A Z (.forLoop tg it body [] env) ((model prog w).den (.forLoop tg it body [] env)) fs s:=by
 show Sg _ A Z _ ((forTurn tg it body [] env).onRaise (fun x=>do noteFrame x env;theTreesLotGoes x)) fs s
 rw[Sem.onRaise_eq_wrap]
 unfold forTurn
 show Sg _ A Z _ (.at tg.pos fun _=>(((pyNext it).onRaise (fun _=>standAt { tg.pos with line:=0 })) >>= _).wrap _ _ _ _) fs s
 refine sg_at ?_
 rw[Sem.bind_eq_wrap',Sem.wrap_wrap]
 refine sg_wrap (wpAny_onRaise (wpAny_mono h (fun r s1 h1=>?_) fun x s' hx=>hx.elim))
 cases r with
 | none=>exact sg_again rfl h1
 | some v=>
  show Sg _ A Z _ ((letOwnedTupleGo tg it v >>= fun _=>assign tg env v >>= fun _=>execs body env >>= _).wrap _ _ _ _) fs s1
  rw[Sem.bind_eq_wrap',Sem.wrap_wrap]
  refine sg_wrap (wpAny_mono h1 (fun _ s2 h2=>?_) fun x s' hx=>hx.elim)
  rw[Sem.bind_eq_wrap',Sem.wrap_wrap]
  refine sg_wrap (wpAny_mono h2 (fun _ s3 h3=>?_) fun x s' hx=>hx.elim)
  rw[Sem.bind_eq_wrap',Sem.wrap_wrap]
  rw[Sem.wrap_congr (execs body env) _ _ (K':=turnK tg it body env) (fun f=>by cases f <;> rfl) (fun e=>rfl)]
  exact h3 _
theorem sg_funcS {body:List Stmt} (h:∀J:Value→Sem PySem.Fin,Sg (model prog w) A Z (.func body env) ((execs body env).wrap (fun f=>.pure (.done (.ret (match f with
  | .ret v=>v
  | _=>.none)))) J id id) fs s):Sg (model prog w) A Z (.func body env) ((model prog w).den (.func body env)) fs s:=by
 show Sg _ A Z _ (.point [] fun _=>((execs body env).onRaise (leaving env)) >>= _) fs s
 (refine sg_point ?_;rw[Sem.onRaise_eq_wrap];rw[Sem.bind_eq_wrap',Sem.wrap_wrap])
 rw[Sem.wrap_congr (execs body env) _ _ (K':=fun f=>.pure (.done (.ret (match f with
  | .ret v=>v
  | _=>.none)))) (fun f=>by cases f <;> rfl) (fun e=>rfl)]
 exact h _
end
end M3
namespace M3
open PySem PySem.Spec PyProof.Rows L2 GenW
structure Gh where
 s:Shared
 t:S3
 B:Addr→Prop
 s0:Shared
 pn:List (Addr×Obj)
def cxG (X:Cx) (g:Gh):Cx:={ X with s_0:=g.s0,H_0:=g.t.H,ex:=[],pn:=g.pn,xe:=fun _ _=>False }
abbrev P3.gh (P:P3) (g:Gh):P3:=⟨cxG P.X g,P.G,none,noWX,P.hK,P.hw⟩
where noWX:WX:=fun _ _ _ _=>False
abbrev YRes:=List (D×Store)×SRes
abbrev YM:=Sl3→Store→YRes
def zx (p:Addr) (o:Obj):HO:=.ext fun h=>h.get? p=some o
def kept (g:Gh) (N:Addr→Prop):Addr→Prop:=fun b=>g.B b∨N b
structure GAt (P:P3) (ip:List (Addr×Obj)) (N:Addr→Prop) (g:Gh) (u:Sl3) (o:Store) (s:Shared) (z:L2.St) (B:Addr→Prop) (t:S3):Prop where
 inv:Inv (cxG P.X g) ip z t.H s
 sub:∀b,kept g N b→B b
 wd:Wd P.G B o t
 slo:Slo P.G none (kept g N) B t u z
 le:Le g.B g.t t
 dj:∀p∈g.pn,∀q∈ip,p.1≠q.1
 sz:g.s0.heap.objs.size=P.X.s_0.heap.objs.size
 yg:∀q∈ip,P.X.s_0.heap.objs.size≤q.1
 nz:∀b,N b→∃ob,t.H b=some (zx b ob)
structure Wk (P:P3) (ip:List (Addr×Obj)) (N:Addr→Prop) (z:L2.St) (t:S3) (o:Store) (g:Gh):Prop where
 inv:Inv (cxG P.X g) ip z g.t.H g.s
 wd:Wd P.G g.B o g.t
 io:IoLe t.io g.t.io
 fr:Same t.F g.t.F
 hid:∀b,N b→g.B b∧g.t.H b=t.H b
 dj:∀p∈g.pn,∀q∈ip,p.1≠q.1
 sz:g.s0.heap.objs.size=P.X.s_0.heap.objs.size
def ZG (P:P3) (nb:Bool) (A:Around):List (D×Store)→Store→Gh→End→Shared→Prop
 | [],oE,g,e,s1=>∃r,e=.ret r∧(r=.ok (.ret .none)∨r=.ok .next)∧∃ip z B t,Inv (cxG P.X g) ip z t.H s1∧(∀b,g.B b→B b)∧Wd P.G B oE t∧Le g.B g.t t
 | (d,o) :: rest,oE,g,e,s1=>∃v gd l k c p fs,e=.susp v gd l k c p fs∧e.quiet=true∧∃ip N z B t,(∀b,N b→nb=true)∧Inv (cxG P.X g) ip z t.H s1∧(∀b,kept g N b→B b)∧Wd P.G B o t∧Le g.B g.t t∧(∀p∈g.pn,∀q∈ip,p.1≠q.1)∧g.s0.heap.objs.size=P.X.s_0.heap.objs.size∧(∀q∈ip,P.X.s_0.heap.objs.size≤q.1)∧(∀b,N b→∃ob,t.H b=some (zx b ob))∧(∃x,Rep P.G.R t.F t.io d x∧RelV x v)∧
   ∀g':Gh,Wk P ip N z t o g'→Sg (model P.X.prog P.X.w) A (ZG P nb A rest oE g') c (k (.send .none)) fs g'.s
theorem zg_quiet {P:P3} {nb:Bool} {A:Around} {xs:List (D×Store)} {oE:Store} {g:Gh} {e:End} {s:Shared} (h:ZG P nb A xs oE g e s):e.quiet=true:=by
 cases xs with
 | nil=>obtain⟨r,rfl,_⟩:=h;rfl
 | cons x rest=>obtain⟨d,o⟩:=x;obtain⟨v,gd,l,k,c,p,fs,rfl,q,_⟩:=h;exact q
structure SgC (P:P3) (A:Around) (c:Code) (fs:List Frame) (gd:Bool→Bool):Prop where
 over:A.over c fs=P.X.A
 split:splitAtGen fs=none
 guard:fs.any Frame.guarded=false
 gd:gd false=false
def OutS (P:P3) (ip:List (Addr×Obj)) (N:Addr→Prop) (g:Gh) (t:S3) (s:Shared):SRes→Flow→Prop
 | .nx u o,f=>f=.next∧∃z B,GAt P ip N g u o s z B t
 | .bk u o,f=>f=.brk∧∃z B,GAt P ip N g u o s z B t
 | .ct u o,f=>f=.cont∧∃z B,GAt P ip N g u o s z B t
 | .rt w o,f=>w=.val .non∧f=.ret .none∧∃ip' z B,Inv (cxG P.X g) ip' z t.H s∧(∀b,g.B b→B b)∧Wd P.G B o t∧Le g.B g.t t
 | _,_=>False
def SRes.fine:SRes→Bool
 | .nx _ _=>true
 | .bk _ _=>true
 | .ct _ _=>true
 | .rt (.val .non) _=>true
 | _=>false
def allVal (u:Sl3):Bool:=u.all fun w=>match w with
 | some (.val _)=>true
 | none=>true
 | _=>false
structure YS (P:P3) (nb:Bool) (st:Stmt) (m:YM):Prop where
 run:∀(A:Around) (c:Code) (fs:List Frame) (K:Flow→Sem PySem.Fin) (J:Value→Sem PySem.Fin) (gd:Bool→Bool) (lv:List Value→List Value) (rest:List (D×Store)) (oE:Store) (g:Gh) (s:Shared) (ip:List (Addr×Obj)) (N:Addr→Prop) (u:Sl3) (o:Store) (z:L2.St) (B:Addr→Prop) (t:S3),
  SgC P A c fs gd→(∀b,N b→nb=true)→GAt P ip N g u o s z B t→(m u o).2.fine=true→
  (∀(g':Gh) (s':Shared) (t':S3) (f:Flow),IoLe t.io t'.io→Same t.F t'.F→(∀b,N b→t'.H b=t.H b)→OutS P ip N g' t' s' (m u o).2 f→Sg (model P.X.prog P.X.w) A (ZG P nb A rest oE g') c (K f) fs s')→
  Sg (model P.X.prog P.X.w) A (ZG P nb A ((m u o).1++rest) oE g) c ((exec st P.X.env).wrap K J gd lv) fs s
structure YSs (P:P3) (nb:Bool) (st:List Stmt) (m:YM):Prop where
 run:∀(A:Around) (c:Code) (fs:List Frame) (K:Flow→Sem PySem.Fin) (J:Value→Sem PySem.Fin) (gd:Bool→Bool) (lv:List Value→List Value) (rest:List (D×Store)) (oE:Store) (g:Gh) (s:Shared) (ip:List (Addr×Obj)) (N:Addr→Prop) (u:Sl3) (o:Store) (z:L2.St) (B:Addr→Prop) (t:S3),
  SgC P A c fs gd→(∀b,N b→nb=true)→GAt P ip N g u o s z B t→(m u o).2.fine=true→
  (∀(g':Gh) (s':Shared) (t':S3) (f:Flow),IoLe t.io t'.io→Same t.F t'.F→(∀b,N b→t'.H b=t.H b)→OutS P ip N g' t' s' (m u o).2 f→Sg (model P.X.prog P.X.w) A (ZG P nb A rest oE g') c (K f) fs s')→
  Sg (model P.X.prog P.X.w) A (ZG P nb A ((m u o).1++rest) oE g) c ((execs st P.X.env).wrap K J gd lv) fs s
section
variable {P:P3} {nb:Bool} {pos:Pos}
def yPlain (m:SM):YM:=fun u o=>([],m u o)
def dGh (P:P3) (N:Addr→Prop) (g:Gh) (t:S3) (r:SRes):Ends where
 nx:=fun z' H'=>∃u o B t',r=.nx u o∧t'.H=H'∧(∀b,kept g N b→B b)∧Le (kept g N) t t'∧Wd P.G B o t'∧Slo P.G none (kept g N) B t' u z'
 bk:=fun z' H'=>∃u o B t',r=.bk u o∧t'.H=H'∧(∀b,kept g N b→B b)∧Le (kept g N) t t'∧Wd P.G B o t'∧Slo P.G none (kept g N) B t' u z'
 ct:=fun z' H'=>∃u o B t',r=.ct u o∧t'.H=H'∧(∀b,kept g N b→B b)∧Le (kept g N) t t'∧Wd P.G B o t'∧Slo P.G none (kept g N) B t' u z'
 rt:=fun v H'=>∃o B t',r=.rt (.val .non) o∧v=.non∧t'.H=H'∧(∀b,kept g N b→B b)∧Le (kept g N) t t'∧Wd P.G B o t'
theorem postS_fine {N:Addr→Prop} {g:Gh} {t:S3} {r:SRes} (h:r.fine=true):PostS P.G none P3.gh.noWX (kept g N) t (dGh P N g t r) r:=by
 cases r with
 | nx u o=>exact fun B t' z b l w sl=>⟨u,o,B,t',rfl,rfl,b,l,w,sl⟩
 | bk u o=>exact fun B t' z b l w sl=>⟨u,o,B,t',rfl,rfl,b,l,w,sl⟩
 | ct u o=>exact fun B t' z b l w sl=>⟨u,o,B,t',rfl,rfl,b,l,w,sl⟩
 | rt w o=>
  cases w with
  | val d=>
   cases d with
   | non=>exact fun B t' v b l w rr=>⟨o,B,t',rfl,rep_non rr,rfl,b,l,w⟩
   | _=>cases h
  | _=>cases h
 | err c x u o=>cases h
 | bad=>cases h
where rep_non {K:KW} {F:Hp} {io:Io} {v:V} (r:Rep K F io .non v):v=.non:=by cases r;rfl
theorem out_of {g:Gh} {ip:List (Addr×Obj)} {N:Addr→Prop} {u:Sl3} {o:Store} {s s':Shared} {z:L2.St} {B:Addr→Prop} {t:S3} {r:SRes} {f:Flow} (a:GAt P ip N g u o s z B t) (h:SP (cxG P.X g) ip (dGh P N g t r) f s'):∃t',Le (kept g N) t t'∧OutS P ip N g t' s' r f:=by
 have nzl:∀{t':S3},Le (kept g N) t t'→∀b,N b→∃ob,t'.H b=some (zx b ob):=fun l b h=>let ⟨ob,e⟩:=a.nz b h;⟨ob,(l.hid b (.inr h)).trans e⟩
 cases f with
 | next=>obtain⟨z',H',I,u',o',B',t',rfl,rfl,b,l,w,sl⟩:=h;exact⟨t',l,rfl,z',B',I,b,w,sl,a.le.trans (l.less fun _ q=>.inl q),a.dj,a.sz,a.yg,nzl l⟩
 | brk=>obtain⟨z',H',I,u',o',B',t',rfl,rfl,b,l,w,sl⟩:=h;exact⟨t',l,rfl,z',B',I,b,w,sl,a.le.trans (l.less fun _ q=>.inl q),a.dj,a.sz,a.yg,nzl l⟩
 | cont=>obtain⟨z',H',I,u',o',B',t',rfl,rfl,b,l,w,sl⟩:=h;exact⟨t',l,rfl,z',B',I,b,w,sl,a.le.trans (l.less fun _ q=>.inl q),a.dj,a.sz,a.yg,nzl l⟩
 | ret v=>
  obtain⟨x,z',H',I,rv,o',B',t',rfl,rfl,rfl,b,l,w⟩:=h
  have:v=Value.none:=rv
  subst this
  exact⟨t',l,rfl,rfl,ip,z',B',I,fun c q=>b c (.inl q),w,a.le.trans (l.less fun _ q=>.inl q)⟩
theorem ys_ms {st:Stmt} {m:SM} (h:∀g,MS (P.gh g) st m):YS P nb st (yPlain m):=by
 refine⟨fun A c fs K J gd lv rest oE g s ip N u o z B t gc hN a fin k=>?_⟩
 refine sg_wrap ?_
 rw[gc.over]
 refine wpAny_mono ((h g).ps.run ip s z t.H (dGh P N g t (m u o)) a.inv ⟨kept g N,B,t,o,u,rfl,a.sub,a.wd,a.slo,postS_fine fin⟩) (fun f s' q=>?_) fun x s' hx=>hx.elim
 obtain⟨t',l,q⟩:=out_of a q
 exact k g s' t' f l.io l.fr (fun b h=>l.hid b (.inr h)) q
def ySeq (m1 m2:YM):YM:=fun u o=>match m1 u o with
 | (xs,.nx u' o')=>(xs++(m2 u' o').1,(m2 u' o').2)
 | r=>r
theorem yss_one {st:Stmt} {m:YM} (h:YS P nb st m):YSs P nb [st] m:=by
 refine⟨fun A c fs K J gd lv rest oE g s ip N u o z B t gc hN a fin k=>sg_stm ?_⟩
 refine h.run A c fs _ J gd lv rest oE g s ip N u o z B t gc hN a fin fun g' s' t' f i r n q=>?_
 cases f with
 | next=>exact k g' s' t' .next i r n q
 | _=>exact k g' s' t' _ i r n q
theorem yss_cons {st:Stmt} {rest:List Stmt} {m1 m2:YM} (h1:YS P nb st m1) (h2:YSs P nb rest m2):YSs P nb (st :: rest) (ySeq m1 m2):=by
 refine⟨fun A c fs K J gd lv more oE g s ip N u o z B t gc hN a fin k=>sg_stm ?_⟩
 unfold ySeq at fin k⊢
 cases e:m1 u o with
 | mk xs r=>
  have run:=fun rest'=>h1.run A c fs (fun f=>match f with
   | .next=>(execs rest P.X.env).wrap K J gd lv
   | f=>K f) J gd lv rest' oE g s ip N u o z B t gc hN a
  rw[e] at fin k run
  cases r with
  | nx u' o'=>
   dsimp only at fin k run⊢
   rw[List.append_assoc]
   refine run _ rfl fun g' s' t' f i1 f1 n1 q=>?_
   obtain⟨rfl,z',B',a'⟩:=q
   exact h2.run A c fs K J gd lv more oE g' s' ip N u' o' z' B' t' gc hN a' fin fun g2 s2 t2 f2 i2 f2' n2 q2=>k g2 s2 t2 f2 (i1.trans i2) (fun b x y=>f2' b x (f1 b x y)) (fun b h=>(n2 b h).trans (n1 b h)) q2
  | rt w o'=>exact run more fin fun g' s' t' f i1 f1 n1 q=>by obtain⟨e1,rfl,q⟩:=q;exact k g' s' t' _ i1 f1 n1 ⟨e1,rfl,q⟩
  | bk u' o'=>exact run more fin fun g' s' t' f i1 f1 n1 q=>by obtain⟨rfl,q⟩:=q;exact k g' s' t' _ i1 f1 n1 ⟨rfl,q⟩
  | ct u' o'=>exact run more fin fun g' s' t' f i1 f1 n1 q=>by obtain⟨rfl,q⟩:=q;exact k g' s' t' _ i1 f1 n1 ⟨rfl,q⟩
  | err c x u' o'=>cases fin
  | bad=>cases fin
def yYield (m:EM):YM:=fun u o=>match m u o with
 | .ok (.val d) o'=>if allVal u=true then ([(d,o')],.nx u o') else ([],.bad)
 | _=>([],.bad)
theorem allVal_get {u:Sl3} (h:allVal u=true) {i:Nat} {w:W} (e:u[i]?=some (some w)):∃d,w=.val d:=by
 have:=List.all_eq_true.mp h (some w) (List.mem_of_getElem? e)
 cases w with
 | val d=>exact⟨d,rfl⟩
 | _=>cases this
theorem Slo.vals {G:G3} {X X':Hex} {B0 B B0' B':Addr→Prop} {t t':S3} {u:Sl3} {z:L2.St} (hv:allVal u=true) (i:IoLe t.io t'.io) (f:Same t.F t'.F) (h:Slo G X B0 B t u z):Slo G X' B0' B' t' u z:=by
 obtain⟨hl,ow,h1,h2⟩:=h
 refine⟨hl,ow,fun j w e=>?_,fun j k w w' o1 o2 e1 e2=>h2 j k w w' o1 o2 e1 e2⟩
 obtain⟨d,rfl⟩:=allVal_get hv e
 obtain⟨v,e1,r,_⟩:=h1 j _ e
 exact⟨v,e1,Rep.mono f i r,fun q=>by cases q⟩
theorem ys_yield {e:Expr} {m:EM} {q:Pos} (h:∀g,ME (P.gh g) e m) (hco:P.X.env.scope.isCoroutine=false:=by rfl) (hi:interactive P.X.env=false:=by rfl):YS P nb (.Expr (.Yield (some e) q) pos) (yYield m):=by
 refine⟨fun A c fs K J gd lv rest oE g s ip N u o z B t gc hN a fin k=>?_⟩
 unfold yYield at fin k⊢
 cases em:m u o with
 | err _ _ _=>rw[em] at fin;cases fin
 | bad=>rw[em] at fin;cases fin
 | ok w o'=>
  rw[em] at fin k
  cases w with
  | val d=>
   dsimp only at fin k⊢
   by_cases hv:allVal u=true
   ·rw[if_pos hv] at fin k⊢
    refine sg_yieldS gc.split gc.gd hco hi ?_
    rw[gc.over]
    refine wpAny_mono ((h g).pe.run ip s z t.H (fun x H'=>∃t',t'.H=H'∧Le B t t'∧Wd P.G B o' t'∧Rep P.G.R t'.F t'.io d x) a.inv ⟨kept g N,B,t,o,u,rfl,a.wd,a.slo,?_⟩) (fun v s1 hq=>?_) fun x s' hx=>hx.elim
    ·show Post P.G B (RepW P.G none B) _ t _ (m u o)
     rw[em]
     exact fun t' x l w r=>⟨t',rfl,l,w,r⟩
    ·obtain⟨x,H',I1,rv,t',rfl,l,w1,r1⟩:=hq
     intro l0 k0 p0 again
     refine⟨v,false,l0,k0,c,p0,fs,rfl,?_,ip,N,z,B,t',hN,I1,a.sub,w1,a.le.trans (l.less fun b q=>a.sub b (.inl q)),a.dj,a.sz,a.yg,(fun b h=>let ⟨ob,e⟩:=a.nz b h;⟨ob,(l.hid b (a.sub b (.inr h))).trans e⟩),⟨x,r1,rv⟩,fun g' wk=>?_⟩
     ·simp[End.quiet,gc.guard]
     ·refine again _ _ (k g' g'.s g'.t .next (fun j b y=>wk.io j b (l.io j b y)) (fun b y q=>wk.fr b y (l.fr b y q)) (fun b q=>(wk.hid b q).2.trans (l.hid b (a.sub b (.inr q)))) ⟨rfl,z,g'.B,wk.inv,fun b h=>h.elim id fun q=>(wk.hid b q).1,wk.wd,?_,Le.refl _,wk.dj,wk.sz,a.yg,fun b h=>let ⟨ob,e⟩:=a.nz b h;⟨ob,(wk.hid b h).2.trans ((l.hid b (a.sub b (.inr h))).trans e)⟩⟩)
      exact Slo.vals hv (fun j b y=>wk.io j b (l.io j b y)) (fun b y q=>wk.fr b y (l.fr b y q)) a.slo
   ·rw[if_neg hv] at fin;cases fin
  | _=>cases fin
end
end M3
namespace M3
open PySem PySem.Spec PyProof.Rows L2 GenW
section
variable {P:P3} {nb:Bool} {pos:Pos}
def yForL (g:GM) (b:YM):List D→YM
 | [],u,o=>([],.nx u o)
 | d :: ds,u,o=>match g d u with
  | none=>([],.bad)
  | some u1=>match b u1 o with
   | (xs,.nx u2 o2)=>(xs++(yForL g b ds u2 o2).1,(yForL g b ds u2 o2).2)
   | (xs,.ct u2 o2)=>(xs++(yForL g b ds u2 o2).1,(yForL g b ds u2 o2).2)
   | (xs,.bk u2 o2)=>(xs,.nx u2 o2)
   | r=>r
def yFor (m:FM) (g:GM) (b:YM):YM:=fun u o=>match m u o with
 | .ok ds o'=>yForL g b ds u o'
 | _=>([],.bad)
theorem GAt.more {ip pl:List (Addr×Obj)} {N:Addr→Prop} {g:Gh} {u:Sl3} {o:Store} {s:Shared} {z:L2.St} {B:Addr→Prop} {t:S3} (a:GAt P ip N g u o s z B t) (I:Inv (cxG P.X g) (ip++pl) z t.H s) (d:∀p∈g.pn,∀q∈pl,p.1≠q.1) (y:∀q∈pl,P.X.s_0.heap.objs.size≤q.1):GAt P (ip++pl) N g u o s z B t:=
 ⟨I,a.sub,a.wd,a.slo,a.le,fun p hp q hq=>(List.mem_append.mp hq).elim (a.dj p hp q) (d p hp q),a.sz,fun q hq=>(List.mem_append.mp hq).elim (a.yg q) (y q),a.nz⟩
theorem GAt.fewer {ip pl:List (Addr×Obj)} {N:Addr→Prop} {g:Gh} {u:Sl3} {o:Store} {s:Shared} {z:L2.St} {B:Addr→Prop} {t:S3} (a:GAt P (ip++pl) N g u o s z B t):GAt P ip N g u o s z B t:=
 ⟨Inv.unpinned (pins:=ip) (pl:=pl) a.inv,a.sub,a.wd,a.slo,a.le,fun p hp q hq=>a.dj p hp q (List.mem_append_left _ hq),a.sz,fun q hq=>a.yg q (List.mem_append_left _ hq),a.nz⟩
theorem gc_in {A:Around} {c c':Code} {fs:List Frame} {gd:Bool→Bool} {k:Result→Sem PySem.Fin} {l kp:List Value} {p:Pos} (g:SgC P A c fs gd) (hw:c'.weight=0) (hu:c'.cUnits=0):SgC P A c' (.ret k none (gd false) l c p kp :: fs) id:=
 ⟨(over_loop hw hu).trans g.over,(show (splitAtGen fs).map _=none by rw[g.split];rfl),(show (gd false || fs.any Frame.guarded)=false by rw[g.gd,g.guard];rfl),rfl⟩
structure FpG (P:P3) (ip:List (Addr×Obj)) (fp:List Addr):Prop where
 loc:∀b∈fp,b≠P.X.env.locals∧b∉P.X.fs∧P.X.s_0.heap.objs.size≤b∧(∀x c,P.X.env.cells.lookup x=some c→c≠b)∧∀p∈ip,p.1≠b
theorem FpG.ok {ip:List (Addr×Obj)} {fp:List Addr} (h:FpG P ip fp) {N:Addr→Prop} {g:Gh} {u:Sl3} {o:Store} {s:Shared} {z:L2.St} {B:Addr→Prop} {t:S3} (a:GAt P ip N g u o s z B t) (free:∀b∈fp,t.H b=none) (dj:∀p∈g.pn,p.1∉fp):∀b∈fp,FpOk (cxG P.X g) ip t.H b:=fun b hb=>by
 obtain⟨h1,h2,h3,h4,h5⟩:=h.loc b hb
 refine⟨free b hb,h1,h2,.inr (by show g.s0.heap.objs.size≤b;rw[a.sz];exact h3),h4,fun p hp=>?_⟩
 exact(List.mem_append.mp hp).elim (fun q e=>dj p q (e▸hb)) (h5 p)
end
end M3
namespace M3
open PySem PySem.Spec PyProof.Rows L2 GenW
section
variable {P:P3} {nb:Bool} {pos:Pos}
theorem ys_for {tg iter:Expr} {body:List Stmt} {mi:FM} {gt:GM} {gs:List Nat} {mb:YM} (hA:P.X.A.handled=none) (hi:∀g,MI (P.gh g) tg iter mi) (hg:∀g,MG (P.gh g) tg gt gs) (hb:YSs P nb body mb)
  (hs:∀x,foldedSetIterable iter P.X.env x=pure x:=by intro _;rfl):YS P nb (.For tg iter body [] pos) (yFor mi gt mb):=by
 refine⟨fun A c fs K J gd lv rest oE g s ip N u o z B t gc hN a fin k=>?_⟩
 unfold yFor at fin k⊢
 cases e:mi u o with
 | err _ _ _=>rw[e] at fin;cases fin
 | bad=>rw[e] at fin;cases fin
 | ok ds o1=>
 rw[e] at fin k
 dsimp only at fin k⊢
 refine sg_forS hs ?_
 rw[gc.over]
 refine wpAny_mono ((hi g).pi.run ip s z t.H (fun Jt H'=>∃t',t'.H=H'∧Le B t t'∧Wd P.G B o1 t'∧Itm P.G t' ds Jt) a.inv ⟨kept g N,B,t,o,u,rfl,a.wd,a.slo,?_⟩) (fun v s1 q1=>wpAny_mono q1 (fun itv s2 q2=>?_) fun _ _ x=>x.elim) fun _ _ x=>x.elim
 ·show Post P.G B _ _ t _ (mi u o)
  rw[e]
  exact fun t' Jt l w im=>⟨t',rfl,l,w,im⟩
 intro p kk hkk
 obtain⟨it,fp,tn,Jt,H2,ev,I2,T,st2,f2,t1,e1,l1,w1,im⟩:=q2
 subst ev
 subst e1
 have hF:FpG P ip fp:=⟨fun b hb=>by
  obtain⟨_,h1,h2,h3,h4,h5⟩:=f2 b hb
  refine⟨h1,h2,?_,h4,fun p hp=>h5 p (List.mem_append_right _ hp)⟩
  rcases h3 with h3 | h3
  ·exact absurd (show b∈([]:List Addr) from h3) (by simp)
  ·rw[←a.sz];exact h3⟩
 have a1:GAt P ip N g u o1 s2 z B t1:=⟨I2,a.sub,w1,a.slo.mono' l1,a.le.trans (l1.less fun b q=>a.sub b (.inl q)),a.dj,a.sz,a.yg,fun b h=>let ⟨ob,e⟩:=a.nz b h;⟨ob,(l1.hid b (a.sub b (.inr h))).trans e⟩⟩
 have gl:=gc_in (k:=kk) (c':=.forLoop tg (.ref it) body [] P.X.env) (l:=lv []) (kp:=[]) (p:=p) gc rfl rfl
 have cool:∀g':Gh,Cool (cxG P.X g'):=fun g'=>.inl hA
 have loop:∀(l:List D) (i:Nat) (g':Gh) (s':Shared) (u':Sl3) (o':Store) (z':L2.St) (B':Addr→Prop) (t':S3),ds.drop i=l→GAt P ip N g' u' o' s' z' B' t'→IoLe t1.io t'.io→Same t1.F t'.F→tn i s'.heap→(∀b∈fp,t'.H b=none)→(∀p∈g'.pn,p.1∉fp)→
   (yForL gt mb l u' o').2.fine=true→(∀(g2:Gh) (s3:Shared) (t2:S3) (f:Flow),IoLe t'.io t2.io→Same t'.F t2.F→(∀b,N b→t2.H b=t'.H b)→OutS P ip N g2 t2 s3 (yForL gt mb l u' o').2 f→Sg (model P.X.prog P.X.w) A (ZG P nb A rest oE g2) c (K f) fs s3)→
   Sg (model P.X.prog P.X.w) A (ZG P nb A ((yForL gt mb l u' o').1++rest) oE g') (.forLoop tg (.ref it) body [] P.X.env) ((model P.X.prog P.X.w).den (.forLoop tg (.ref it) body [] P.X.env)) (.ret kk none (gd false) (lv []) c p [] :: fs) s':=by
  intro l
  induction l with
  | nil=>
   intro i g' s' u' o' z' B' t' hd a' io fr st free dj fin' k'
   have hi':ds.length≤i:=by
    have:=congrArg List.length hd
    rw[List.length_drop,List.length_nil] at this
    omega
   refine sg_loopS ?_
   rw[gl.over]
   refine wpAny_mono (T.done (cxG P.X g') rfl rfl rfl (cool g') i ip s' z' t'.H _ a'.inv (hF.ok a' free dj) st (im.stop t' io fr a'.wd.sub i hi')) (fun r s4 q=>?_) fun _ _ x=>x
   obtain⟨rfl,I4⟩:=q
   refine sg_leaf (.ok .next) ?_
   rw[hkk]
   exact k' g' s4 t' .next (IoLe.refl _) (Same.refl _) (fun _ _=>rfl) ⟨rfl,z',B',I4,a'.sub,a'.wd,a'.slo,a'.le,a'.dj,a'.sz,a'.yg,a'.nz⟩
  | cons d l ih=>
   intro i g' s' u' o' z' B' t' hd a' io fr st free dj fin' k'
   have hi':i<ds.length:=by
    have:=congrArg List.length hd
    rw[List.length_drop,List.length_cons] at this
    omega
   have hd1:ds.drop (i+1)=l:=by rw[←List.tail_drop,hd];rfl
   have hdi:ds[i]?=some d:=by
    have:=congrArg (fun x=>x[0]?) hd
    simpa using this
   refine sg_loopS ?_
   rw[gl.over]
   refine wpAny_mono (T.item (cxG P.X g') rfl rfl rfl (cool g') i ip s' z' t'.H _ a'.inv (hF.ok a' free dj) st (im.go t' io fr a'.wd.sub i hi')) (fun r s4 q=>?_) fun _ _ x=>x
   obtain⟨v,rfl,q⟩:=q
   refine wpAny_mono q (fun _ s5 q=>?_) fun _ _ x=>x
   obtain⟨x,H5,I5,r5,y5,st5,fr5⟩:=q
   obtain⟨e5,d',ed,rd⟩:=im.yld t' io fr a'.wd.sub i x H5 hi' y5
   subst e5
   have ed:d'=d:=by rw[hdi] at ed;cases ed;rfl
   subst ed
   have a5:GAt P ip N g' u' o' s5 z' B' t':=⟨I5,a'.sub,a'.wd,a'.slo,a'.le,a'.dj,a'.sz,a'.yg,a'.nz⟩
   have I6:=I5.pinned (hF.ok a5 fr5 dj) (T.obj _ _ st5)
   unfold yForL at fin' k'⊢
   cases eg:gt d' u' with
   | none=>rw[eg] at fin';cases fin'
   | some u1=>
   rw[eg] at fin' k'
   dsimp only at fin' k'⊢
   refine wpAny_mono ((hg g').pg.run _ s5 z' t'.H x v (fun z2 H2=>H2=t'.H∧Slo P.G none (kept g' N) B' t' u1 z2) I6 r5 ⟨kept g' N,B',t',o',u',d',u1,rfl,a'.wd,a'.slo,rd,eg,fun z2 sl _=>⟨rfl,sl⟩⟩) (fun _ s6 q=>?_) fun _ _ x=>x
   obtain⟨z2,H2,I7,e7,sl7⟩:=q
   subst e7
   intro J'
   have a7:GAt P (ip++pinsAt fp s5.heap) N g' u1 o' s6 z2 B' t':=GAt.more ⟨Inv.unpinned (pins:=ip) (pl:=pinsAt fp s5.heap) I7,a'.sub,a'.wd,sl7,a'.le,a'.dj,a'.sz,a'.yg,a'.nz⟩ I7 (fun p hp q hq e=>dj p hp (e▸(of_pinsAt hq).1)) fun q hq=>(hF.loc q.1 (of_pinsAt hq).1).2.2.1
   have run:=fun rest'=>hb.run A (.forLoop tg (.ref it) body [] P.X.env) (.ret kk none (gd false) (lv []) c p [] :: fs) (turnK tg (.ref it) body P.X.env) J' id id rest' oE g' s6 (ip++pinsAt fp s5.heap) N u1 o' z2 B' t' gl hN a7
   have on:∀{g2:Gh} {s3:Shared} {t2:S3} {u2:Sl3} {o2:Store} {z3:L2.St} {B3:Addr→Prop},IoLe t'.io t2.io→Same t'.F t2.F→GAt P (ip++pinsAt fp s5.heap) N g2 u2 o2 s3 z3 B3 t2→(yForL gt mb l u2 o2).2.fine=true→
     (∀(g4:Gh) (s4:Shared) (t4:S3) (f:Flow),IoLe t2.io t4.io→Same t2.F t4.F→(∀b,N b→t4.H b=t2.H b)→OutS P ip N g4 t4 s4 (yForL gt mb l u2 o2).2 f→Sg (model P.X.prog P.X.w) A (ZG P nb A rest oE g4) c (K f) fs s4)→
     Sg (model P.X.prog P.X.w) A (ZG P nb A ((yForL gt mb l u2 o2).1++rest) oE g2) (.forLoop tg (.ref it) body [] P.X.env) (.pure (.again (.forLoop tg (.ref it) body [] P.X.env))) (.ret kk none (gd false) (lv []) c p [] :: fs) s3:=by
    intro g2 s3 t2 u2 o2 z3 B3 i2 fr2 a3 fin3 k3
    have pin:∀b∈fp,∀ob,s5.heap.get? b=some ob→s3.heap.get? b=some ob∧t2.H b=none:=fun b hb ob eb=>by
     obtain⟨h1,h2,_⟩:=a3.inv.pin (b,ob) (List.mem_append_right _ (List.mem_append_right _ (mem_pinsAt hb eb)))
     exact⟨h1,h2⟩
    refine sg_again rfl (ih (i+1) g2 s3 u2 o2 z3 B3 t2 hd1 a3.fewer (io.trans i2) (fun b x y=>fr2 b x (fr b x y)) (T.keep _ _ _ st5 fun b hb ob eb=>(pin b hb ob eb).1) (fun b hb=>?_) (fun p hp hm=>?_) fin3 k3)
    ·obtain⟨ob,eb,_⟩:=T.obj _ _ st5 b hb
     exact(pin b hb ob eb).2
    ·obtain⟨ob,eb,_⟩:=T.obj _ _ st5 p.1 hm
     exact a3.dj p hp (p.1,ob) (List.mem_append_right _ (mem_pinsAt hm eb)) rfl
   cases em:mb u1 o' with
   | mk xs r=>
   rw[em] at fin' k' run
   have less:∀{g2:Gh} {t2:S3} {s3:Shared} {w:W} {o2:Store} {f:Flow},OutS P (ip++pinsAt fp s5.heap) N g2 t2 s3 (.rt w o2) f→OutS P ip N g2 t2 s3 (.rt w o2) f:=fun h=>h
   cases r with
   | nx u2 o2=>
    dsimp only at fin' k' run⊢
    rw[List.append_assoc]
    refine run _ rfl fun g2 s3 t2 f i2 fr2 n2 q=>?_
    obtain⟨rfl,z3,B3,a3⟩:=q
    exact on i2 fr2 a3 fin' fun g4 s4 t4 f i4 fr4 n4 q=>k' g4 s4 t4 f (i2.trans i4) (fun b x y=>fr4 b x (fr2 b x y)) (fun b h=>(n4 b h).trans (n2 b h)) q
   | ct u2 o2=>
    dsimp only at fin' k' run⊢
    rw[List.append_assoc]
    refine run _ rfl fun g2 s3 t2 f i2 fr2 n2 q=>?_
    obtain⟨rfl,z3,B3,a3⟩:=q
    exact on i2 fr2 a3 fin' fun g4 s4 t4 f i4 fr4 n4 q=>k' g4 s4 t4 f (i2.trans i4) (fun b x y=>fr4 b x (fr2 b x y)) (fun b h=>(n4 b h).trans (n2 b h)) q
   | bk u2 o2=>
    dsimp only at fin' k' run⊢
    refine run _ rfl fun g2 s3 t2 f i2 fr2 n2 q=>?_
    obtain⟨rfl,z3,B3,a3⟩:=q
    refine sg_leaf (.ok .next) ?_
    rw[hkk]
    exact k' g2 s3 t2 .next i2 fr2 n2 ⟨rfl,z3,B3,a3.fewer⟩
   | rt w o2=>
    dsimp only at fin' k' run⊢
    refine run _ fin' fun g2 s3 t2 f i2 fr2 n2 q=>?_
    obtain⟨ew,rfl,q⟩:=q
    refine sg_leaf (.ok (.ret .none)) ?_
    rw[hkk]
    exact k' g2 s3 t2 _ i2 fr2 n2 ⟨ew,rfl,q⟩
   | err _ _ _ _=>cases fin'
   | bad=>cases fin'
 exact loop ds 0 g s2 u o1 z B t1 rfl a1 (IoLe.refl _) (Same.refl _) st2 (fun b hb=>(f2 b hb).1) (fun p hp hm=>(f2 p.1 hm).2.2.2.2.2 p (List.mem_append_left _ hp) rfl) fin fun g2 s3 t2 f i2 fr2 n2 q=>k g2 s3 t2 f (l1.io.trans i2) (fun b x y=>fr2 b x (l1.fr b x y)) (fun b h=>(n2 b h).trans (l1.hid b (a.sub b (.inr h)))) q
end
end M3
namespace M3
open PySem PySem.Spec PyProof.Rows L2 GenW
def cutGh (n:Nat) (s:Shared):Shared:={ s with heap:={ s.heap with objs:=s.heap.objs.extract 0 n } }
theorem cut_lt {n:Nat} {s:Shared} {b:Addr} (h:b<n):(cutGh n s).heap.get? b=s.heap.get? b:=by
 have e:(cutGh n s).heap.objs[b]?=s.heap.objs[b]?:=by
  show (s.heap.objs.extract 0 n)[b]?=_
  have h':@LT.lt Nat _ b n:=h
  rcases Nat.lt_or_ge (b:Nat) s.heap.objs.size with hs | hs
  ·rw[Array.getElem?_extract]
   have:@LT.lt Nat _ b (min n s.heap.objs.size - 0):=by omega
   rw[if_pos this,Nat.zero_add]
  ·have e1:(s.heap.objs.extract 0 n).size≤b:=by
    have:(s.heap.objs.extract 0 n).size=min n s.heap.objs.size - 0:=by simp
    rw[this]
    omega
   rw[Array.getElem?_eq_none e1,Array.getElem?_eq_none hs]
 unfold Heap.get?
 rw[e]
theorem cut_size {n:Nat} {s:Shared} (h:n≤s.heap.objs.size):(cutGh n s).heap.objs.size=n:=by
 show (s.heap.objs.extract 0 n).size=n
 simp
 omega
theorem cut_some {n:Nat} {s:Shared} {b:Addr} {o:Obj} (hn:n≤s.heap.objs.size) (h:(cutGh n s).heap.get? b=some o):b<n∧s.heap.get? b=some o:=by
 have lt:=Heap.lt_size h
 rw[cut_size hn] at lt
 exact⟨lt,(cut_lt lt).symm.trans h⟩
theorem funs_cut {base:Heap} {n:Nat} {s:Shared}:∀{l:List Env},(∀b∈frs l,b<n)→s.heap.FunFrames base l→(cutGh n s).heap.FunFrames base l
 | [],_,_=>trivial
 | env :: r,hb,h=>by
  obtain⟨hk,⟨L,o,hf,hn,ho,hd⟩,hr⟩:=h
  have hL:L<n:=hb L (by unfold frs;rw[List.filterMap_cons,hf];exact List.mem_cons_self)
  refine⟨hk,⟨L,o,hf,hn,(cut_lt hL).trans ho,hd⟩,funs_cut (fun b q=>hb b ?_) hr⟩
  unfold frs at q⊢
  rw[List.filterMap_cons]
  cases env.frame with
  | none=>exact q
  | some y=>exact List.mem_cons_of_mem _ q
structure LOk (X:Cx) (ip:List (Addr×Obj)) (s:Shared) (L:List (Addr×Obj)):Prop where
 loc:∃o,(X.env.locals,o)∈L
 cell:∀x c,X.env.cells.lookup x=some c→∃o,(c,o)∈L
 ip:∀p∈ip,p∈L
 get:∀p∈L,s.heap.get? p.1=some p.2
section
variable {P:P3} {L:List (Addr×Obj)} {ip:List (Addr×Obj)} {z:L2.St} {B:Addr→Prop} {t:S3} {o:Store} {g0 g:Gh} {s:Shared}
theorem wake_inv (hst:P.X.stack=P.X.env :: P.X.outer∧P.X.env.frame=some P.X.env.locals) (hfr:P.X.A.frames=some P.X.stack) {A':Around} (hL:LOk P.X ip s L) (hz:g0.s0.heap.objs.size=P.X.s_0.heap.objs.size) (I:Inv (cxG P.X g0) ip z t.H s)
  (b:Env0 P.X.prog P.X.w P.X.K P.X.mg P.X.base A' P.X.outer g.s g.t.H) (e0:g.s0=cutGh P.X.s_0.heap.objs.size g.s) (sz:P.X.s_0.heap.objs.size≤g.s.heap.objs.size)
  (keep:∀p∈L,g.s.heap.get? p.1=some p.2∧g.t.H p.1=none) (pn:∀p∈g.pn,g.s.heap.get? p.1=some p.2∧g.t.H p.1=none∧(∀q∈L,p.1≠q.1)∧p.1∉P.X.fs∧∀v,p.2.data≠.cell v):Inv (cxG P.X g) ip z g.t.H g.s:=by
 have szc:g.s0.heap.objs.size=P.X.s_0.heap.objs.size:=by rw[e0];exact cut_size sz
 have okO:=I.ok
 have low:∀x∈frs P.X.outer,x<P.X.s_0.heap.objs.size:=fun x hx=>by
  obtain⟨_,o',ho,_⟩:=okO.funs.mem hx
  rw[←hz]
  exact Heap.lt_size ho
 have getc:∀{x:Addr} {ob:Obj},g.s0.heap.get? x=some ob→g.s.heap.get? x=some ob:=fun q=>by rw[e0] at q;exact(cut_some sz q).2
 have at_:∀p∈L,∀ob,s.heap.get? p.1=some ob→g.s.heap.get? p.1=some ob:=fun p hp ob e=>by
  have h1:=hL.get p hp
  rw[h1] at e
  cases e
  exact(keep p hp).1
 have atC:∀{x:Str} {c:Addr} {v:Option Value},P.X.env.cells.lookup x=some c→s.heap.IsCell c v→g.s.heap.IsCell c v:=fun {x c v} h ⟨ob,e,d⟩=>by
  obtain⟨o',m⟩:=hL.cell x c h
  exact⟨ob,at_ _ m ob e,d⟩
 obtain⟨lo,hlo⟩:=hL.loc
 refine⟨⟨okO.mod,okO.kind,okO.glob,okO.blt,?_,okO.inj,okO.has,fun x c h1 h2=>?_,okO.hd,okO.frames,okO.stk,fun _ h=>absurd h (by simp[cxG]),fun x ob e=>?_,?_,fun _ _ _ h=>absurd h (by simp[cxG]),fun _ h=>absurd h (by simp[cxG]),?_,b.frf⟩,?_,b.bare,?_,?_,fun x c h=>?_,(keep _ hlo).2,fun x c h=>?_,fun p hp=>?_,b.hok,I.len⟩
 ·show g.s0.heap.objs.size≤_
  rw[szc,←hz]
  exact okO.above
 ·show g.s0.heap.objs.size≤c
  rw[szc,←hz]
  exact okO.cab x c h1 h2
 ·have lt:x<P.X.s_0.heap.objs.size:=Nat.lt_of_lt_of_le (Heap.lt_size e) (hz▸okO.bsz)
  show g.s0.heap.get? x=some ob∧_
  rw[e0,cut_lt lt]
  exact b.bs x ob e
 ·show P.X.base.objs.size≤g.s0.heap.objs.size
  rw[szc,←hz]
  exact okO.bsz
 ·show g.s0.heap.FunFrames P.X.base P.X.outer
  rw[e0]
  exact funs_cut low b.funs
 ·show g.s.os=g.s0.os
  rw[e0]
  rfl
 ·exact⟨fun x ob e _ _ _=>getc e,fun x ob e _ _ _=>⟨ob.slots,getc e⟩,fun _ _ _ n _=>n,fun x ob e _=>⟨ob,getc e⟩,fun _ _ h=>h,fun _ _ _ h=>h,fun _ ps h=>⟨#[],by rw[Array.append_empty];exact h⟩⟩
 ·obtain⟨m,⟨ob,es,ep,e,r⟩,h⟩:=I.loc
  refine⟨m,⟨ob,es,ep,at_ _ hlo ob e,r⟩,fun i x v h1 h2 h3=>?_⟩
  obtain⟨w,rw',lk⟩:=h i x v h1 h2 h3
  refine⟨w,rw',?_⟩
  rcases lk with lk | ⟨q,c,hc,ic⟩
  ·exact .inl lk
  ·exact .inr ⟨q,c,hc,atC hc ic⟩
 ·obtain⟨v,ic⟩:=I.cell x c h
  exact⟨v,atC h ic⟩
 ·obtain⟨o',m⟩:=hL.cell x c h
  exact(keep _ m).2
 ·rcases List.mem_append.mp hp with q | q
  ·obtain⟨h1,h2,h3,h4,h5⟩:=pn p q
   exact⟨h1,h2,h3 _ hlo,h4,h5⟩
  ·obtain⟨_,_,h3,h4,h5⟩:=I.pin p (List.mem_append_right _ q)
   exact⟨(keep p (hL.ip p q)).1,(keep p (hL.ip p q)).2,h3,h4,h5⟩
end
end M3
namespace M3
open PySem PySem.Spec PyProof.Rows L2 GenW
theorem code_two (c:Addr) (q:Str) (t:Tok):∃h:Heap,(∃(oc:Obj) (vs:Array Value) (t:Tok),h.get? c=some oc∧oc.data=.fields vs∧vs[1]?=some (.str q t))∧∀a o,h.get? a=some o→o.data=.fields #[.none,.str q t]:=by
 refine⟨{ objs:=Array.replicate (c+1) { cls:=.none,data:=.fields #[.none,.str q t] } },⟨{ cls:=.none,data:=.fields #[.none,.str q t] },_,t,?_,rfl,rfl⟩,fun a o e=>?_⟩
 ·unfold Heap.get?
  simp
 ·unfold Heap.get? at e
  simp only[Array.getElem?_replicate] at e
  split at e
  ·cases e
  ·split at e
   ·cases e;rfl
   ·cases e
theorem zx_code {p:Addr} {o:Obj} {c:Addr} {q:Str} (e:zx p o=LamX.CodeO c q):False:=by
 unfold zx LamX.CodeO at e
 injection e with e
 have at_:∀t:Tok,o.data=.fields #[.none,.str q t]:=fun t=>by
  obtain⟨h,h1,h2⟩:=code_two c q t
  exact h2 p o ((congrFun e h).mpr h1)
 have:=(at_ 0).symm.trans (at_ 1)
 simp at this
theorem zx_own (p:Addr) (o:Obj):OwnH (zx p o):=⟨(fun _ e=>by cases e),fun _ _ e=>zx_code e⟩
theorem zx_ok {P:Program} {w:World} {H:Hp} {h:Heap} {p:Addr} {o:Obj} (e:h.get? p=some o):ObjOk P w H h p (zx p o):=⟨e,⟨o,e⟩,fun _ _ x k=>k o x⟩
def withL (H:Hp) (L:List (Addr×Obj)):Hp:=fun b=>match L.lookup b with
 | some o=>some (zx b o)
 | none=>H b
def offL (H:Hp) (L:List (Addr×Obj)):Hp:=fun b=>match L.lookup b with
 | some _=>none
 | none=>H b
theorem lookL {L:List (Addr×Obj)} {b:Addr} {o:Obj} (h:L.lookup b=some o):(b,o)∈L:=by
 induction L with
 | nil=>cases h
 | cons x L ih=>
  rw[List.lookup_cons] at h
  split at h
  ·rename_i q
   cases h
   have:=eq_of_beq q
   subst this
   exact List.mem_cons_self
  ·exact List.mem_cons_of_mem _ (ih h)
theorem lookN {L:List (Addr×Obj)} {b:Addr} (h:L.lookup b=none):∀p∈L,p.1≠b:=fun p hp e=>by
 induction L with
 | nil=>cases hp
 | cons x L ih=>
  rw[List.lookup_cons] at h
  split at h
  ·cases h
  ·rename_i q
   rcases List.mem_cons.mp hp with z | z
   ·subst z
    exact absurd e.symm (by simpa using q)
   ·exact ih h z
theorem inL {L:List (Addr×Obj)} {p:Addr×Obj} (h:p∈L):∃o,L.lookup p.1=some o:=by
 cases e:L.lookup p.1 with
 | some o=>exact⟨o,rfl⟩
 | none=>exact absurd rfl (lookN e p h)
section
variable {X:Cx} {pins:List (Addr×Obj)} {z:L2.St} {H:Hp} {s:Shared} {L:List (Addr×Obj)}
theorem inv_withL (I:Inv X pins z H s) (hn:∀p∈L,H p.1=none) (hg:∀p∈L,s.heap.get? p.1=some p.2) (ex:ExOk X pins (L.map Prod.fst)):Inv X pins z (withL H L) s:=by
 have out:∀{b:Addr} {u:HO},H b=some u→withL H L b=some u:=fun {b u} e=>by
  unfold withL
  cases q:L.lookup b with
  | none=>exact e
  | some o=>rw[hn _ (lookL q)] at e;cases e
 refine I.call' (ch:=L.map Prod.fst) rfl ⟨fun _ _ e _ _ _=>e,fun b o e _ _ _=>⟨o.slots,e⟩,fun b o e n hx=>?_,fun b o e _=>⟨o,e⟩,fun b xs e=>out e,fun b o u e=>out e,fun b ps e=>⟨#[],by rw[Array.append_empty];exact out e⟩⟩ (fun b u e=>?_) I.bare ex
 ·unfold withL
  cases q:L.lookup b with
  | none=>exact n
  | some o'=>exact absurd (List.mem_map.mpr ⟨_,lookL q,rfl⟩) hx
 ·unfold withL at e
  cases q:L.lookup b with
  | none=>
   rw[q] at e
   exact(I.hok b u e).stay (fun _ _ _ y=>y) (fun d y=>out y) fun d xs y=>out y
  | some o'=>
   rw[q] at e
   cases e
   exact zx_ok (hg _ (lookL q))
theorem inv_offL (I:Inv X pins z H s) (hn:∀p∈L,H p.1=some (zx p.1 p.2)) (ex:ExOk X pins (L.map Prod.fst)):Inv X pins z (offL H L) s:=by
 have out:∀{b:Addr} {u:HO},H b=some u→(∀φ,u≠.ext φ)→offL H L b=some u:=fun {b u} e ne=>by
  unfold offL
  cases q:L.lookup b with
  | none=>exact e
  | some o=>rw[hn _ (lookL q)] at e;cases e;exact absurd rfl (ne _)
 refine I.call' (ch:=L.map Prod.fst) rfl ⟨fun _ _ e _ _ _=>e,fun b o e _ _ _=>⟨o.slots,e⟩,fun b o e n hx=>?_,fun b o e _=>⟨o,e⟩,fun b xs e=>out e (fun _ y=>by cases y),fun b o u e=>out e (fun _ y=>by cases y),fun b ps e=>⟨#[],by rw[Array.append_empty];exact out e (fun _ y=>by cases y)⟩⟩ (fun b u e=>?_) I.bare ex
 ·unfold offL
  cases q:L.lookup b with
  | none=>exact n
  | some o'=>rfl
 ·unfold offL at e
  cases q:L.lookup b with
  | none=>
   rw[q] at e
   exact(I.hok b u e).stay (fun _ _ _ y=>y) (fun d y=>out y (fun _ y=>by cases y)) fun d xs y=>out y (fun _ y=>by cases y)
  | some o'=>
   rw[q] at e
   cases e
end
def isCellD:Data→Bool
 | .cell _=>true
 | _=>false
def restL (n:Nat) (s:Shared) (H:Hp) (L:List (Addr×Obj)):List (Addr×Obj):=(List.range s.heap.objs.size).filterMap fun b=>match s.heap.get? b,H b,L.lookup b with
 | some o,none,none=>if n≤b∧isCellD o.data=false then some (b,o) else none
 | _,_,_=>none
noncomputable def wildL (n:Nat) (s:Shared) (H:Hp) (L:List (Addr×Obj)) (Hid:Addr→Prop):List Addr:=(List.range s.heap.objs.size).filter fun b=>open Classical in decide (n≤b∧(restL n s H L).lookup b=none∧¬Hid b)
theorem of_restL {n:Nat} {s:Shared} {H:Hp} {L:List (Addr×Obj)} {p:Addr×Obj} (h:p∈restL n s H L):s.heap.get? p.1=some p.2∧H p.1=none∧(∀q∈L,p.1≠q.1)∧n≤p.1∧∀v,p.2.data≠.cell v:=by
 obtain⟨b,hr,e⟩:=List.mem_filterMap.mp h
 cases e1:s.heap.get? b with
 | none=>rw[e1] at e;cases e
 | some o=>
  cases e2:H b with
  | some u=>rw[e1,e2] at e;cases e
  | none=>
   cases e3:L.lookup b with
   | some u=>rw[e1,e2,e3] at e;cases e
   | none=>
    rw[e1,e2,e3] at e
    dsimp only at e
    split at e
    ·rename_i q
     cases e
     exact⟨e1,e2,fun q hq z=>lookN e3 q hq z.symm,q.1,fun v z=>by have:=q.2;rw[z] at this;cases this⟩
    ·cases e
theorem in_restL {n:Nat} {s:Shared} {H:Hp} {L:List (Addr×Obj)} {b:Addr} {o:Obj} (h1:s.heap.get? b=some o) (h2:H b=none) (h3:L.lookup b=none) (h4:n≤b) (h5:isCellD o.data=false):(b,o)∈restL n s H L:=by
 refine List.mem_filterMap.mpr ⟨b,List.mem_range.mpr (Heap.lt_size h1),?_⟩
 rw[h1,h2,h3]
 dsimp only
 rw[if_pos ⟨h4,h5⟩]
open Classical in
theorem of_wildL {n:Nat} {s:Shared} {H:Hp} {L:List (Addr×Obj)} {Hid:Addr→Prop} {b:Addr} (h:b∈wildL n s H L Hid):n≤b∧(∀p∈restL n s H L,p.1≠b)∧¬Hid b:=by
 obtain⟨h1,h2⟩:=List.mem_filter.mp h
 obtain⟨h3,h4,h5⟩:=of_decide_eq_true h2
 exact⟨h3,lookN h4,h5⟩
open Classical in
theorem not_wildL {n:Nat} {s:Shared} {H:Hp} {L:List (Addr×Obj)} {Hid:Addr→Prop} {b:Addr} {o:Obj} (e:s.heap.get? b=some o) (h:n≤b) (hn:¬Hid b) (nw:b∉wildL n s H L Hid):(b,o)∈restL n s H L:=by
 cases q:(restL n s H L).lookup b with
 | none=>exact absurd (List.mem_filter.mpr ⟨List.mem_range.mpr (Heap.lt_size e),decide_eq_true ⟨h,q,hn⟩⟩) nw
 | some o'=>
  have m:=lookL q
  have:=(of_restL m).1
  rw[e] at this
  cases this
  exact m
theorem known_there {P:Program} {w:World} {H:Hp} {h:Heap} {a:Addr} {o:HO} (x:ObjOk P w H h a o):∃ob,h.get? a=some ob:=by
 cases o with
 | tup xs=>obtain⟨_,_,_,ob,e,_⟩:=x;exact⟨ob,e⟩
 | lst xs=>obtain⟨_,_,_,_,q⟩:=x;exact⟨_,q⟩
 | dT kvs=>obtain⟨_,_,_,_,ob,_,_,e,_⟩:=x;exact⟨ob,e⟩
 | dK kvs=>obtain⟨_,_,_,_,ob,_,_,e,_⟩:=x;exact⟨ob,e⟩
 | ins C dx fs=>obtain⟨_,_,_,q,_⟩:=x;exact⟨_,q⟩
 | set S n=>obtain⟨ob,_,_,_,e,_⟩:=x;exact⟨ob,e⟩
 | xd fs=>obtain⟨_,⟨ob,_,_,e,_⟩,_⟩:=x;exact⟨ob,e⟩
 | own y=>exact x
 | rng lo hi=>obtain⟨_,_,_,q⟩:=x;exact⟨_,q⟩
 | frz ob u=>exact⟨ob,x.1⟩
 | tbl ps=>exact⟨_,x⟩
 | met f y=>exact⟨_,x⟩
 | ext φ=>exact x.2.1
section
variable {P:P3} {ip:List (Addr×Obj)} {z:L2.St} {t:S3} {g:Gh} {s:Shared} {L:List (Addr×Obj)}
theorem step_un (I:Inv (cxG P.X g) ip z t.H s) (e0:g.s0=cutGh P.X.s_0.heap.objs.size g.s) (sz:P.X.s_0.heap.objs.size≤g.s.heap.objs.size) (epn:g.pn=restL P.X.s_0.heap.objs.size g.s g.t.H L) (tr:∀b,g.B b→∃u,g.t.H b=some u∧t.H b=some u) :
  Un P.X.fs (wildL P.X.s_0.heap.objs.size g.s g.t.H L g.B) g.t.H t.H g.s.heap s.heap:=by
 have u:Un P.X.fs [] g.t.H t.H g.s0.heap s.heap:=I.base
 have low:∀{b:Addr} {o:Obj},g.s.heap.get? b=some o→b<P.X.s_0.heap.objs.size→g.s0.heap.get? b=some o:=fun e h=>by rw[e0,cut_lt h];exact e
 have fsl:∀{b:Addr},b∈P.X.fs→b<P.X.s_0.heap.objs.size:=fun {b} hb=>by
  obtain⟨_,o',ho,_⟩:=I.ok.funs.mem hb
  have:=Heap.lt_size ho
  rw[show (cxG P.X g).s_0=g.s0 from rfl,e0,cut_size sz] at this
  exact this
 have high:∀{b:Addr} {o:Obj},g.s.heap.get? b=some o→¬b<P.X.s_0.heap.objs.size→¬g.B b→b∉wildL P.X.s_0.heap.objs.size g.s g.t.H L g.B→s.heap.get? b=some o∧t.H b=none:=fun {b o} e h hn hw=>by
  have m:=not_wildL e (Nat.le_of_not_lt h) hn hw
  obtain⟨h1,h2,_⟩:=I.pin (b,o) (List.mem_append_left _ (show (b,o)∈g.pn by rw[epn];exact m))
  exact⟨h1,h2⟩
 have nh:∀{b:Addr},g.t.H b=none→¬g.B b:=fun {b} n h=>by
  obtain⟨u,e,_⟩:=tr b h
  rw[n] at e
  cases e
 refine⟨fun b o e n hf hw=>?_,fun b o e n hf hw=>?_,fun b o e n hw=>?_,fun b o e hw=>?_,u.tups,u.frzs,u.tbls⟩
 ·by_cases h:b<P.X.s_0.heap.objs.size
  ·exact u.keep b o (low e h) n hf (by simp)
  ·exact(high e h (nh n) hw).1
 ·exact u.slot b o (low e (fsl hf)) n hf (by simp)
 ·by_cases h:b<P.X.s_0.heap.objs.size
  ·exact u.free b o (low e h) n (by simp)
  ·exact(high e h (nh n) hw).2
 ·by_cases h:b<P.X.s_0.heap.objs.size
  ·exact u.there b o (low e h) (by simp)
  ·by_cases hb:g.B b
   ·obtain⟨v,_,q⟩:=tr b hb
    exact known_there (I.hok b v q)
   ·exact⟨o,(high e h hb hw).1⟩
end
end M3
namespace M3
open PySem PySem.Spec PyProof.Rows L2 GenW
noncomputable def cleanL (F H:Hp) (L:List (Addr×Obj)):Hp:=fun b=>match L.lookup b with
 | some _=>none
 | none=>open Classical in if F b=none∧∃c q,H b=some (LamX.CodeO c q) then none else H b
section
variable {F H:Hp} {L:List (Addr×Obj)} {b:Addr} {u:HO}
theorem clean_in (h:L.lookup b=none) (hu:F b≠none∨∀c q,u≠LamX.CodeO c q) (e:H b=some u):cleanL F H L b=some u:=by
 unfold cleanL
 rw[h]
 dsimp only
 rw[if_neg,e]
 rintro⟨h1,c,q,h2⟩
 rcases hu with hu | hu
 ·exact hu h1
 ·rw[e] at h2;cases h2;exact hu c q rfl
theorem clean_of (e:cleanL F H L b=some u):L.lookup b=none∧H b=some u∧(F b≠none∨∀c q,u≠LamX.CodeO c q):=by
 unfold cleanL at e
 cases h:L.lookup b with
 | some o=>rw[h] at e;cases e
 | none=>
  rw[h] at e
  dsimp only at e
  split at e
  ·cases e
  ·rename_i n
   refine⟨rfl,e,?_⟩
   by_cases f:F b=none
   ·exact .inr fun c q z=>n ⟨f,c,q,by rw[e,z]⟩
   ·exact .inl f
theorem clean_L {p:Addr×Obj} (h:p∈L):cleanL F H L p.1=none:=by
 obtain⟨o,e⟩:=inL h
 unfold cleanL
 rw[e]
theorem nobj_code {G:G3} {s:S3} {a:Addr} {o:MO} (x:ObjR G s a o):∃u,s.H a=some u∧OwnH u:=by
 cases o with
 | lst xs=>obtain⟨vs,e,_⟩:=x;exact⟨_,e,⟨fun _ z=>(by cases z),fun _ _ z=>(by unfold LamX.CodeO at z;cases z)⟩⟩
 | dic ks us=>obtain⟨vs,e,_⟩:=x;exact⟨_,e,⟨fun _ z=>(by cases z),fun _ _ z=>(by unfold LamX.CodeO at z;cases z)⟩⟩
 | ddi ks us=>obtain⟨vs,e,_⟩:=x;exact⟨_,e,⟨fun _ z=>(by cases z),fun _ _ z=>dkO_code z⟩⟩
 | ins c fs=>obtain⟨_,_,_,_,e,_⟩:=x;exact⟨_,e,⟨fun _ z=>(by cases z),fun _ _ z=>(by unfold LamX.CodeO at z;cases z)⟩⟩
 | cell d=>obtain⟨_,e,_⟩:=x;exact⟨_,e,⟨fun _ z=>(by cases z),fun _ _ z=>cellO_code z⟩⟩
 | _=>exact x.elim
end
section
variable {X:Cx} {pins:List (Addr×Obj)} {z:L2.St} {s:Shared} {L:List (Addr×Obj)} {F H:Hp}
theorem inv_clean (I:Inv X pins z H s) (hn:∀p∈L,H p.1=some (zx p.1 p.2)) (ex:ExOk X pins (L.map Prod.fst)):Inv X pins z (cleanL F H L) s:=by
 have I1:=inv_offL I hn ex
 have tell:∀{b:Addr} {u:HO},H b=some u→(∀φ,u≠.ext φ)→cleanL F H L b=some u:=fun {b u} e ne=>by
  refine clean_in ?_ (.inr fun c q z=>?_) e
  ·cases q:L.lookup b with
   | none=>rfl
   | some o=>rw[hn _ (lookL q)] at e;cases e;exact absurd rfl (ne _)
  ·unfold LamX.CodeO at z
   exact ne _ z
 refine I.call' (ch:=L.map Prod.fst) rfl ⟨fun _ _ e _ _ _=>e,fun b o e _ _ _=>⟨o.slots,e⟩,fun b o e n hx=>?_,fun b o e _=>⟨o,e⟩,fun b xs e=>tell e (fun _ y=>by cases y),fun b o u e=>tell e (fun _ y=>by cases y),fun b ps e=>⟨#[],by rw[Array.append_empty];exact tell e (fun _ y=>by cases y)⟩⟩ (fun b u e=>?_) I.bare ex
 ·cases q:cleanL F H L b with
  | none=>rfl
  | some u=>obtain⟨_,e2,_⟩:=clean_of q;rw[n] at e2;cases e2
 ·obtain⟨_,e2,_⟩:=clean_of e
  exact(I.hok b u e2).stay (fun _ _ _ y=>y) (fun d y=>tell y (fun _ y=>by cases y)) fun d xs y=>tell y (fun _ y=>by cases y)
end
section
variable {G:G3} {B:Addr→Prop} {st:Store} {t:S3} {L:List (Addr×Obj)}
def butL (B:Addr→Prop) (L:List (Addr×Obj)):Addr→Prop:=fun b=>B b∧L.lookup b=none
theorem clean_hid (w:Wd G B st t) {b:Addr} (h:butL B L b):cleanL t.F t.H L b=t.H b:=by
 obtain⟨_,o,e,q⟩:=w.hid b h.1
 rw[e]
 exact clean_in h.2 (.inr q.code) e
theorem notL (w:Wd G B st t) (hL:∀p∈L,B p.1) {b:Addr} (h:¬B b):L.lookup b=none:=by
 cases q:L.lookup b with
 | none=>rfl
 | some o=>exact absurd (hL _ (lookL q)) h
theorem wd_clean (w:Wd G B st t) (hL:∀p∈L,B p.1):Wd G (butL B L) st ⟨t.io,t.F,cleanL t.F t.H L⟩:=by
 refine⟨fun b o e=>?_,fun b h=>?_,w.ftb,w.dom,w.inj,fun k o e tr=>?_,w.untM (IoLe.refl _) (Same.refl _),w.tabM (Same.refl _) fun p ps e=>?_⟩
 ·have e:t.F b=some o:=e
  refine clean_in (notL w hL fun h=>?_) (.inl (by rw[e];simp)) (w.sub b o e)
  rw[(w.hid b h).1] at e
  cases e
 ·obtain⟨h1,o,e,q⟩:=w.hid b h.1
  exact⟨h1,o,(clean_hid w h).trans e,q⟩
 ·obtain⟨a,e1,nb,f,x⟩:=w.obj k o e tr
  obtain⟨u,eu,ow⟩:=nobj_code x
  have:cleanL t.F t.H L a=t.H a:=by rw[eu];exact clean_in (notL w hL nb) (.inr ow.code) eu
  exact⟨a,e1,fun h=>nb h.1,f,ObjR.mono (s:=t) (IoLe.refl _) (Same.refl _) this x⟩
 ·refine clean_in (notL w hL fun h=>?_) (.inr fun c q z=>by unfold LamX.CodeO at z;cases z) e
  obtain⟨_,o,e',q⟩:=w.hid p h
  rw[e] at e'
  cases e'
  exact q.tbl _ rfl
def bigB (F H:Hp):Addr→Prop:=fun b=>F b=none∧∃o,H b=some o∧OwnH o
def noIo:Io:=fun _=>none
theorem wd_priv {H:Hp} (w:Wd G B st ⟨t.io,t.F,H⟩):Wd G (bigB t.F H) [] ⟨noIo,t.F,H⟩:=
 ⟨w.sub,fun b h=>⟨h.1,h.2⟩,w.ftb,fun _ _ e=>(by cases e),fun _ _ _ _ _ e=>(by cases e),fun _ _ e=>(by cases e),fun _ _ e=>(by cases e),w.tabM (s':=⟨noIo,t.F,H⟩) (Same.refl _) fun _ _ e=>e⟩
theorem big_of (w:Wd G B st t) {b:Addr} (h:B b):bigB t.F t.H b:=w.hid b h
theorem wd_back {B1:Addr→Prop} {o1:Store} {t1:S3} (w:Wd G B st t) (w1:Wd G B1 o1 t1) (sb:∀b,bigB t.F t.H b→B1 b) (l:Le (bigB t.F t.H) ⟨noIo,t.F,t.H⟩ t1):Wd G B st ⟨t.io,t1.F,t1.H⟩∧Le B t ⟨t.io,t1.F,t1.H⟩:=by
 refine⟨⟨w1.sub,fun b h=>?_,w1.ftb,w.dom,w.inj,fun k o e tr=>?_,w.untM (s':=⟨t.io,t1.F,t1.H⟩) (IoLe.refl _) l.fr,w1.tabM (s':=⟨t.io,t1.F,t1.H⟩) (Same.refl _) fun _ _ e=>e⟩,IoLe.refl _,l.fr,fun b h=>l.hid b (big_of w h)⟩
 ·obtain⟨_,o,e,q⟩:=w.hid b h
  exact⟨(w1.hid b (sb b (big_of w h))).1,o,(l.hid b (big_of w h)).trans e,q⟩
 ·obtain⟨a,e1,nb,f,x⟩:=w.obj k o e tr
  obtain⟨u,eu,ow⟩:=nobj_code x
  have hb:bigB t.F t.H a:=⟨f,u,eu,ow⟩
  exact⟨a,e1,nb,(w1.hid a (sb a hb)).1,ObjR.mono (s:=t) (s':=⟨t.io,t1.F,t1.H⟩) (IoLe.refl _) l.fr (l.hid a hb) x⟩
def orL (B:Addr→Prop) (L:List (Addr×Obj)):Addr→Prop:=fun b=>B b∨∃o,L.lookup b=some o
theorem wd_withL (w:Wd G B st t) (hn:∀p∈L,t.H p.1=none):Wd G (orL B L) st ⟨t.io,t.F,withL t.H L⟩∧Le B t ⟨t.io,t.F,withL t.H L⟩:=by
 have out:∀{b:Addr} {u:HO},t.H b=some u→L.lookup b=none∧withL t.H L b=some u:=fun {b u} e=>by
  cases q:L.lookup b with
  | none=>exact⟨rfl,by unfold withL;rw[q];exact e⟩
  | some o=>rw[hn _ (lookL q)] at e;cases e
 refine⟨⟨fun b o e=>(out (w.sub b o e)).2,fun b h=>?_,w.ftb,w.dom,w.inj,fun k o e tr=>?_,w.untM (s':=⟨t.io,t.F,withL t.H L⟩) (IoLe.refl _) (Same.refl _),w.tabM (s':=⟨t.io,t.F,withL t.H L⟩) (Same.refl _) fun p ps e=>(out e).2⟩,IoLe.refl _,Same.refl _,fun b h=>?_⟩
 ·rcases h with h | ⟨o,h⟩
  ·obtain⟨h1,o,e,q⟩:=w.hid b h
   exact⟨h1,o,(out e).2,q⟩
  ·refine⟨w.freshF (hn _ (lookL h)),zx b o,?_,zx_own b o⟩
   show withL t.H L b=_
   unfold withL
   rw[h]
 ·obtain⟨a,e1,nb,f,x⟩:=w.obj k o e tr
  obtain⟨u,eu⟩:=x.there
  obtain⟨q1,q2⟩:=out eu
  refine⟨a,e1,fun h=>h.elim nb fun ⟨o,y⟩=>?_,f,ObjR.mono (s:=t) (s':=⟨t.io,t.F,withL t.H L⟩) (IoLe.refl _) (Same.refl _) (q2.trans eu.symm) x⟩
  rw[q1] at y
  cases y
 ·obtain⟨_,o,e,_⟩:=w.hid b h
  show withL t.H L b=t.H b
  rw[(out e).2,e]
end
end M3
namespace M3
open PySem PySem.Spec PyProof.Rows L2 GenW
abbrev P3.n0 (P:P3):Nat:=P.X.s_0.heap.objs.size
structure Asleep (P:P3) (nb:Bool) (A':Around) (L:List (Addr×Obj)) (N:Addr→Prop) (o:Store) (t:S3) (xs:List (D×Store)) (oE:Store) (gs:GenState):Prop where
 bare:gs.bare=true
 young:∀p∈L,P.n0≤p.1
 wake:∀(g:Gh) (Aq:Around),Env0 P.X.prog P.X.w P.X.K P.X.mg P.X.base Aq P.X.outer g.s g.t.H→g.s0=cutGh P.n0 g.s→P.n0≤g.s.heap.objs.size→(∀p∈L,g.s.heap.get? p.1=some p.2∧g.t.H p.1=none)→g.pn=restL P.n0 g.s g.t.H L→
  Wd P.G g.B o g.t→IoLe t.io g.t.io→Same t.F g.t.F→(∀b,N b→g.B b∧g.t.H b=t.H b)→Go (model P.X.prog P.X.w) A' (ZG P nb A' xs oE g) gs (.send .none) g.s
section
variable {P:P3} {nb:Bool} {A':Around} {ip:List (Addr×Obj)} {N:Addr→Prop} {z:L2.St} {B:Addr→Prop} {t:S3} {o:Store} {g:Gh} {s:Shared}
def sleepL (X:Cx) (ip:List (Addr×Obj)) (s:Shared):List (Addr×Obj):=pinsAt (X.env.locals :: X.env.cells.filterMap fun y=>if X.env.cells.lookup y.1=some y.2 then some y.2 else none) s.heap++ip
theorem sleep_cells {X:Cx} {c:Addr} (h:c∈X.env.cells.filterMap fun y=>if X.env.cells.lookup y.1=some y.2 then some y.2 else none):∃x,X.env.cells.lookup x=some c:=by
 obtain⟨y,_,e⟩:=List.mem_filterMap.mp h
 split at e
 ·rename_i q
  cases e
  exact⟨y.1,q⟩
 ·cases e
theorem sleep_ok (I:Inv (cxG P.X g) ip z t.H s):LOk P.X ip s (sleepL P.X ip s):=by
 refine⟨?_,fun x c h=>?_,fun p hp=>List.mem_append_right _ hp,fun p hp=>?_⟩
 ·obtain⟨m,⟨ob,es,ep,e,_⟩,_⟩:=I.loc
  exact⟨ob,List.mem_append_left _ (mem_pinsAt List.mem_cons_self e)⟩
 ·obtain⟨v,ob,e,_⟩:=I.cell x c h
  exact⟨ob,List.mem_append_left _ (mem_pinsAt (List.mem_cons_of_mem _ (List.mem_filterMap.mpr ⟨(x,c),PySem.mem_of_lookup h,by dsimp only;rw[if_pos h]⟩)) e)⟩
 ·rcases List.mem_append.mp hp with q | q
  ·exact(of_pinsAt q).2
  ·exact(I.pin p (List.mem_append_right _ q)).1
theorem sleep_own (hfn:∀x,P.X.fn x=true) (I:Inv (cxG P.X g) ip z t.H s) (sz:g.s0.heap.objs.size=P.n0) (dj:∀p∈g.pn,∀q∈ip,p.1≠q.1) (yg:∀q∈ip,P.n0≤q.1):∀q∈sleepL P.X ip s,t.H q.1=none∧P.n0≤q.1∧∀p∈g.pn,p.1≠q.1:=fun q hq=>by
 rcases List.mem_append.mp hq with h | h
 ·obtain⟨hm,e⟩:=of_pinsAt h
  rcases List.mem_cons.mp hm with h1 | h1
  ·rw[h1]
   refine⟨I.free,?_,fun p hp=>(I.pin p (List.mem_append_left _ hp)).2.2.1⟩
   rw[←sz]
   exact I.ok.above
  ·obtain⟨x,hx⟩:=sleep_cells h1
   refine⟨I.freeC x q.1 hx,?_,fun p hp y=>?_⟩
   ·rw[←sz]
    exact I.ok.cab x q.1 (hfn x) hx
   ·obtain⟨h2,_,_,_,h3⟩:=I.pin p (List.mem_append_left _ hp)
    obtain⟨v,ob,e2,d⟩:=I.cell x q.1 hx
    rw[←y,h2] at e2
    cases e2
    exact h3 _ d
 ·exact⟨(I.pin q (List.mem_append_right _ h)).2.1,yg q h,fun p hp=>dj p hp q h⟩
theorem asleep_of {rest:List (D×Store)} {oE:Store} {v:Value} {gd:Bool} {l:List Value} {k:Resume→Sem PySem.Fin} {c:Code} {p:Pos} {fs:List Frame} (hst:P.X.stack=P.X.env :: P.X.outer∧P.X.env.frame=some P.X.env.locals) (hfn:∀x,P.X.fn x=true) (hq:(End.susp v gd l k c p fs).quiet=true)
  (I:Inv (cxG P.X g) ip z t.H s) (sz:g.s0.heap.objs.size=P.n0) (dj:∀p∈g.pn,∀q∈ip,p.1≠q.1) (yg:∀q∈ip,P.n0≤q.1) (w:∀g':Gh,Wk P ip N z t o g'→Sg (model P.X.prog P.X.w) A' (ZG P nb A' rest oE g') c (k (.send .none)) fs g'.s) :
  Asleep P nb A' (sleepL P.X ip s) N o t rest oE (End.susp v gd l k c p fs).genState:=by
 refine⟨End.bare_of_quiet hq,fun p hp=>(sleep_own hfn I sz dj yg p hp).2.1,fun g' Aq e0 es0 hsz hk hpn wd io fr hid=>w g' ⟨?_,wd,io,fr,hid,fun p hp q hq=>?_,by rw[es0];exact cut_size hsz⟩⟩
 ·refine wake_inv hst I.ok.frames (sleep_ok I) sz I e0 es0 hsz hk fun p hp=>?_
  rw[hpn] at hp
  obtain⟨h1,h2,h3,h4,h5⟩:=of_restL hp
  refine⟨h1,h2,h3,fun hm=>?_,h5⟩
  obtain⟨_,o',ho,_⟩:=I.ok.funs.mem hm
  have:=Heap.lt_size ho
  rw[show (cxG P.X g).s_0=g.s0 from rfl,sz] at this
  exact absurd (Nat.lt_of_lt_of_le this h4) (Nat.lt_irrefl _)
 ·rw[hpn] at hp
  exact(of_restL hp).2.2.1 q (List.mem_append_right _ hq)
end
structure Eats (X:Cx) (P:P3):Prop where
 prog:P.X.prog=X.prog
 w:P.X.w=X.w
 K:P.X.K=X.K
 mg:P.X.mg=X.mg
 base:P.X.base=X.base
 outer:P.X.outer=X.stack
 stk:P.X.stack=P.X.env :: P.X.outer∧P.X.env.frame=some P.X.env.locals
 fn:∀x,P.X.fn x=true
 cells:∀x c,X.env.cells.lookup x=some c→c<P.n0
section
variable {X:Cx} {P:P3} {pins:List (Addr×Obj)} {z:L2.St} {s:Shared} {L:List (Addr×Obj)} {H:Hp}
theorem ex_wild {Hid:Addr→Prop} (E:Eats X P) (I:Inv X pins z H s) (yo:∀b,P.n0≤b→¬Hid b→b∈X.ex∨X.s_0.heap.objs.size≤b) (hL:∀p∈L,p.1≠X.env.locals∧∀q∈X.pn++pins,q.1≠p.1):ExOk X pins (wildL P.n0 s H L Hid):=fun b hb=>by
 obtain⟨h1,h2,h3⟩:=of_wildL hb
 have out:∀{o:Obj},s.heap.get? b=some o→H b=none→isCellD o.data=false→L.lookup b=none→False:=fun e hn d l=>h2 _ (in_restL e hn l h1 d) rfl
 refine⟨yo b h1 h3,fun e=>?_,fun x c hx e=>?_,fun p hp e=>?_⟩
 ·obtain⟨m,⟨ob,es,ep,g1,g2,_⟩,_⟩:=I.loc
  refine out (o:=ob) (e▸g1) (e▸I.free) (by rw[g2];rfl) ?_
  cases q:L.lookup b with
  | none=>rfl
  | some o=>exact absurd e (hL _ (lookL q)).1
 ·have:=E.cells x c hx
  rw[e] at this
  exact absurd (Nat.lt_of_lt_of_le this h1) (Nat.lt_irrefl _)
 ·obtain⟨g1,g2,_,_,g5⟩:=I.pin p hp
  refine out (o:=p.2) (e▸g1) (e▸g2) ?_ ?_
  ·cases d:p.2.data with
   | cell v=>exact absurd d (g5 v)
   | _=>rfl
  ·cases q:L.lookup b with
   | none=>rfl
   | some o=>exact absurd e ((hL _ (lookL q)).2 p hp)
theorem ex_own {Hid:Addr→Prop} {L1:List (Addr×Obj)} (E:Eats X P) (I:Inv X pins z H s) (yo:∀b,P.n0≤b→¬Hid b→b∈X.ex∨X.s_0.heap.objs.size≤b) (hL:∀p∈L,p.1≠X.env.locals∧∀q∈X.pn++pins,q.1≠p.1)
  (h1:∀p∈L1,P.n0≤p.1∧¬Hid p.1∧∀q∈restL P.n0 s H L,q.1≠p.1):ExOk X pins (L1.map Prod.fst):=fun b hb=>by
 obtain⟨p,hp,rfl⟩:=List.mem_map.mp hb
 obtain⟨y1,y2,y3⟩:=h1 p hp
 refine⟨yo p.1 y1 y2,fun e=>?_,fun x c hx e=>?_,fun q hq e=>?_⟩
 ·obtain⟨m,⟨ob,es,ep,g1,g2,_⟩,_⟩:=I.loc
  refine y3 (X.env.locals,ob) (in_restL g1 I.free ?_ (e▸y1) (by rw[g2];rfl)) e.symm
  cases q:L.lookup X.env.locals with
  | none=>rfl
  | some o=>exact absurd rfl (hL _ (lookL q)).1
 ·have:=E.cells x c hx
  rw[e] at this
  exact absurd (Nat.lt_of_lt_of_le this y1) (Nat.lt_irrefl _)
 ·obtain⟨g1,g2,_,_,g5⟩:=I.pin q hq
  refine y3 (q.1,q.2) (in_restL g1 g2 ?_ (e▸y1) ?_) e
  ·cases r:L.lookup q.1 with
   | none=>rfl
   | some o=>exact absurd rfl ((hL _ (lookL r)).2 q hq)
  ·cases d:q.2.data with
   | cell v=>exact absurd d (g5 v)
   | _=>rfl
end
end M3
namespace M3
open PySem PySem.Spec PyProof.Rows L2 GenW
section
variable {X:Cx} {P:P3} {nb:Bool} {pins:List (Addr×Obj)} {z:L2.St} {s:Shared} {L:List (Addr×Obj)}
structure NextG (X:Cx) (P:P3) (nb:Bool) (pins:List (Addr×Obj)) (z:L2.St) (gi:Nat) (B:Addr→Prop) (t:S3) (d:D) (o1:Store) (rest:List (D×Store)) (oE:Store) (v:Value) (s':Shared) (B1:Addr→Prop) (t1:S3) (L1:List (Addr×Obj)) (N1:Addr→Prop) (gs1:GenState):Prop where
 inv:Inv X pins z t1.H s'
 sub:∀b,B b∨N1 b→B1 b
 wd:Wd P.G B1 o1 t1
 le:Le B t t1
 val:∃x,Rep P.G.R t1.F t1.io d x∧RelV x v
 asl:Asleep P nb X.A.in1 L1 N1 o1 t1 rest oE gs1
 slp:isSlp gs1=true
 gen:s'.gens[gi]?=some gs1
 own:∀p∈L1,s'.heap.get? p.1=some p.2∧t1.H p.1=none
 ex:ExOk X pins (L1.map Prod.fst)
 nest:∀b,N1 b→nb=true
 sz:P.n0≤s'.heap.objs.size
 nz:∀b,N1 b→∃ob,t1.H b=some (zx b ob)
theorem step_gen {tz t:S3} {B N:Addr→Prop} {o:Store} {xs:List (D×Store)} {oE:Store} {gs:GenState} {a:Addr} {gi:Nat} {Q:Option Value→Shared→Prop} {Er:Value→Shared→Prop}
  (E:Eats X P) (I:Inv X pins z t.H s) (hh:X.A.handled=none) (hroom:X.A.depth<recursionLimit) (hg:s.heap.IsGen a gi) (hgs:s.gens[gi]?=some gs) (as:Asleep P nb X.A.in1 L N o tz xs oE gs) (wd:Wd P.G B o t) (io:IoLe tz.io t.io) (fr:Same tz.F t.F) (hid:∀b,N b→B b∧t.H b=tz.H b)
  (keep:∀p∈L,s.heap.get? p.1=some p.2∧t.H p.1=none) (hL:∀p∈L,p.1≠X.env.locals∧∀q∈X.pn++pins,q.1≠p.1) (yo:∀b,P.n0≤b→¬B b→b∈X.ex∨X.s_0.heap.objs.size≤b) (sz:P.n0≤s.heap.objs.size)
  (hE:xs=[]→∀(s':Shared) (B1:Addr→Prop) (t1:S3),Inv X pins z t1.H s'→(∀b,B b→B1 b)→Wd P.G B1 oE t1→Le B t t1→Q none s')
  (hI:∀d o1 rest,xs=(d,o1) :: rest→∀v s' B1 t1 L1 N1 gs1,NextG X P nb pins z gi B t d o1 rest oE v s' B1 t1 L1 N1 gs1→Q (some v) s') :
  wpAny (model X.prog X.w) X.A (pyNext (.ref a)) Q Er s:=by
 have hgl:gi<s.gens.size:=(Array.getElem?_eq_some_iff.mp hgs).1
 obtain⟨g,eg⟩:∃g:Gh,g=⟨s.setGen gi .running,t,B,cutGh P.n0 (s.setGen gi .running),restL P.n0 (s.setGen gi .running) t.H L⟩:=⟨_,rfl⟩
 have eh:g.s.heap=s.heap:=by rw[eg];rfl
 have et:g.t=t:=by rw[eg]
 have eB:g.B=B:=by rw[eg]
 have es0:g.s0=cutGh P.n0 g.s:=by rw[eg]
 have epn:g.pn=restL P.n0 g.s g.t.H L:=by rw[eg]
 have szg:P.n0≤g.s.heap.objs.size:=by rw[eh];exact sz
 have rl:restL P.n0 g.s g.t.H L=restL P.n0 s t.H L:=by rw[eg];rfl
 have e0:Env0 P.X.prog P.X.w P.X.K P.X.mg P.X.base X.A P.X.outer g.s g.t.H:=by
  have q:=I.env0
  rw[E.prog,E.w,E.K,E.mg,E.base,E.outer,et]
  refine⟨q.frames,q.mod,?_,?_,?_,q.frf,?_,?_⟩
  ·rw[eh];exact q.bs
  ·rw[eh];exact q.bsz
  ·rw[eh];exact q.funs
  ·rw[eh];exact q.hok
  ·rw[eg];exact allBare_setGen q.bare rfl
 have go:=as.wake g X.A e0 es0 szg (fun p hp=>by rw[eh,et];exact keep p hp) epn (by rw[eB,et];exact wd) (by rw[et];exact io) (by rw[et];exact fr) fun b h=>by rw[eB,et];exact hid b h
 have esg:g.s=s.setGen gi .running:=by rw[eg]
 rw[esg,E.prog,E.w] at go
 have back:∀{ip:List (Addr×Obj)} {z1:L2.St} {t1:S3} {s1:Shared},Inv (cxG P.X g) ip z1 t1.H s1→Le B t t1→∀(x:GenState) (h':Heap),x.bare=true→(∀b o,s1.heap.get? b=some o→h'.get? b=some o)→Inv X pins z t1.H { s1.setGen gi x with heap:=h' }:=by
  intro ip z1 t1 s1 I1 l x h' hx hk
  have un:=step_un (L:=L) I1 es0 szg epn fun b hb=>by
   rw[eB] at hb
   obtain⟨_,u,e,_⟩:=wd.hid b hb
   exact⟨u,by rw[et];exact e,(l.hid b hb).trans e⟩
  have un2:Un (frs X.stack) (wildL P.n0 s t.H L B) t.H t1.H s.heap s1.heap:=by
   have:=un
   rw[eh,et,eB] at this
   have ew:wildL P.n0 g.s t.H L B=wildL P.n0 s t.H L B:=by rw[eg];rfl
   rw[show P.X.s_0.heap.objs.size=P.n0 from rfl,ew,show P.X.fs=frs X.stack from congrArg frs E.outer] at this
   exact this
  refine I.call' (ch:=wildL P.n0 s t.H L B) ?_ (un2.trans (Un.kept hk)) ?_ (allBare_setGen I1.bare hx) (ex_wild E I yo hL)
  ·have h1:s1.os=g.s0.os:=I1.os
   show s1.os=s.os
   rw[h1,es0,esg]
   rfl
  ·have:=I1.hok
   rw[show (cxG P.X g).prog=X.prog from E.prog,show (cxG P.X g).w=X.w from E.w] at this
   exact this.kept hk
 refine wpAny_mono (wpAny_gsz (n:=gi+1) (Q:=Q) (E:=fun _ _=>False) hgl (next_go (Q:=fun r s'=>gi+1≤s'.gens.size→Q r s') (E:=fun _ s'=>gi+1≤s'.gens.size→False) (Z:=ZG P nb X.A.in1 xs oE g) hh I.nolimit hroom hg hgs go (fun e s1 q=>zg_quiet q) (fun v gd l k c p fs s1 q=>?_) fun r s1 q=>?_)) (fun r s' q=>q) fun _ _ q=>q.elim
 ·intro hsz
  have hgl1:gi<s1.gens.size:=by
   have:(s1.setGen gi (End.susp v gd l k c p fs).genState).gens.size=s1.gens.size:=setGen_size ..
   rw[this] at hsz
   exact hsz
  cases xs with
  | nil=>obtain⟨r,e,_⟩:=q;cases e
  | cons d rest=>
   obtain⟨d,o1⟩:=d
   obtain⟨v',gd',l',k',c',p',fs',e,hq,ip,N1,z1,B1,t1,hN1,I1,sb,w1,le1,dj,sz1,yg,nz1,val,wk⟩:=q
   cases e
   rw[eB,et] at le1
   have own:=sleep_own E.fn I1 sz1 dj yg
   have I2:=back I1 le1 (End.susp v gd l k c p fs).genState s1.heap (End.bare_of_quiet hq) fun _ _ e=>e
   refine hI d o1 rest rfl v _ B1 t1 (sleepL P.X ip s1) N1 (End.susp v gd l k c p fs).genState ⟨I2,fun b h=>sb b (h.imp (fun y=>by rw[eB];exact y) id),w1,le1,val,asleep_of E.stk E.fn hq I1 sz1 dj yg wk,rfl,setGen_at hgl1,fun p hp=>⟨(sleep_ok I1).get p hp,(own p hp).1⟩,?_,hN1,?_,nz1⟩
   rotate_left
   ·have h1:g.s0.heap.objs.size≤P.X.env.locals:=I1.ok.above
    rw[sz1] at h1
    exact Nat.le_trans h1 (Nat.le_of_lt I1.lt)
   refine ex_own E I yo hL fun p hp=>?_
   obtain⟨q1,q2,q3⟩:=own p hp
   refine⟨q2,fun hb=>?_,fun q hq'=>q3 q (by rw[epn,rl];exact hq')⟩
   obtain⟨_,u,e,_⟩:=wd.hid p.1 hb
   rw[←le1.hid p.1 hb,q1] at e
   cases e
 ·cases xs with
  | cons d rest=>
   obtain⟨_,_,_,_,_,_,_,e,_⟩:=q
   cases e
  | nil=>
   obtain⟨r',e,hr,ip,z1,B1,t1,I1,sb,w1,le1⟩:=q
   cases e
   rw[eB,et] at le1
   refine⟨hr,fun h' hk hsz=>?_⟩
   exact hE rfl _ B1 t1 (back I1 le1 .finished h' rfl hk) (fun b h=>sb b (by rw[eB];exact h)) w1 le1
end
end M3
namespace M3
open PySem PySem.Spec PyProof.Rows L2 GenW
def ymf (n:Nat) (mb:YM):List D→Store→Option (List (D×Store)×Store):=fun ds o=>match mb (ds.map (fun d=>some (.val d))++List.replicate (n - ds.length) none) o with
 | (xs,.nx _ o')=>some (xs,o')
 | (xs,.rt (.val .non) o')=>some (xs,o')
 | _=>none
abbrev gP (Pg:Program) (w:World) (K:PySem.W.Frag) (mg:Str→Option Value) (base:Heap) (G:G3) (hK:K=G.K) (hw:w=G.w) (N:List Str) (qual:Str) (scope:Scope) (f:Addr) (cdv:Value) (A:Around) (outer:List Env) (s:Shared) (H:Hp):P3:=
 ⟨cxOf (CXq Pg w) Pg w K mg base N qual scope f cdv A outer s H (fun _ _ _=>False),G,none,fun _ _ _ _=>False,hK,hw⟩
structure MadeG (Pg:Program) (w:World) (K:PySem.W.Frag) (mg:Str→Option Value) (base:Heap) (G:G3) (nb:Bool) (k:Nat) (outer:List Env) (s:Shared) (t:S3) (o:Store) (xs:List (D×Store)) (oE:Store) (a:Addr) (gi:Nat) (go:Obj) (gs:GenState) (s':Shared):Prop where
 obj:s'.heap.get? a=some go
 gen:∀h:Heap,h.get? a=some go→h.IsGen a gi
 st:s'.gens[gi]?=some gs
 big:s.heap.objs.size≤a
 os:s'.os=s.os
 bare:AllBare s'.gens
 keep:∀b ob,s.heap.get? b=some ob→s'.heap.get? b=some ob
 wake:∀A':Around,L2.Room k A'→A'.frames=some outer→∃(P:P3) (L:List (Addr×Obj)),P.n0=s.heap.objs.size∧P.G=G∧(P.X.prog=Pg∧P.X.w=w∧P.X.K=K∧P.X.mg=mg∧P.X.base=base∧P.X.outer=outer)∧(P.X.stack=P.X.env :: P.X.outer∧P.X.env.frame=some P.X.env.locals)∧(∀x,P.X.fn x=true)∧
  (∀p∈L,s'.heap.get? p.1=some p.2∧t.H p.1=none∧p.1≠a)∧Asleep P nb A' L (fun _=>False) o t xs oE gs
structure GnOk (Pg:Program) (w:World) (K:PySem.W.Frag) (mg:Str→Option Value) (base:Heap) (G:G3) (nb:Bool) (k:Nat) (f:Addr) (fd:FuncData) (ps:List Str) (m:List D→Store→Option (List (D×Store)×Store)):Prop where
 run:∀(A:Around) (outer:List Env) (s:Shared) (t:S3) (B:Addr→Prop) (o:Store) (args:Args) (us:List Value) (vs:List V) (ds:List D) (xs:List (D×Store)) (oE:Store),L2.Room k A→Env0 Pg w K mg base A outer s t.H→BindsTo s fd args (ps.zip us)→Vals vs us→vs.length=ps.length→RepL G.R t.F t.io ds vs→Wd G B o t→m ds o=some (xs,oE)→
  codeAny (model Pg w) A (.call (.ref f) args) (fun r s'=>∃a gi go gs,r=.ok (.ret (.ref a))∧MadeG Pg w K mg base G nb k outer s t o xs oE a gi go gs s') s
section
variable {Pg:Program} {w:World} {K:PySem.W.Frag} {mg:Str→Option Value} {base:Heap}
theorem gn_ok {G:G3} {nb:Bool} (hK:K=G.K) (hw:w=G.w) {x qual:Str} {st:Stmt} {f:Addr} {fd:FuncData} {N ps:List Str} {k:Nat} {mb:YM} (F:Fun K x qual st f fd) (S:GScope N ps (defScope st))
  (h:∀(cdv:Value) (A:Around) (outer:List Env) (s:Shared) (H:Hp),L2.Room k (A.deeper (envOfC qual (defScope st) s.heap.objs.size f cdv))→YSs (gP Pg w K mg base G hK hw N qual (defScope st) f cdv A outer s H) nb (defBody st) mb) :
  GnOk Pg w K mg base G nb (k+1) f fd ps (ymf N.length mb):=by
 obtain⟨cls0,own0,kv0,doc0,mod0,ann0,cdv,typ0,slots0,rfl,lk,hcd⟩:=F.ex
 refine⟨fun A outer s t B o args us vs ds xs oE hr e0 hb r hl rl wd hm=>?_⟩
 have kinS:K.In s.heap:=e0.mod.kin.keeps fun b ob e=>(e0.bs b ob e).1
 have limS:s.heap.NoLimit:=e0.mod.nolimit.keeps fun b ob e=>(e0.bs b ob e).1
 have kinds:∀y∈ps.zip us,(defScope st).names.lookup y.1=some .local∨((defScope st).names.lookup y.1=some .cell∧((cellsFrom (s.heap.objs.size+1) (defScope st).names []).lookup y.1).isSome=true):=by
  rintro⟨n,v⟩ hy
  exact(S.par n (List.of_mem_zip hy).1).imp id fun q=>⟨q,PySem.W.cellsFrom_some _ _ _ (.inl q)⟩
 refine codeAny_call_generator hr.depth (kinS _ _ lk) rfl S.co S.gen rfl (PySem.W.codeRec_of kinS hcd) (hb _ _ _ _ ?_)
 refine wpAny_newFunctionEnv_cells S.kind kinds ?_
 rintro env he s1 x
 subst he
 obtain⟨_,_,new1,_⟩:=x.done
 have lt1:=x.toInCall.ns.lt
 have kp1:∀b ob,s.heap.get? b=some ob→s1.heap.get? b=some ob:=x.toInCall.keep
 refine⟨limS.keeps kp1,?_⟩
 have same1:s1.os=s.os∧s1.gens=s.gens:=by rw[new1];exact⟨rfl,rfl⟩
 have I0:Inv (cxG (gP Pg w K mg base G hK hw N qual (defScope st) f cdv A outer s t.H).X ⟨s1,t,B,s,[]⟩) [] (L2.start N vs) t.H s1:=by
  have I:=inv_startG (E:=fun _ _ _=>False) (cd:=cdv) (f:=f) (qual:=qual) S hr.hd e0 hl r x
  exact⟨⟨I.ok.mod,I.ok.kind,I.ok.glob,I.ok.blt,I.ok.above,I.ok.inj,I.ok.has,I.ok.cab,(fun e=>by cases e),I.ok.frames,I.ok.stk,I.ok.exf,I.ok.bs,I.ok.bsz,I.ok.noex,I.ok.exfs,I.ok.funs,I.ok.frf⟩,I.os,I.bare,I.base,I.loc,I.cell,I.free,I.freeC,(fun p hp=>by cases hp),I.hok,I.len⟩
 have made:∀(go:Obj) (n1 n2:Value) (tk2:Nat),go.cls=.type "generator"→go.data=.fields #[.int s1.gens.size 0,n1,n2]→go.slots = #[]→(∀h:Heap,(h.push go).get? h.objs.size=some go)→
   MadeG Pg w K mg base G nb (k+1) outer s t o xs oE s1.heap.objs.size s1.gens.size go (.fresh (.func (defBody st) (envOfC qual (defScope st) s.heap.objs.size f cdv))) { s1 with gens:=s1.gens.push (.fresh (.func (defBody st) (envOfC qual (defScope st) s.heap.objs.size f cdv))),toks:=tk2,heap:=s1.heap.push go }:=by
  intro go n1 n2 tk2 g1 g2 g3 g4
  refine⟨g4 _,fun hp e=>⟨go,n1,n2,e,g1,g2,g3⟩,Array.getElem?_push_size ..,Nat.le_of_lt lt1,same1.1,AllBare.push (by rw[same1.2];exact e0.bare) rfl,fun b ob e=>Heap.get?_push_of_some _ (kp1 b ob e),fun A' hr' hfr'=>?_⟩
  have Y:=h cdv A' outer s t.H (hr'.deeper _)
  have IA:Inv (cxG (gP Pg w K mg base G hK hw N qual (defScope st) f cdv A' outer s t.H).X ⟨s1,t,B,s,[]⟩) [] (L2.start N vs) t.H s1:=
   ⟨⟨I0.ok.mod,I0.ok.kind,I0.ok.glob,I0.ok.blt,I0.ok.above,I0.ok.inj,I0.ok.has,I0.ok.cab,(fun e=>by cases e),Around.frames_deeper hfr',I0.ok.stk,I0.ok.exf,I0.ok.bs,I0.ok.bsz,I0.ok.noex,I0.ok.exfs,I0.ok.funs,I0.ok.frf⟩,I0.os,I0.bare,I0.base,I0.loc,I0.cell,I0.free,I0.freeC,(fun p hp=>by cases hp),I0.hok,I0.len⟩
  have own:=sleep_own (P:=gP Pg w K mg base G hK hw N qual (defScope st) f cdv A' outer s t.H) (fun _=>rfl) IA rfl (fun p hp=>by cases hp) (fun q hq=>by cases hq)
  have lok:=sleep_ok (P:=gP Pg w K mg base G hK hw N qual (defScope st) f cdv A' outer s t.H) IA
  refine⟨gP Pg w K mg base G hK hw N qual (defScope st) f cdv A' outer s t.H,sleepL (gP Pg w K mg base G hK hw N qual (defScope st) f cdv A' outer s t.H).X [] s1,rfl,rfl,⟨rfl,rfl,rfl,rfl,rfl,rfl⟩,⟨rfl,rfl⟩,fun _=>rfl,fun p hp=>⟨Heap.get?_push_of_some _ (lok.get p hp),(own p hp).1,Nat.ne_of_lt (Heap.lt_size (lok.get p hp))⟩,rfl,fun p hp=>(own p hp).2.1,fun g Aq ee es0 hsz hk hpn wg io fr hid=>⟨rfl,?_⟩⟩
  have hsz0:(cutGh (gP Pg w K mg base G hK hw N qual (defScope st) f cdv A' outer s t.H).n0 g.s).heap.objs.size=s.heap.objs.size:=cut_size hsz
  have Ig:Inv (cxG (gP Pg w K mg base G hK hw N qual (defScope st) f cdv A' outer s t.H).X g) [] (L2.start N vs) g.t.H g.s:=by
   refine wake_inv ⟨rfl,rfl⟩ IA.ok.frames lok rfl IA ee es0 hsz hk fun p hp=>?_
   rw[hpn] at hp
   obtain⟨q1,q2,q3,q4,q5⟩:=of_restL hp
   refine⟨q1,q2,q3,fun hm=>?_,q5⟩
   obtain⟨_,o',ho,_⟩:=IA.ok.funs.mem hm
   exact absurd (Nat.lt_of_lt_of_le (Heap.lt_size ho) q4) (Nat.lt_irrefl _)
  refine sg_funcS fun J=>?_
  have at_:GAt (gP Pg w K mg base G hK hw N qual (defScope st) f cdv A' outer s t.H) [] (fun _=>False) g (ds.map (fun d=>some (.val d))++List.replicate (N.length - ds.length) none) o g.s (L2.start N vs) g.B g.t:=
   ⟨Ig,fun b q=>q.elim id False.elim,wg,slo_start (rl.mono fr io),Le.refl _,(fun _ _ _ hq=>by cases hq),by rw[es0];exact hsz0,(fun _ hq=>by cases hq),fun _ h=>h.elim⟩
  have sc:SgC (gP Pg w K mg base G hK hw N qual (defScope st) f cdv A' outer s t.H) A' (.func (defBody st) (envOfC qual (defScope st) s.heap.objs.size f cdv)) [] id:=⟨over_func,rfl,rfl,rfl⟩
  have run:=Y.run A' (.func (defBody st) (envOfC qual (defScope st) s.heap.objs.size f cdv)) [] (fun f=>.pure (.done (.ret (match f with
   | .ret v=>v
   | _=>.none)))) J id id [] oE g g.s [] (fun _=>False) _ o (L2.start N vs) g.B g.t sc (fun _ h=>h.elim) at_
  rw[List.append_nil] at run
  unfold ymf at hm
  revert run hm
  cases em:mb (ds.map (fun d=>some (.val d))++List.replicate (N.length - ds.length) none) o with
  | mk ys res=>
  intro hm run
  have fin:∀{g':Gh} {s':Shared} {t':S3} {ip:List (Addr×Obj)} {z:L2.St} {B':Addr→Prop},Inv (cxG (gP Pg w K mg base G hK hw N qual (defScope st) f cdv A' outer s t.H).X g') ip z t'.H s'→(∀b,g'.B b→B' b)→Wd G B' oE t'→Le g'.B g'.t t'→
    Sg (model Pg w) A' (ZG (gP Pg w K mg base G hK hw N qual (defScope st) f cdv A' outer s t.H) nb A' [] oE g') (.func (defBody st) (envOfC qual (defScope st) s.heap.objs.size f cdv)) (.pure (.done (.ret .none))) [] s':=fun {g' s' t' ip z B'} I sb wd' le=>
   sg_end (.ok (.ret .none)) ⟨_,rfl,.inl rfl,ip,z,B',t',I,sb,wd',le⟩
  cases res with
  | nx u' o'=>
   cases hm
   refine run rfl fun g' s' t' fl i1 f1 n1 q=>?_
   obtain⟨rfl,z',B',a'⟩:=q
   exact fin a'.inv (fun b q=>a'.sub b (.inl q)) a'.wd a'.le
  | rt wv o'=>
   cases wv with
   | val d=>
    cases d with
    | non=>
     cases hm
     refine run rfl fun g' s' t' fl i1 f1 n1 q=>?_
     obtain⟨_,rfl,ip',z',B',I,sb,wd',le⟩:=q
     exact fin I sb wd' le
    | _=>cases hm
   | _=>cases hm
  | _=>cases hm
 exact⟨_,_,_,_,rfl,made _ _ _ _ rfl rfl rfl fun h=>Heap.get?_push_size _ rfl⟩
end
end M3
namespace M3
open PySem PySem.Spec PyProof.Rows L2 GenW
def gT:Bool→S3→S3
 | true,t=>⟨noIo,t.F,t.H⟩
 | false,t=>t
def gO:Bool→Store→Store
 | true,_=>[]
 | false,o=>o
def gN:Bool→Store→Store→Store
 | true,st,_=>st
 | false,_,o1=>o1
theorem gT_F (b:Bool) (t:S3):(gT b t).F=t.F:=by cases b <;> rfl
theorem gT_H (b:Bool) (t:S3):(gT b t).H=t.H:=by cases b <;> rfl
structure ConG (X:Cx) (G:G3) (P:P3) (pv:Bool) (pins:List (Addr×Obj)) (z:L2.St) (a:Addr) (gi:Nat) (go:Obj) (xs:List (D×Store)) (oE:Store) (st:Store) (B:Addr→Prop) (t:S3) (s:Shared) (L:List (Addr×Obj)) (N:Addr→Prop) (tz:S3) (o:Store) (gs:GenState):Prop where
 inv:Inv X pins z t.H s
 wd:Wd G B st t
 ga:t.H a=some (zx a go)∧B a∧L.lookup a=none
 hL:∀p∈L,t.H p.1=some (zx p.1 p.2)∧B p.1
 asl:Asleep P (!pv) X.A.in1 L N o tz xs oE gs
 gen:s.gens[gi]?=some gs
 isg:∀h:Heap,h.get? a=some go→h.IsGen a gi
 io:IoLe tz.io (gT pv t).io
 fr:Same tz.F t.F
 hid:∀b,N b→(!pv)=true∧B b∧L.lookup b=none∧t.H b=tz.H b
 sto:o=gO pv st
 ex:ExOk X pins (L.map Prod.fst)
 sz:P.n0≤s.heap.objs.size
 prv:pv=true→∀x∈xs,x.2=[]
 nz:∀b,N b→∃ob,t.H b=some (zx b ob)
structure Stays (B:Addr→Prop) (L:List (Addr×Obj)) (t:S3) (B':Addr→Prop) (t':S3):Prop where
 io:IoLe t.io t'.io
 fr:Same t.F t'.F
 hid:∀b,B b→L.lookup b=none→B' b∧t'.H b=t.H b
section
variable {X:Cx} {G:G3} {P:P3} {pv:Bool} {pins:List (Addr×Obj)} {z:L2.St} {a:Addr} {gi:Nat} {go:Obj} {xs:List (D×Store)} {oE:Store} {st:Store} {B:Addr→Prop} {t:S3} {s:Shared} {L:List (Addr×Obj)} {N:Addr→Prop} {tz:S3} {o:Store} {gs:GenState}
theorem next_con {Q:Option Value→Shared→Prop} {Er:Value→Shared→Prop} (E:Eats X P) (hG:P.G=G) (hh:X.A.handled=none) (hroom:X.A.depth<recursionLimit) (C:ConG X G P pv pins z a gi go xs oE st B t s L N tz o gs) (yo:∀b,P.n0≤b→¬butL B L b→b∈X.ex∨X.s_0.heap.objs.size≤b)
  (hE:xs=[]→∀(s':Shared) (B':Addr→Prop) (t':S3),Inv X pins z t'.H s'→Wd G B' (gN pv st oE) t'→Stays B L t B' t'→Q none s')
  (hI:∀d o1 rest,xs=(d,o1) :: rest→∀v s' B' t' L' N' gs' tz',ConG X G P pv pins z a gi go rest oE (gN pv st o1) B' t' s' L' N' tz' (gO pv o1) gs'→(∃x,Rep G.R t'.F t'.io d x∧RelV x v)→Stays B L t B' t'→isSlp gs'=true→(∀b,B b→L.lookup b=none→L'.lookup b=none)→Q (some v) s') :
  wpAny (model X.prog X.w) X.A (pyNext (.ref a)) Q Er s:=by
 have wc:=wd_clean C.wd fun p hp=>(C.hL p hp).2
 have Ic:=inv_clean (F:=t.F) C.inv (fun p hp=>(C.hL p hp).1) C.ex
 have there:∀{b:Addr} {ob:Obj},t.H b=some (zx b ob)→s.heap.get? b=some ob:=fun {b ob} e=>(C.inv.hok b _ e).1
 have apart:∀p∈L,p.1≠X.env.locals∧∀q∈X.pn++pins,q.1≠p.1:=fun p hp=>by
  refine⟨fun e=>?_,fun q hq e=>?_⟩
  ·have:=C.inv.free
   rw[←e,(C.hL p hp).1] at this
   cases this
  ·have:=(C.inv.pin q hq).2.1
   rw[e,(C.hL p hp).1] at this
   cases this
 have after:∀(s':Shared) (B1:Addr→Prop) (t1 t2:S3) (B2:Addr→Prop) (d:D) (o1:Store) (rest:List (D×Store)) (v:Value) (L1:List (Addr×Obj)) (N1:Addr→Prop) (gs1:GenState) (gB:Addr→Prop) (gt:S3),xs=(d,o1) :: rest→NextG X P (!pv) pins z gi gB gt d o1 rest oE v s' B1 t1 L1 N1 gs1→
   t2.F=t1.F→t2.H=t1.H→Wd G B2 (gN pv st o1) t2→Stays B L t B2 t2→(∀b,N1 b→B2 b)→IoLe t1.io (gT pv t2).io→(∃x,Rep G.R t2.F t2.io d x∧RelV x v)→Q (some v) s':=by
  intro s' B1 t1 t2 B2 d o1 rest v L1 N1 gs1 gB gt hx n eF eH w2 S hN hio val
  have none2:∀p∈L1,t2.H p.1=none:=fun p hp=>by rw[eH];exact(n.own p hp).2
  obtain⟨w3,l3⟩:=wd_withL w2 none2
  have ga2:t2.H a=some (zx a go):=by rw[(S.hid a C.ga.2.1 C.ga.2.2).2];exact C.ga.1
  have out:∀{b:Addr} {u:HO},t2.H b=some u→L1.lookup b=none:=fun {b u} e=>by
   cases q:L1.lookup b with
   | none=>rfl
   | some ob=>rw[none2 _ (lookL q)] at e;cases e
  have keepH:∀{b:Addr} {u:HO},t2.H b=some u→withL t2.H L1 b=some u:=fun {b u} e=>by unfold withL;rw[out e];exact e
  have ho:o1=gO pv o1:=by
   cases pv with
   | true=>exact C.prv rfl (d,o1) (by rw[hx];exact List.mem_cons_self)
   | false=>rfl
  refine hI d o1 rest hx v s' (orL B2 L1) ⟨t2.io,t2.F,withL t2.H L1⟩ L1 N1 gs1 t1 ⟨?_,w3,⟨keepH ga2,.inl (S.hid a C.ga.2.1 C.ga.2.2).1,out ga2⟩,fun p hp=>⟨?_,.inr (inL hp)⟩,ho▸n.asl,n.gen,C.isg,?_,fun b u e=>eF▸e,fun b hb=>?_,?_,n.ex,n.sz,(fun e x hm=>C.prv e x (by rw[hx];exact List.mem_cons_of_mem _ hm)),fun b h=>let ⟨ob,e⟩:=n.nz b h;⟨ob,keepH (by rw[eH];exact e)⟩⟩ val ⟨S.io,S.fr,fun b h1 h2=>?_⟩ n.slp fun b h1 h2=>?_
  rotate_left 6
  ·obtain⟨_,u,e,_⟩:=w2.hid b (S.hid b h1 h2).1
   exact out e
  ·have:=n.inv
   rw[←eH] at this
   exact inv_withL this none2 (fun p hp=>(n.own p hp).1) n.ex
  ·obtain⟨ob,q⟩:=inL hp
   have e1:=(n.own _ (lookL q)).1
   have e2:=(n.own p hp).1
   rw[show ((p.1,ob):Addr×Obj).1=p.1 from rfl,e2] at e1
   show withL t2.H L1 p.1=_
   unfold withL
   rw[q]
   cases e1
   rfl
  ·cases pv <;> exact hio
  ·obtain⟨_,u,e,_⟩:=w2.hid b (hN b hb)
   exact⟨n.nest b hb,.inl (hN b hb),out e,(keepH e).trans (by rw[←eH];exact e.symm)⟩
  ·cases pv <;> rfl
  ·obtain⟨y1,y2⟩:=S.hid b h1 h2
   obtain⟨_,u,e,_⟩:=w2.hid b y1
   exact⟨.inl y1,(keepH e).trans (e.symm.trans y2)⟩
 cases pv with
 | true=>
  have wg:=wd_priv wc
  refine step_gen (nb:=!true) (B:=bigB t.F (cleanL t.F t.H L)) (t:=⟨noIo,t.F,cleanL t.F t.H L⟩) (N:=N) (o:=o) (tz:=tz) E Ic hh hroom (C.isg _ (there C.ga.1)) C.gen C.asl (by rw[hG,C.sto];exact wg) C.io C.fr (fun b hb=>by cases (C.hid b hb).1) (fun p hp=>⟨there (C.hL p hp).1,clean_L hp⟩) apart (fun b h1 h2=>yo b h1 fun h=>h2 (big_of wc h)) C.sz (fun hx s' B1 t1 I1 sub w1 le=>?_) fun d o1 rest hx v s' B1 t1 L1 N1 gs1 n=>?_
  ·rw[hG] at w1
   obtain⟨w2,l2⟩:=wd_back wc w1 sub le
   exact hE hx s' (butL B L) ⟨t.io,t1.F,t1.H⟩ I1 w2 ⟨IoLe.refl _,le.fr,fun b h1 h2=>⟨⟨h1,h2⟩,(l2.hid b ⟨h1,h2⟩).trans (clean_hid C.wd ⟨h1,h2⟩)⟩⟩
  ·have w1:=n.wd
   rw[hG] at w1
   obtain⟨w2,l2⟩:=wd_back wc w1 (fun b h=>n.sub b (.inl h)) n.le
   have eo:o1=[]:=C.prv rfl (d,o1) (by rw[hx];exact List.mem_cons_self)
   have nio:IoLe t1.io noIo:=fun k y e=>by
    have:=n.wd.dom k y e
    rw[eo] at this
    exact absurd this (Nat.not_lt_zero _)
   refine after s' B1 t1 ⟨t.io,t1.F,t1.H⟩ (butL B L) d o1 rest v L1 N1 gs1 _ _ hx n rfl rfl w2 ⟨IoLe.refl _,n.le.fr,fun b h1 h2=>⟨⟨h1,h2⟩,(l2.hid b ⟨h1,h2⟩).trans (clean_hid C.wd ⟨h1,h2⟩)⟩⟩ (fun b hb=>by cases n.nest b hb) nio ?_
   obtain⟨x,r,rv⟩:=n.val
   rw[hG] at r
   exact⟨x,Rep.mono (Same.refl _) (fun k y e=>by have:=nio k y e;cases this) r,rv⟩
 | false=>
  refine step_gen (nb:=!false) (B:=butL B L) (t:=⟨t.io,t.F,cleanL t.F t.H L⟩) (N:=N) (o:=o) (tz:=tz) E Ic hh hroom (C.isg _ (there C.ga.1)) C.gen C.asl (by rw[hG,C.sto];exact wc) C.io C.fr (fun b hb=>?_) (fun p hp=>⟨there (C.hL p hp).1,clean_L hp⟩) apart yo C.sz (fun hx s' B1 t1 I1 sub w1 le=>?_) fun d o1 rest hx v s' B1 t1 L1 N1 gs1 n=>?_
  ·obtain⟨_,h1,h2,h3⟩:=C.hid b hb
   exact⟨⟨h1,h2⟩,(clean_hid C.wd ⟨h1,h2⟩).trans h3⟩
  ·rw[hG] at w1
   exact hE hx s' B1 t1 I1 w1 ⟨le.io,le.fr,fun b h1 h2=>⟨sub b ⟨h1,h2⟩,(le.hid b ⟨h1,h2⟩).trans (clean_hid C.wd ⟨h1,h2⟩)⟩⟩
  ·have w1:=n.wd
   rw[hG] at w1
   have val:=n.val
   rw[hG] at val
   exact after s' B1 t1 t1 B1 d o1 rest v L1 N1 gs1 _ _ hx n rfl rfl w1 ⟨n.le.io,n.le.fr,fun b h1 h2=>⟨n.sub b (.inl ⟨h1,h2⟩),(n.le.hid b ⟨h1,h2⟩).trans (clean_hid C.wd ⟨h1,h2⟩)⟩⟩ (fun b hb=>n.sub b (.inr hb)) (IoLe.refl _) val
end
end M3
namespace M3
open PySem PySem.Spec PyProof.Rows L2 GenW
mutual
def D.noR:D→Bool
 | .ref _=>false
 | .fn _ _=>false
 | .lst xs=>D.noRs xs
 | .ro xs=>D.noRs xs
 | .tup xs=>D.noRs xs
 | .ctup xs=>D.noRs xs
 | .dict _ us=>D.noRs us
 | .dd ks us=>D.noRs ks && D.noRs us
 | _=>true
def D.noRs:List D→Bool
 | []=>true
 | x :: xs=>x.noR && D.noRs xs
end
section
variable {K:KW} {F:Hp} {io io':Io}
mutual
theorem Rep.noio:∀{d:D} {v:V},d.noR=true→Rep K F io d v→Rep K F io' d v
 | .non,_,_,.non=>.non
 | .bl _,_,_,.bl=>.bl
 | .int _,_,_,.int=>.int
 | .str _,_,_,.str=>.str
 | .ty _,_,_,.ty=>.ty
 | .tup xs,_,q,.tup s r=>.tup s (RepL.noio (show D.noRs xs=true from q) r)
 | .ctup xs,_,q,.ctup s r=>.ctup s (RepL.noio (show D.noRs xs=true from q) r)
 | .lst xs,_,q,.lst e r=>.lst e (RepL.noio (show D.noRs xs=true from q) r)
 | .ro xs,_,q,.ro s r=>.ro s (RepL.noio (show D.noRs xs=true from q) r)
 | .dict _ us,_,q,.dict e z r=>.dict e z (RepL.noio (show D.noRs us=true from q) r)
 | .dd ks us,_,q,.dd e k t vs r=>by
  have q:(D.noRs ks && D.noRs us)=true:=q
  rw[Bool.and_eq_true] at q
  exact .dd e (RepL.noio q.1 k) t vs (RepL.noio q.2 r)
 | .ref _,_,q,.ref _=>by cases q
 | .fn _ _,_,q,.fn _ _ _ _ _=>by cases q
theorem RepL.noio:∀{d:List D} {v:List V},D.noRs d=true→RepL K F io d v→RepL K F io' d v
 | _,_,_,.nil=>.nil
 | x :: xs,_,q,.cons r t=>by
  have q:(x.noR && D.noRs xs)=true:=q
  rw[Bool.and_eq_true] at q
  exact .cons (Rep.noio q.1 r) (RepL.noio q.2 t)
end
end
abbrev GEM:=Sl3→Store→Option (List (D×Store)×Store×Store)
structure IGen (P:P3) (k:Nat) (e:Expr) (pv:Bool) (m:GEM):Prop where
 prv:∀u st xs oE st',m u st=some (xs,oE,st')→pv=true→∀x∈xs,x.2=[]
 run:∀(pins:List (Addr×Obj)) (s:Shared) (z:L2.St) (t:S3) (st:Store) (u:Sl3) (B0 B:Addr→Prop) (xs:List (D×Store)) (oE st':Store),Inv P.X pins z t.H s→Wd P.G B st t→Slo P.G P.hx B0 B t u z→m u st=some (xs,oE,st')→
  wpAny (model P.X.prog P.X.w) P.X.A (eval e P.X.env) (fun v s'=>∃a gi go gs t' sc,v=.ref a∧Le B t t'∧Wd P.G B st' t'∧Inv P.X pins z t'.H sc∧MadeG P.X.prog P.X.w P.X.K P.X.mg P.X.base P.G (!pv) k P.X.stack sc (gT pv t') (gO pv st') xs oE a gi go gs s') P.X.xe s
structure CalG (Pg:Program) (w:World) (K:PySem.W.Frag) (mg:Str→Option Value) (base:Heap) (G:G3) (nb:Bool) (k:Nat) (x:Str) (n:Nat) (m:List D→Store→Option (List (D×Store)×Store)):Prop where
 ex:∃f fd ps,mg x=some (.ref f)∧PySem.W.keepIn K (.ref f)=true∧Binds K fd ps []∧ps.length=n∧GnOk Pg w K mg base G nb k f fd ps m
def gMade (pv:Bool) (m:List D→Store→Option (List (D×Store)×Store)) (ds:List D) (st:Store):Option (List (D×Store)×Store×Store):=
 if pv=true∧D.noRs ds=false then none else match m ds (gO pv st) with
  | some (xs,oE)=>if pv=true∧(xs.all fun x=>x.2.isEmpty)=false then none else some (xs,oE,st)
  | none=>none
theorem gMade_of {pv:Bool} {m:List D→Store→Option (List (D×Store)×Store)} {ds:List D} {st oE st':Store} {xs:List (D×Store)} (h:gMade pv m ds st=some (xs,oE,st')):st'=st∧m ds (gO pv st)=some (xs,oE)∧(pv=true→D.noRs ds=true)∧(pv=true→∀x∈xs,x.2=[]):=by
 unfold gMade at h
 split at h
 ·cases h
 ·rename_i n1
  cases e:m ds (gO pv st) with
  | none=>rw[e] at h;cases h
  | some r=>
   obtain⟨ys,o⟩:=r
   rw[e] at h
   dsimp only at h
   split at h
   ·cases h
   ·rename_i n2
    cases h
    refine⟨rfl,rfl,fun q=>?_,fun q x hx=>?_⟩
    ·cases y:D.noRs ds with
     | true=>rfl
     | false=>exact absurd ⟨q,y⟩ n1
    ·cases y:(xs.all fun x=>x.2.isEmpty) with
     | true=>
      have:=List.all_eq_true.mp y x hx
      exact List.isEmpty_iff.mp this
     | false=>exact absurd ⟨q,y⟩ n2
def gCall (n:Nat) (pv:Bool) (m:List D→Store→Option (List (D×Store)×Store)) (ma:AM):GEM:=fun u st=>match ma u st with
 | .ok ws st'=>(match asDs ws with
  | some ds=>if ds.length=n then gMade pv m ds st' else none
  | none=>none)
 | _=>none
theorem gCall_of {n:Nat} {pv:Bool} {m:List D→Store→Option (List (D×Store)×Store)} {ma:AM} {u:Sl3} {st oE st':Store} {xs:List (D×Store)} (h:gCall n pv m ma u st=some (xs,oE,st')):∃ws st1 ds,ma u st=.ok ws st1∧asDs ws=some ds∧ds.length=n∧gMade pv m ds st1=some (xs,oE,st'):=by
 unfold gCall at h
 cases em:ma u st with
 | err _ _ _=>rw[em] at h;cases h
 | bad=>rw[em] at h;cases h
 | ok ws st1=>
  rw[em] at h
  dsimp only at h
  cases ed:asDs ws with
  | none=>rw[ed] at h;cases h
  | some ds=>
   rw[ed] at h
   dsimp only at h
   split at h
   ·exact⟨ws,st1,ds,rfl,ed,by assumption,h⟩
   ·cases h
section
variable {P:P3} {pos p apos:Pos} {x m:Str} {o e:Expr} {es:List Expr} {k:Nat} {pv:Bool}
theorem ig_of {f:Addr} {fd:FuncData} {ps:List Str} {mg:List D→Store→Option (List (D×Store)×Store)} {pins:List (Addr×Obj)} {s:Shared} {z:L2.St} {t:S3} {st st' oE:Store} {B:Addr→Prop} {ds:List D} {us:List Value} {vs:List V} {xs:List (D×Store)} {E:Value→Shared→Prop} {t0:S3}
  (F:GnOk P.X.prog P.X.w P.X.K P.X.mg P.X.base P.G (!pv) k f fd ps mg) (hr:L2.Room k P.X.A) (hb:Binds P.X.K fd ps []) (hn:ps.length=ds.length) (I:Inv P.X pins z t.H s) (wd:Wd P.G B st t) (r:Vals vs us) (rl:RepL P.G.R t.F t.io ds vs) (l0:Le B t0 t) (h:gMade pv mg ds st=some (xs,oE,st')) :
  wpAny (model P.X.prog P.X.w) P.X.A (call (.ref f) us) (fun v s'=>∃a gi go gs t' sc,v=.ref a∧Le B t0 t'∧Wd P.G B st' t'∧Inv P.X pins z t'.H sc∧MadeG P.X.prog P.X.w P.X.K P.X.mg P.X.base P.G (!pv) k P.X.stack sc (gT pv t') (gO pv st') xs oE a gi go gs s') E s:=by
 obtain⟨rfl,hm,hno,_⟩:=gMade_of h
 have hl:us.length=ps.length:=by rw[←r.length,←rl.length,hn]
 have bt:BindsTo s fd ⟨us,[]⟩ (ps.zip us):=by
  have:=hb s us I.kIn (by simpa using hl)
  simpa using this
 have hlv:vs.length=ps.length:=by rw[←rl.length,hn]
 have run:codeAny (model P.X.prog P.X.w) P.X.A (.call (.ref f) ⟨us,[]⟩) (fun r s'=>∃a gi go gs,r=.ok (.ret (.ref a))∧MadeG P.X.prog P.X.w P.X.K P.X.mg P.X.base P.G (!pv) k P.X.stack s (gT pv t) (gO pv st') xs oE a gi go gs s') s:=by
  cases pv with
  | true=>exact F.run P.X.A P.X.stack s (gT true t) (bigB t.F t.H) [] ⟨us,[]⟩ us vs ds xs oE hr I.env0 bt r hlv (RepL.noio (hno rfl) rl) (wd_priv wd) hm
  | false=>exact F.run P.X.A P.X.stack s t B st' ⟨us,[]⟩ us vs ds xs oE hr I.env0 bt r hlv rl wd hm
 refine wpAny_call (codeAny_mono run fun r s' hq=>?_)
 obtain⟨a,gi,go,gs,rfl,hM⟩:=hq
 exact⟨a,gi,go,gs,t,s,rfl,l0,wd,I,hM⟩
theorem ig_call {n:Nat} {mg:List D→Store→Option (List (D×Store)×Store)} {ma:AM} (c:CalG P.X.prog P.X.w P.X.K P.X.mg P.X.base P.G (!pv) k x n mg) (hr:L2.Room k P.X.A) (hg:Gl P.X x) (ha:MA P (e :: es) ma)
  (hdb:(x == ("__debug__" : Str))=false:=by decide) (he:starEach (e :: es) P.X.env=(false,eval e P.X.env) :: starEach es P.X.env:=by rfl) (hpl:(backTo pos (starEach es P.X.env)).any (·.1)=false:=by rfl) :
  IGen P k (.Call (.Name x p) (e :: es) [] pos) pv (gCall n pv mg ma):=by
 obtain⟨f,fd,ps,hm,hkp,hb,hn,F⟩:=c.ex
 refine⟨fun u st xs oE st' h=>?_,fun pins s z t st u B0 B xs oE st' I wd sl h=>?_⟩
 ·obtain⟨ws,st1,ds,_,_,_,h⟩:=gCall_of h
  exact(gMade_of h).2.2.2
 ·obtain⟨ws,st1,ds,em,ed,hl,h⟩:=gCall_of h
  refine wpAny_Call_Name_kw (ld_glob I hg hm (PySem.W.callWith_K (h₀:=P.X.base) I.ok.mod.kin hkp (thn (ha.pa.run pos pins s z t.H (fun vs H'=>∃t',t'.H=H'∧Le B t t'∧Wd P.G B st1 t'∧RepWs P.G P.hx B t' ws vs) I ⟨B0,B,t,st,u,rfl,wd,sl,?_⟩) fun us s1 q=>?_) he hpl) hdb)
  ·rw[em]
   exact fun t' vs l w r=>⟨t',rfl,l,w,r⟩
  ·obtain⟨vs,H1,I1,r,t',rfl,l,w,rw'⟩:=q
   exact⟨I1.kIn,ig_of F hr hb (by rw[hn,hl]) I1 w r (asDs_ok rw' ed) l h⟩
end
theorem inv_lull {X:Cx} {pins:List (Addr×Obj)} {z:L2.St} {H:Hp} {s:Shared} (I:Inv X pins z H s):Inv X pins z H (lull s):=
 ⟨I.ok,I.os,bare_lull I.bare,I.base,I.loc,I.cell,I.free,I.freeC,I.pin,I.hok,I.len⟩
theorem inv_dozed {X:Cx} {pins:List (Addr×Obj)} {z:L2.St} {H:Hp} {s u s':Shared} (d:Dozed s u s') (hb:AllBare s.gens) (I:Inv X pins z H u):Inv X pins z H s':=by
 have e:=d.heap
 refine⟨I.ok,d.os.trans I.os,d.bare hb I.bare,?_,?_,?_,I.free,I.freeC,?_,?_,I.len⟩ <;> rw[e]
 ·exact I.base
 ·exact I.loc
 ·exact I.cell
 ·exact I.pin
 ·exact I.hok
section
variable {X:Cx} {G:G3} {P:P3} {pv:Bool} {pins:List (Addr×Obj)} {z:L2.St} {a:Addr} {gi:Nat} {go:Obj} {xs:List (D×Store)} {oE:Store} {st:Store} {B:Addr→Prop} {t:S3} {s:Shared} {L:List (Addr×Obj)} {N:Addr→Prop} {tz:S3} {o:Store} {gs:GenState}
theorem ConG.go_on {pins':List (Addr×Obj)} {z':L2.St} {st':Store} {B':Addr→Prop} {t':S3} {s':Shared} (C:ConG X G P pv pins z a gi go xs oE st B t s L N tz o gs) (I:Inv X pins' z' t'.H s') (wd:Wd G B' st' t') (hg:s'.gens[gi]?=some gs) (io:IoLe t.io t'.io) (fr:Same t.F t'.F) (hid:∀b,B b→(∃p ob,t.H b=some (zx p ob))→B' b∧t'.H b=t.H b) (sto:gO pv st'=gO pv st)
  (ex:ExOk X pins' (L.map Prod.fst)) (sz:P.n0≤s'.heap.objs.size):ConG X G P pv pins' z' a gi go xs oE st' B' t' s' L N tz o gs:=by
 obtain⟨g1,g2,g3⟩:=C.ga
 obtain⟨g4,g5⟩:=hid a g2 ⟨_,_,g1⟩
 refine⟨I,wd,⟨g5.trans g1,g4,g3⟩,fun p hp=>?_,C.asl,hg,C.isg,?_,fun b u e=>fr b u (C.fr b u e),fun b hb=>?_,C.sto.trans sto.symm,ex,sz,C.prv,fun b hb=>?_⟩
 ·obtain⟨h1,h2⟩:=C.hL p hp
  obtain⟨h3,h4⟩:=hid p.1 h2 ⟨_,_,h1⟩
  exact⟨h4.trans h1,h3⟩
 ·have q:=C.io
  cases pv with
  | true=>exact q
  | false=>exact q.trans io
 ·obtain⟨h1,h2,h3,h4⟩:=C.hid b hb
  obtain⟨ob,e⟩:=C.nz b hb
  obtain⟨h5,h6⟩:=hid b h2 ⟨_,_,e⟩
  exact⟨h1,h5,h3,h6.trans h4⟩
 ·obtain⟨ob,e⟩:=C.nz b hb
  obtain⟨_,h2,_,_⟩:=C.hid b hb
  exact⟨ob,(hid b h2 ⟨_,_,e⟩).2.trans e⟩
end
end M3
namespace M3
open PySem PySem.Spec PyProof.Rows L2 GenW
def fGen (m:GEM) (pv:Bool):FM:=fun u st=>match m u st with
 | some (xs,oE,st')=>if xs.length<1000000 then .ok (xs.map (·.1)) (gN pv st' oE) else .bad
 | none=>.bad
def noCells (scope:Scope):Bool:=scope.names.all fun y=>match y.2 with
 | .cell=>false
 | .free=>false
 | _=>true
theorem noCells_at {scope:Scope} (h:noCells scope=true):∀y∈scope.names,(y.2 == .cell)=false∧(y.2 == .free)=false:=fun y hy=>by
 have:=List.all_eq_true.mp h y hy
 cases e:y.2 <;> rw[e] at this <;> first | exact⟨rfl,rfl⟩ | cases this
theorem cells_none {ns:List (Str×NameKind)} (h:∀y∈ns,(y.2 == .cell)=false):∀(n:Nat) (acc:List (Str×Addr)),cellsFrom n ns acc=acc:=by
 induction ns with
 | nil=>intro n acc;rfl
 | cons y r ih=>
  intro n acc
  obtain⟨x,k⟩:=y
  have hk:(k == .cell)=false:=h (x,k) List.mem_cons_self
  unfold cellsFrom
  rw[if_neg (by rw[hk];exact Bool.false_ne_true)]
  exact ih (fun y hy=>h y (List.mem_cons_of_mem _ hy)) n acc
theorem clo_none {cells:List (Str×Addr)} {ns:List (Str×NameKind)} (h:∀y∈ns,(y.2 == .free)=false):∀(acc:List (Str×Addr)),cloFrom cells ns acc=acc:=by
 induction ns with
 | nil=>intro acc;rfl
 | cons y r ih=>
  intro acc
  obtain⟨x,k⟩:=y
  have hk:(k == .free)=false:=h (x,k) List.mem_cons_self
  unfold cloFrom
  rw[if_neg (by rw[hk];exact Bool.false_ne_true)]
  exact ih (fun y hy=>h y (List.mem_cons_of_mem _ hy)) acc
section
variable {P:P3} {pos:Pos}
theorem grow_in {G:G3} {B:Addr→Prop} {st:Store} {t:S3} {p:Addr} {vs us:List V} (w:Wd G B st t) (hB:B p) (h:t.H p=some (.lst vs)):Wd G B st ⟨t.io,t.F,upd t.H p (.lst us)⟩:=by
 have w1:Wd G (plus (fun b=>B b∧b≠p) p) st t:=w.less fun b q=>q.elim (fun y=>y.1) fun e=>e▸hB
 obtain⟨w2,_⟩:=grow_wd (xs:=[]) (d:=.non) (v:=.non) w1 (fun q=>q.2 rfl) h (.lst us)
 refine w2.less fun b q=>?_
 by_cases e:b=p
 ·exact .inr e
 ·exact .inl ⟨q,e⟩
theorem slo_none {G:G3} {X:Hex} {B0 B:Addr→Prop} {t:S3} {z:L2.St}:Slo G X B0 B t (List.replicate z.length none) z:=
 ⟨by simp,(fun _=>0),(fun i w e=>by
  rw[List.getElem?_replicate] at e
  split at e <;> cases e),(fun i j w w' _ _ e _=>by
  rw[List.getElem?_replicate] at e
  split at e <;> cases e)⟩
theorem between {n m b:Nat} (h:n≤m):b∈List.range' n (m - n)↔n≤b∧b<m:=by
 rw[List.mem_range'_1]
 omega
theorem withL_at {H:Hp} {L:List (Addr×Obj)} {h:Heap} (hg:∀p∈L,h.get? p.1=some p.2):∀p∈L,withL H L p.1=some (zx p.1 p.2):=fun p hp=>by
 obtain⟨ob,q⟩:=inL hp
 have e1:=hg _ (lookL q)
 have e2:=hg p hp
 rw[show ((p.1,ob):Addr×Obj).1=p.1 from rfl,e2] at e1
 unfold withL
 rw[q]
 cases e1
 rfl
theorem gen_core {k i:Nat} {tg elt iter:Expr} {scope:Scope} {own:List (Str×Nat)} {m:GEM} {pv:Bool} {gs:List Nat} {pos':Pos} {pins:List (Addr×Obj)} {s:Shared} {z:L2.St} {Q:VK} {B0 B:Addr→Prop} {t:S3} {st:Store} {u:Sl3} {use:Option (Value→Sem Unit)} {Qf:Value→Shared→Prop}
  (hA:P.X.A.handled=none) (hN:P.X.N.Nodup) (hr:L2.Room k P.X.A.in1) (hd:P.X.A.depth<recursionLimit) (hi:IGen P k iter pv m) (ok:BlkOk P.X.N P.X.env.scope scope own) (hcl:noCells scope=true) (hiN:i<P.X.N.length)
  (hg:∀(s:Shared) (H:Hp) (C:Addr) (cl:List (Str×Addr)) (fp:List Addr),CoolS P.X.A s H (frs P.X.stack) fp→MG (P.blk s H scope C cl fp) tg (gName3 i) gs)
  (he:∀(s:Shared) (H:Hp) (C:Addr) (cl:List (Str×Addr)) (fp:List Addr),CoolS P.X.A s H (frs P.X.stack) fp→ME (P.blk s H scope C cl fp) elt (eVar i)) (hgs:∀j∈gs,j∈own.map (·.2)) (hs:∀x,foldedSetIterable iter P.X.env x=pure x)
  (I:Inv P.X pins z t.H s) (wd:Wd P.G B st t) (sl:Slo P.G P.hx B0 B t u z) (h:PostF P.G B (fun c d H=>P.wx c d z H) t Q (fGen m pv u st))
  (out:∀D C s' m H',Inv P.X pins z H' s'→Q (.ref D) H'→s'.heap.Ns C m→FpOk P.X pins H' C→compPost (model P.X.prog P.X.w) P.X.A P.X.xe use Qf (.ref D) C (.ok .next) s') :
  wpAny (model P.X.prog P.X.w) P.X.A (comprehension (.ListComp elt [⟨tg,iter,[],0⟩] scope pos) scope P.X.env pos' (newList []) false (eval iter P.X.env) use) Qf P.X.xe s:=by
 unfold fGen at h
 cases em:m u st with
 | none=>rw[em] at h;exact h.elim
 | some r=>
 obtain⟨xs,oE,st'⟩:=r
 rw[em] at h
 dsimp only at h
 split at h
 rotate_left
 ·exact h.elim
 rename_i hlen
 refine wpAny_comprehension_free (use:=use) rfl hs (closure_ok fun y hy e=>I.ok.has _ (ok.free y hy e)) ok.kind (fun y hy e=>(ok.uniq y hy).trans (congrArg some e)) ?_
 refine thn (hi.run pins s z t st u B0 B xs oE st' I wd sl em) ?_
 rintro v s1 ⟨a,gi,go,gs0,t1,sc,rfl,l1,wd1,Ic,hM⟩
 refine wpAny_pyIter_gen (hM.gen _ hM.obj) ?_
 refine wpAny_newObj_type (newEnv_comp ?_) (Nat.zero_le _)
 have I1:Inv P.X pins z t1.H s1:=Ic.call' (ch:=[]) hM.os (Un.kept hM.keep) (Ic.hok.kept hM.keep) hM.bare fun b hb=>by cases hb
 have laid:Inv P.X pins z (upd t1.H s1.heap.objs.size (.lst [])) (laidL s1):=I1.laid (t':=s1.toks) (fun b o e=>Heap.get?_push_of_some _ e) (Nat.le_refl _) ⟨Nat.zero_le _,[],0,.nil,Heap.get?_push_size _ rfl⟩
 have lt1:∀{b:Addr} {ob:Obj},s1.heap.get? b=some ob→b<s1.heap.objs.size:=fun e=>Heap.lt_size e
 have nD:sc.heap.objs.size≤s1.heap.objs.size:=Nat.le_trans hM.big (Nat.le_of_lt (lt1 hM.obj))
 have fpm:∀{b:Addr},b∈List.range' sc.heap.objs.size (s1.heap.objs.size - sc.heap.objs.size)↔sc.heap.objs.size≤b∧b<s1.heap.objs.size:=fun {b}=>between nD
 obtain⟨fp,hfp⟩:∃fp,fp=List.range' sc.heap.objs.size (s1.heap.objs.size - sc.heap.objs.size):=⟨_,rfl⟩
 rw[←hfp] at fpm
 have neD:∀{b:Addr} {ob:Obj},s1.heap.get? b=some ob→b≠s1.heap.objs.size:=fun e=>Nat.ne_of_lt (lt1 e)
 have sizeL:(laidL s1).heap.objs.size=s1.heap.objs.size+1:=Heap.size_push ..
 have feet:∀b∈fp,FpOk P.X pins (upd t1.H s1.heap.objs.size (.lst [])) b∧b<(laidL s1).heap.objs.size:=fun b hb=>by
  obtain⟨h1,h2⟩:=fpm.mp hb
  exact⟨Ic.fpOk h1 ((upd_ne (Nat.ne_of_lt h2)).trans (Ic.hok.fresh h1)),by rw[sizeL];exact Nat.lt_succ_of_lt h2⟩
 have ins:=block_start laid ok hN feet
 obtain⟨Pg,L0,hn,hG,⟨q1,q2,q3,q4,q5,q6⟩,stk,fn,hL0,asl⟩:=hM.wake P.X.A.in1 hr (show P.X.A.in1.frames=some P.X.stack from I.ok.frames)
 have hcells:∀x c,(P.X.blk (laidL s1) (upd t1.H s1.heap.objs.size (.lst [])) scope (blkEnv P.X scope (laidL s1)) fp).env.cells.lookup x=some c→c<Pg.n0:=fun x c e=>by
  have e0:(P.X.blk (laidL s1) (upd t1.H s1.heap.objs.size (.lst [])) scope (blkEnv P.X scope (laidL s1)) fp).env.cells=[]:=by
   show cellsFrom _ scope.names (cloFrom P.X.env.cells scope.names [])=[]
   rw[cells_none fun y hy=>(noCells_at hcl y hy).1,clo_none fun y hy=>(noCells_at hcl y hy).2]
  rw[e0] at e
  cases e
 have EY:Eats (P.X.blk (laidL s1) (upd t1.H s1.heap.objs.size (.lst [])) scope (blkEnv P.X scope (laidL s1)) fp) Pg:=⟨q1,q2,q3,q4,q5,q6,stk,fn,hcells⟩
 have hget1:∀p∈(a,go) :: L0,s1.heap.get? p.1=some p.2:=fun p hp=>by
  exact(List.mem_cons.mp hp).elim (fun e=>by rw[e];exact hM.obj) fun e=>(hL0 p e).1
 have hnone1:∀p∈(a,go) :: L0,t1.H p.1=none:=fun p hp=>by
  refine(List.mem_cons.mp hp).elim (fun e=>by rw[e];exact Ic.hok.fresh hM.big) fun e=>?_
  have:=(hL0 p e).2.1
  rw[gT_H] at this
  exact this
 have hyoung:∀p∈(a,go) :: L0,sc.heap.objs.size≤p.1:=fun p hp=>by
  exact(List.mem_cons.mp hp).elim (fun e=>by rw[e];exact hM.big) fun e=>by rw[←hn];exact asl.young p e
 have hnone:∀p∈(a,go) :: L0,upd t1.H s1.heap.objs.size (.lst []) p.1=none:=fun p hp=>(upd_ne (neD (hget1 p hp))).trans (hnone1 p hp)
 have hget:∀p∈(a,go) :: L0,(blkFirst scope (laidL s1)).heap.get? p.1=some p.2:=fun p hp=>pushCells_keeps _ _ _ _ (Heap.get?_push_of_some _ (Heap.get?_push_of_some _ (hget1 p hp)))
 have exY:ExOk (P.X.blk (laidL s1) (upd t1.H s1.heap.objs.size (.lst [])) scope (blkEnv P.X scope (laidL s1)) fp) [] (((a,go) :: L0).map Prod.fst):=fun b hb=>by
  obtain⟨p,hp,rfl⟩:=List.mem_map.mp hb
  have m:=fpm.mpr ⟨hyoung p hp,lt1 (hget1 p hp)⟩
  exact⟨.inl m,(ins.ok.exf _ m).1,fun x c e=>(ins.ok.exf _ m).2 x c e,fun q hq=>by cases hq⟩
 have IY:=inv_withL ins hnone hget exY
 obtain⟨wdD,lD⟩:=own_wd (ho:=.lst []) wd1 (I1.hok.fresh (Nat.le_refl _))
 obtain⟨wdL,lL⟩:=wd_withL (L:=(a,go) :: L0) wdD hnone
 have nBD:¬B s1.heap.objs.size:=wd1.freshB (I1.hok.fresh (Nat.le_refl _))
 have aL0:L0.lookup a=none:=by
  cases q:L0.lookup a with
  | none=>rfl
  | some ob=>exact absurd rfl (hL0 _ (lookL q)).2.2
 have C0:ConG (P.X.blk (laidL s1) (upd t1.H s1.heap.objs.size (.lst [])) scope (blkEnv P.X scope (laidL s1)) fp) P.G Pg pv [] (L2.wipe z (own.map (·.2))) a gi go xs oE st' (orL (plus B s1.heap.objs.size) ((a,go) :: L0)) ⟨t1.io,t1.F,withL (upd t1.H s1.heap.objs.size (.lst [])) ((a,go) :: L0)⟩ (blkFirst scope (laidL s1)) L0 (fun _=>False) (gT pv t1) (gO pv st') gs0:=by
  refine⟨IY,wdL,⟨withL_at hget _ List.mem_cons_self,.inr (inL (p:=(a,go)) List.mem_cons_self),aL0⟩,fun p hp=>⟨withL_at hget p (List.mem_cons_of_mem _ hp),.inr (inL (List.mem_cons_of_mem _ hp))⟩,asl,hM.st,hM.gen,?_,fun b u e=>?_,fun _ h=>h.elim,rfl,fun b hb=>exY b (List.mem_cons_of_mem _ hb),?_,hi.prv _ _ _ _ _ em,fun _ h=>h.elim⟩
  ·cases pv <;> exact IoLe.refl _
  ·rw[gT_F] at e;exact e
  ·rw[hn]
   have:=ins.sz
   exact Nat.le_trans nD (Nat.le_trans (by rw[show (P.X.blk (laidL s1) (upd t1.H s1.heap.objs.size (.lst [])) scope (blkEnv P.X scope (laidL s1)) fp).s_0=laidL s1 from rfl,sizeL];exact Nat.le_succ _) this)
 have cools:CoolS P.X.A (laidL s1) (upd t1.H s1.heap.objs.size (.lst [])) (frs P.X.stack) fp:=.inl hA
 have gG:=hg (laidL s1) (upd t1.H s1.heap.objs.size (.lst [])) (laidL s1).heap.objs.size (cellsFrom ((laidL s1).heap.objs.size+1) scope.names (cloFrom P.X.env.cells scope.names [])) fp cools
 have gE:=he (laidL s1) (upd t1.H s1.heap.objs.size (.lst [])) (laidL s1).heap.objs.size (cellsFrom ((laidL s1).heap.objs.size+1) scope.names (cloFrom P.X.env.cells scope.names [])) fp cools
 refine(show codeAny _ _ (.compStart (.ListComp elt [⟨tg,iter,[],0⟩] scope pos) 0 (.ref a) (.ref s1.heap.objs.size) (blkEnv P.X scope (laidL s1))) (compPost _ _ _ use Qf (.ref s1.heap.objs.size) (laidL s1).heap.objs.size) (blkFirst scope (laidL s1)) from ?_)
 refine(fun loop=>codeAny_compStart_list loop (wpAny_pyIter_gen (hM.gen _ (hget _ List.mem_cons_self)) loop)) ?_
 have wl:(L2.wipe z (own.map (·.2))).length=P.X.N.length:=(wipe_length _ _).trans I.len
 refine compLoop_any (fun n now=>∃rem st2 B2 t2 Lc N2 tz o2 gs2 acc vs,n=rem.length∧ConG (P.X.blk (laidL s1) (upd t1.H s1.heap.objs.size (.lst [])) scope (blkEnv P.X scope (laidL s1)) fp) P.G Pg pv [] (L2.wipe z (own.map (·.2))) a gi go rem oE st2 B2 t2 now Lc N2 tz o2 gs2∧B2 s1.heap.objs.size∧Lc.lookup s1.heap.objs.size=none∧
  t2.H s1.heap.objs.size=some (.lst vs)∧RepL P.G.R t2.F t2.io acc vs∧acc++rem.map (·.1)=xs.map (·.1)∧IoLe t1.io t2.io∧Same t1.F t2.F∧(∀b,B b→B2 b∧Lc.lookup b=none∧t2.H b=t1.H b)∧(pv=true→st2=st')) (fun n s5=>?_) xs.length ⟨xs,st',orL (plus B s1.heap.objs.size) ((a,go) :: L0),⟨t1.io,t1.F,withL (upd t1.H s1.heap.objs.size (.lst [])) ((a,go) :: L0)⟩,L0,fun _=>False,gT pv t1,gO pv st',gs0,[],[],rfl,C0,.inl (.inr rfl),?_,?_,.nil,rfl,IoLe.refl _,Same.refl _,fun b hb=>?_,fun _=>rfl⟩
 rotate_left
 ·cases q:L0.lookup s1.heap.objs.size with
  | none=>rfl
  | some ob=>exact absurd rfl (neD (hget1 _ (List.mem_cons_of_mem _ (lookL q))))
 ·show withL _ _ _=_
  unfold withL
  have:((a,go) :: L0).lookup s1.heap.objs.size=none:=by
   cases q:((a,go) :: L0).lookup s1.heap.objs.size with
   | none=>rfl
   | some ob=>exact absurd rfl (neD (hget1 _ (lookL q)))
  rw[this]
  exact upd_same
 ·obtain⟨_,ub,eb,_⟩:=wd1.hid b hb
  have nb:b≠s1.heap.objs.size:=fun e=>nBD (e▸hb)
  have e2:upd t1.H s1.heap.objs.size (.lst []) b=some ub:=(upd_ne nb).trans eb
  refine⟨.inl (.inl hb),?_,(lL.hid b (.inl hb)).trans (upd_ne nb)⟩
  cases q:L0.lookup b with
  | none=>rfl
  | some ob=>
   have:=hnone1 _ (List.mem_cons_of_mem _ (lookL q))
   rw[show ((b,ob):Addr×Obj).1=b from rfl,eb] at this
   cases this
 rintro⟨rem,st2,B2,t2,Lc,N2,tz,o2,gs2,acc,vs,rfl,C,hD,hDL,hDv,rl,hcat,io2,fr2,hid2,hst⟩
 refine next_con (X:=P.X.blk (laidL s1) (upd t1.H s1.heap.objs.size (.lst [])) scope (blkEnv P.X scope (laidL s1)) fp) EY hG hA hd C (fun b h1 h2=>?_) (fun hx s' B' t' I' w' S=>?_) fun d o1 rest hx v s6 B' t' L' N' gs' tz' C' val S slp hLL=>?_
 ·rcases Nat.lt_or_ge (b:Nat) s1.heap.objs.size with h | h
  ·exact .inl (fpm.mpr ⟨hn▸h1,h⟩)
  ·refine .inr ?_
   show (laidL s1).heap.objs.size≤b
   rw[sizeL]
   refine Nat.lt_of_le_of_ne h fun e=>h2 ?_
   rw[←e]
   exact⟨hD,hDL⟩
 ·obtain⟨mm,hmm,_⟩:=I'.loc
  have I7:Inv P.X pins z t'.H s':=laid.call' (ch:=fp) I'.os I'.base I'.hok I'.bare fun b hb=>by
   obtain⟨_,f1,_,f3,f4,f5⟩:=(feet b hb).1
   exact⟨f3,f1,f4,f5⟩
  have SD:=S.hid s1.heap.objs.size hD hDL
  refine out s1.heap.objs.size (laidL s1).heap.objs.size s' mm t'.H I7 ?_ hmm (laid.fpOk (Nat.le_refl _) I'.free)
  refine h t' s1.heap.objs.size vs ⟨l1.io.trans (io2.trans S.io),fun b q e=>S.fr b q (fr2 b q (l1.fr b q e)),fun b hb=>?_⟩ ?_ (fun hb=>nBD hb) (SD.2.trans hDv) ?_
  ·obtain⟨x1,x2,x3⟩:=hid2 b hb
   exact(S.hid b x1 x2).2.trans (x3.trans (l1.hid b hb))
  ·have e:gN pv st2 oE=gN pv st' oE:=by
    cases pv with
    | true=>exact hst rfl
    | false=>rfl
   rw[←e]
   refine w'.less fun b q=>?_
   rcases q with q | q
   ·obtain⟨x1,x2,_⟩:=hid2 b q
    exact(S.hid b x1 x2).1
   ·exact q▸SD.1
  ·rw[hx,List.map_nil,List.append_nil] at hcat
   rw[←hcat]
   exact rl.mono S.fr S.io
 ·have SD:=S.hid s1.heap.objs.size hD hDL
  obtain⟨x,rx,rv⟩:=val
  have goo:s6.heap.get? a=some go:=(C'.inv.hok a _ C'.ga.1).1
  obtain⟨go',nm,qn,e1,e2,e3,_⟩:=C'.isg _ goo
  refine L2.go_of e1 e2 e3 (by decide) ?_
  refine wpAny_mono (wpAny_doze (gG.pg.run [] (lull s6) (L2.wipe z (own.map (·.2))) t'.H x v (fun z2 H2=>H2=t'.H∧Slo P.G P.hx B' B' t' ((List.replicate (L2.wipe z (own.map (·.2))).length none).set i (some (.val d))) z2∧L2.wipe z2 (own.map (·.2))=L2.wipe z (own.map (·.2))) (inv_lull C'.inv) rv
   ⟨B',B',t',gN pv st2 o1,List.replicate (L2.wipe z (own.map (·.2))).length none,d,_,rfl,C'.wd,slo_none,rx,rfl,fun z2 sl2 b2=>⟨rfl,sl2,by rw[b2.wipe hgs,lc_ok.wipe_wipe]⟩⟩)) (fun _ s8 q=>?_) fun _ s8 q=>(let ⟨_,_,y⟩:=q;y.elim)
  obtain⟨u8,d8,z8,H8,I8,rfl,sl8,bw8⟩:=q
  have J8:=inv_dozed d8 C'.inv.bare I8
  have g8:=d8.slp gi gs' C'.gen slp
  refine wpAny_pure ?_
  rw[if_pos rfl]
  have ev:eVar i ((List.replicate (L2.wipe z (own.map (·.2))).length none).set i (some (.val d))) (gN pv st2 o1)=.ok (.val d) (gN pv st2 o1):=by
   unfold eVar
   rw[List.getElem?_set_self (by rw[List.length_replicate,wl];exact hiN)]
  refine wpAny_mono (wpAny_doze (gE.pe.run [] (lull s8) z8 t'.H (fun y H9=>∃t9,t9.H=H9∧Le B' t' t9∧Wd P.G B' (gN pv st2 o1) t9∧Rep P.G.R t9.F t9.io d y) (inv_lull J8) ⟨B',B',t',gN pv st2 o1,_,rfl,C'.wd,sl8,?_⟩)) (fun v9 s9 q=>?_) fun _ s9 q=>(let ⟨_,_,y⟩:=q;y.elim)
  ·rw[ev]
   exact fun t9 y l w r=>⟨t9,rfl,l,w,r⟩
  obtain⟨u9,d9,y,H9,I9,ry,t9,rfl,l9,w9,r9⟩:=q
  have J9:=inv_dozed d9 J8.bare I9
  have g9:=d9.slp gi gs' g8 slp
  have D9:t9.H s1.heap.objs.size=some (.lst vs):=(l9.hid _ SD.1).trans (SD.2.trans hDv)
  have rl9:RepL P.G.R t9.F t9.io acc vs:=(rl.mono S.fr S.io).mono l9.fr l9.io
  have hacc:vs.length<sizeLine:=by
   have e:=congrArg List.length hcat
   rw[List.length_append,List.length_map,List.length_map] at e
   have e4:=rl9.length
   exact szl (by omega)
  refine wpAny_mono (wpAny_doze (app_ok (X:=P.X.blk (laidL s1) (upd t1.H s1.heap.objs.size (.lst [])) scope (blkEnv P.X scope (laidL s1)) fp) (Q:=fun _ sa=>Inv (P.X.blk (laidL s1) (upd t1.H s1.heap.objs.size (.lst [])) scope (blkEnv P.X scope (laidL s1)) fp) [] z8 (upd t9.H s1.heap.objs.size (.lst (vs++[y]))) sa) (E:=fun _ _=>False) (inv_lull J9) D9 hacc ry fun s' I'=>I')) (fun _ s10 q=>?_) fun _ s10 q=>(let ⟨_,_,y⟩:=q;y.elim)
  obtain⟨u10,d10,I10⟩:=q
  have J10:=inv_dozed d10 J9.bare I10
  have g10:=d10.slp gi gs' g9 slp
  have same:=wiped bw8
  have zxD:∀{b:Addr},(∃p ob,t'.H b=some (zx p ob))→b≠s1.heap.objs.size:=fun {b} ⟨p,ob,e⟩ z=>by
   rw[z,SD.2.trans hDv] at e
   cases e
  have nbD:∀{b:Addr},B b→b≠s1.heap.objs.size:=fun {b} h e=>nBD (e▸h)
  refine⟨rest.length,by rw[hx];exact Nat.lt_succ_self _,rest,gN pv st2 o1,B',⟨t9.io,t9.F,upd t9.H s1.heap.objs.size (.lst (vs++[y]))⟩,L',N',tz',gO pv o1,gs',acc++[d],vs++[y],rfl,
   C'.go_on (J10.weak same.1 same.2) (grow_in w9 SD.1 D9) g10 l9.io l9.fr (fun b hb hz=>⟨hb,(upd_ne (zxD hz)).trans (l9.hid b hb)⟩) rfl C'.ex ?_,SD.1,hLL _ hD hDL,upd_same,rl9.append (.cons r9 .nil),?_,io2.trans (S.io.trans l9.io),fun b q e=>l9.fr b q (S.fr b q (fr2 b q e)),fun b hb=>?_,fun e=>?_⟩
  ·rw[hn]
   have:=J10.sz
   exact Nat.le_trans nD (Nat.le_trans (by rw[show (P.X.blk (laidL s1) (upd t1.H s1.heap.objs.size (.lst [])) scope (blkEnv P.X scope (laidL s1)) fp).s_0=laidL s1 from rfl,sizeL];exact Nat.le_succ _) this)
  ·rw[hx] at hcat
   rw[←hcat]
   simp
  ·obtain⟨x1,x2,x3⟩:=hid2 b hb
   obtain⟨x4,x5⟩:=S.hid b x1 x2
   exact⟨x4,hLL b x1 x2,(upd_ne (nbD hb)).trans ((l9.hid b x4).trans (x5.trans x3))⟩
  ·cases pv with
   | true=>exact hst rfl
   | false=>cases e
variable {k i:Nat} {tg elt iter:Expr} {scope:Scope} {own:List (Str×Nat)} {m:GEM} {pv:Bool} {gs:List Nat}
theorem mf_gen (hA:P.X.A.handled=none) (hN:P.X.N.Nodup) (hr:L2.Room k P.X.A.in1) (hd:P.X.A.depth<recursionLimit) (hi:IGen P k iter pv m) (ok:BlkOk P.X.N P.X.env.scope scope own) (hcl:noCells scope=true) (hiN:i<P.X.N.length)
  (hg:∀(s:Shared) (H:Hp) (C:Addr) (cl:List (Str×Addr)) (fp:List Addr),CoolS P.X.A s H (frs P.X.stack) fp→MG (P.blk s H scope C cl fp) tg (gName3 i) gs)
  (he:∀(s:Shared) (H:Hp) (C:Addr) (cl:List (Str×Addr)) (fp:List Addr),CoolS P.X.A s H (frs P.X.stack) fp→ME (P.blk s H scope C cl fp) elt (eVar i)) (hgs:∀j∈gs,j∈own.map (·.2):=by decide) (hs:∀x,foldedSetIterable iter P.X.env x=pure x:=by intro _;rfl) :
  MF P (.ListComp elt [⟨tg,iter,[],0⟩] scope pos) (fGen m pv):=by
 refine⟨⟨fun pins s z H Q I ⟨B0,B,t,st,u,eH,wd,sl,h⟩=>?_⟩⟩
 subst eH
 rw[eval_ListComp]
 exact gen_core hA hN hr hd hi ok hcl hiN hg he hgs hs I wd sl h fun D C s' m H' I' q hn f=>out_val I' q hn f
end
end M3
namespace M3
open PySem PySem.Spec PyProof.Rows L2 GenW
section
variable {j k:Nat} {A:Around} {s0:Shared} {H0:Hp} {fs ex:List Addr}
theorem gRoom (h:L2.Room k A):RoomS k A s0 H0 fs ex:=⟨h.dp,h.un,.inl h.hd⟩
theorem gRoomG (h:L2.Room k A) (g:Gh) (l:List Addr):RoomS k A g.s0 g.t.H l []:=gRoom h
theorem gr_at (h:RoomS j A s0 H0 fs ex) (hn:A.handled=none) (l:k≤j):L2.Room k A:=⟨hn,by have:=h.dp;omega,by have:=h.un;omega⟩
theorem gr_in (h:RoomS j A s0 H0 fs ex) (hn:A.handled=none) (l:k+1≤j):L2.Room k A.in1:=by
 refine⟨hn,?_,?_⟩
 ·have:=h.dp
  show A.depth+3 * k+5<recursionLimit
  omega
 ·have:=h.un
  show A.units+1+16 * k+200<cLine
  omega
end
end M3
namespace My
open PySem L2 M3
theorem range_get {n i:Nat} {d:D} (h:(rangeD 0 n)[i]?=some d):d=.int i∧i<n:=by
 unfold rangeD at h
 rw[List.getElem?_map] at h
 by_cases hi:i<n
 ·rw[List.getElem?_range hi] at h
  simp at h
  exact⟨h.symm,hi⟩
 ·rw[List.getElem?_eq_none (by simpa using hi)] at h;cases h
theorem rangeD_length (lo:Int) (n:Nat):(rangeD lo n).length=n:=by simp[rangeD]
def S (l:List Nat):Str:=⟨l.toArray⟩
@[simp] theorem S_length (l:List Nat):(S l).length=l.length:=by show l.toArray.size=_;simp
@[simp] theorem S_list (l:List Nat):(S l).cps.toList=l:=by simp[S]
theorem S_app (a b:List Nat):S a++S b=S (a++b):=by
 show (⟨a.toArray++b.toArray⟩:Str)=⟨(a++b).toArray⟩
 simp
theorem S_inj {a b:List Nat} (h:S a=S b):a=b:=by have:=congrArg (fun z:Str=>z.cps.toList) h;simpa using this
theorem S_cut (l:List Nat) (lo hi:Option Int):cutS (S l) lo hi=S (cutD l lo hi):=by
 unfold cutS cutD
 rw[S_list,S_length]
 rfl
theorem cut_to {α:Type} (xs:List α) {i:Int} (h:0≤i):cutD xs none (some i)=xs.take i.toNat:=by
 obtain⟨n,rfl⟩:=Int.eq_ofNat_of_zero_le h
 unfold cutD
 rw[HT.sIx_none,HT.sIx_nat]
 simp[List.take_eq_take_iff]
theorem cut_from {α:Type} (xs:List α) {i:Int} (h:0≤i):cutD xs (some i) none=xs.drop i.toNat:=by
 obtain⟨n,rfl⟩:=Int.eq_ofNat_of_zero_le h
 unfold cutD
 rw[HT.sIx_none,HT.sIx_nat]
 simp only[Int.toNat_natCast]
 by_cases q:n≤xs.length
 ·rw[Nat.min_eq_left q];exact List.take_of_length_le (by simp)
 ·rw[Nat.min_eq_right (by omega),List.drop_eq_nil_of_le (Nat.le_refl _),List.drop_eq_nil_of_le (by omega)];simp
theorem mul_one_sign (c n:Nat):Txt.mul (S [c]) (n:Int)=S (List.replicate n c):=by
 unfold Txt.mul
 by_cases h0:(n:Int)<1
 ·rw[if_pos h0]
  have:n=0:=by omega
  subst this;rfl
 ·rw[if_neg h0]
  by_cases h1:n=1
  ·subst h1;rfl
  ·rw[if_neg (by simp only[S_length,Bool.or_eq_true,beq_iff_eq,List.length_cons,List.length_nil];omega)]
   unfold S
   congr 1
   have all:∀(n:Nat) (acc:List Nat),List.foldl (fun x1 x2=>x1++x2) acc.toArray (List.replicate n [c].toArray)=(acc++List.replicate n c).toArray:=by
    intro n
    induction n with
    | zero=>intro acc;simp
    | succ n ih=>
     intro acc
     rw[List.replicate_succ,List.foldl_cons]
     have:acc.toArray++[c].toArray=(acc++[c]).toArray:=by simp
     rw[this,ih,List.replicate_succ]
     simp
   have:=all n []
   simpa using this
def IsNm (w:Str):Prop:=1≤w.length∧w.length≤8∧∀c∈w.cps.toList,97≤c∧c≤122
def letters:List Nat:=(List.range 26).map (97 + ·)
theorem letters_eq:("abcdefghijklmnopqrstuvwxyz" : Str)=S letters:=by decide +kernel
theorem letters_get {n:Nat} (h:n<26):letters[n]?=some (97+n):=by unfold letters;simp[h]
def wordL (d k:Nat):List Nat:=
 ((List.replicate (d % 8) (97+d / 64 % 26)).take (d / 8 % 8)++[97+(d+5 * k) % 26]++((List.replicate (d % 8) (97+d / 64 % 26)).drop (d / 8 % 8)++(List.replicate (d % 8) (97+d / 64 % 26)).take (k * (d / 3 % 3)))).take 8
def word (d k:Nat):Str:=S (wordL d k)
theorem wordL_nm (d k:Nat):1≤(wordL d k).length∧(wordL d k).length≤8∧∀c∈wordL d k,97≤c∧c≤122:=by
 unfold wordL
 refine⟨by simp;omega,by simp;omega,fun c hc=>?_⟩
 have h:=List.mem_of_mem_take hc
 have rep:∀c∈List.replicate (d % 8) (97+d / 64 % 26),97≤c∧c≤122:=fun c hc=>by rw[List.eq_of_mem_replicate hc];omega
 rcases List.mem_append.mp h with h | h
 ·rcases List.mem_append.mp h with h | h
  ·exact rep c (List.mem_of_mem_take h)
  ·rw[List.mem_singleton.mp h];omega
 ·rcases List.mem_append.mp h with h | h
  ·exact rep c (List.mem_of_mem_drop h)
  ·exact rep c (List.mem_of_mem_take h)
theorem word_nm (d k:Nat):IsNm (word d k):=by
 have:=wordL_nm d k
 exact⟨by rw[word,S_length];exact this.1,by rw[word,S_length];exact this.2.1,by rw[word,S_list];exact this.2.2⟩
theorem wordL_at (d k:Nat):(wordL d k)[min (d / 8 % 8) (d % 8)]?=some (97+(d+5 * k) % 26):=by
 unfold wordL
 rw[List.getElem?_take_of_lt (by omega),List.append_assoc,List.getElem?_append_right (by simp),List.getElem?_append_left (by simp)]
 simp
theorem word_inj {d j k:Nat} (hj:j<26) (hk:k<26) (h:word d j=word d k):j=k:=by
 have e:=S_inj h
 have a:=wordL_at d j
 rw[e,wordL_at] at a
 simp at a
 omega
def words (d n:Nat):List Str:=(List.range n).map (word d)
theorem words_nodup (d:Nat) {n:Nat} (h:n≤26):(words d n).Nodup:=by
 unfold words
 rw[List.nodup_iff_pairwise_ne,List.pairwise_map]
 refine List.Pairwise.imp_of_mem ?_ (List.nodup_iff_pairwise_ne.mp List.nodup_range)
 intro a b ha hb hab e
 exact hab (word_inj (by have:=List.mem_range.mp ha;omega) (by have:=List.mem_range.mp hb;omega) e)
theorem words_length (d n:Nat):(words d n).length=n:=by simp[words]
theorem words_nm {d n:Nat} {w:Str} (h:w∈words d n):IsNm w:=by
 unfold words at h
 obtain⟨k,_,rfl⟩:=List.mem_map.mp h
 exact word_nm d k
theorem lcL_range {gm:GM} {m:EM} {u0:Sl3} {st:Store} {n:Nat} (f:Nat→D) (h:∀i,i<n→∃u1,gm (.int i) u0=some u1∧m u1 st=.ok (.val (f i)) st) (hn:n≤1000000) :
  lcL gm tYes3 m u0 (rangeD 0 n) [] st=.ok ((List.range n).map f) st:=by
 have:=lcL_eq (st:=st) (t:=tYes3) (m:=m) (gm:=gm) (u0:=u0) (fun _=>true) (fun d=>match d with | .int i=>f i.toNat | _=>.non) (rangeD 0 n) [] (fun d hd=>?_) (by simp[rangeD_length];exact hn)
 ·rw[this]
  have e:(rangeD 0 n).filter (fun _=>true)=rangeD 0 n:=List.filter_eq_self.mpr fun _ _=>rfl
  rw[e,rangeD,List.map_map,List.nil_append]
  congr 1
  apply List.map_congr_left
  intro a _
  simp
 ·unfold rangeD at hd
  obtain⟨i,hi,rfl⟩:=List.mem_map.mp hd
  obtain⟨u1,e1,e2⟩:=h i (List.mem_range.mp hi)
  exact⟨u1,by simpa using e1,rfl,fun _=>by simpa using e2⟩
theorem lcR_run {gm:GM} {m:EM} {u0:Sl3} {st:Store} {n:Nat} {k:Res (List D)→Prop} (f:Nat→D) (hn:n≤1000000) (h:∀i,i<n→∃u1,gm (.int i) u0=some u1∧M3.run (m u1 st) (fun r=>r=.ok (.val (f i)) st)) (hk:k (.ok ((List.range n).map f) st)) :
  M3.run (lcL gm tYes3 m u0 (rangeD 0 n) [] st) k:=by
 rw[lcL_range f h hn];exact hk
theorem log2_le {n k:Nat} (h:n<2 ^ k):n.log2≤k:=by
 by_cases z:n=0
 ·subst z;simp
 ·exact Nat.le_of_lt ((Nat.log2_lt z).mpr h)
theorem two20:(2:Nat) ^ 31≤2 ^ 1048576:=Nat.pow_le_pow_right (by decide) (by decide)
theorem mulC_of {i j:Int} {a b:Nat} (ha:i.natAbs.log2≤a) (hb:j.natAbs.log2≤b) (h:a+b<100000000):mulC i j=true:=decide_eq_true (by omega)
theorem pys_strs:∀ws:List Str,D.pys (ws.map .str)=some (ws.map .str)
 | []=>rfl
 | w :: ws=>by
  rw[List.map_cons,D.pys,pys_strs ws]
  rfl
theorem okN {w:Str} (h:IsNm w):PyData.strOk w=true:=by
 unfold PyData.strOk
 rw[Array.all_eq_true_iff_forall_mem]
 intro c hc
 have:=h.2.2 c (by simpa using hc)
 exact decide_eq_true (by omega)
theorem canLay_strs:∀{ws:List Str},(∀w∈ws,PyData.strOk w=true)→PyData.canLayAll0 (ws.map .str)=true
 | [],_=>rfl
 | w :: ws,h=>by
  rw[List.map_cons,PyData.canLayAll0,PyData.canLay0,h w List.mem_cons_self,canLay_strs fun x hx=>h x (List.mem_cons_of_mem _ hx)]
  rfl
theorem depth_strs:∀ws:List Str,PyData.depthAll (ws.map .str)=0
 | []=>rfl
 | w :: ws=>by rw[List.map_cons,PyData.depthAll,PyData.depth,depth_strs ws];rfl
theorem eqv_strs:∀xs ys:List Str,PyData.eqvAll (xs.map .str) (ys.map .str)=decide (xs=ys)
 | [],[]=>by simp[PyData.eqvAll]
 | [],y :: ys=>by simp[PyData.eqvAll]
 | x :: xs,[]=>by simp[PyData.eqvAll]
 | x :: xs,y :: ys=>by
  rw[List.map_cons,List.map_cons,PyData.eqvAll,PyData.eqv,eqv_strs xs ys]
  by_cases h:x=y <;> by_cases h2:xs=ys <;> simp[h,h2]
def tupS (ws:List Str):D:=.tup (ws.map .str)
theorem kit_tuple:kitB "tuple" "tuple" = some true:=by decide +kernel
@[simp] theorem isiF_tup (xs:List D):isiF [.val (.tup xs),.val (.ty "tuple")]=some (.val (.bl true)):=by
 unfold isiF
 simp[D.tyn,kit_tuple]
theorem lcL_mapE {α:Type} {gm:GM} {t:TM} {m:EM} {u0:Sl3} {st:Store} (f:α→D) (p:α→Bool) (g:α→D):∀(xs:List α) (acc:List D),
  (∀x∈xs,∃u1,gm (f x) u0=some u1∧t u1 st=.ok (p x) st∧(p x=true→m u1 st=.ok (.val (g x)) st))→acc.length+xs.length≤1000000→
  lcL gm t m u0 (xs.map f) acc st=.ok (acc++(xs.filter p).map g) st
 | [],acc,_,_=>by simp[lcL,M.pure]
 | x :: xs,acc,h,hz=>by
  obtain⟨u1,e1,e2,e3⟩:=h x List.mem_cons_self
  have ih:=fun acc=>lcL_mapE f p g xs acc fun d hd=>h d (List.mem_cons_of_mem _ hd)
  simp only[List.length_cons] at hz
  apply of_run
  rw[List.map_cons,lcL_cons,e1]
  simp only[run_of_some,kBind_ok,run_bind,run_quiet,e2,run_ok,kQuiet_ok,run_ite]
  cases hp:p x with
  | false=>
   rw[if_neg Bool.false_ne_true,ih acc (by omega)]
   simp[hp]
  | true=>
   rw[if_pos rfl,e3 hp]
   simp only[run_ok,kQuiet_ok,kBind_ok,run_bind,W.d,run_of_some,run_chk]
   rw[if_pos (by omega),ih _ (by simp;omega)]
   simp[hp]
theorem lcM_run {α:Type} {gm:GM} {t:TM} {m:EM} {u0:Sl3} {st:Store} {xs:List α} {k:Res (List D)→Prop} (f:α→D) (p:α→Bool) (g:α→D) (hn:xs.length≤1000000)
  (h:∀x∈xs,∃u1,gm (f x) u0=some u1∧M3.run (t u1 st) (fun r=>r=.ok (p x) st)∧(p x=true→M3.run (m u1 st) (fun r=>r=.ok (.val (g x)) st))) (hk:k (.ok ((xs.filter p).map g) st)) :
  M3.run (lcL gm t m u0 (xs.map f) [] st) k:=by
 rw[lcL_mapE f p g xs [] h (by simpa using hn)];exact hk
theorem lcA_run {α:Type} {gm:GM} {m:EM} {u0:Sl3} {st:Store} {xs:List α} {k:Res (List D)→Prop} (f:α→D) (g:α→D) (hn:xs.length≤1000000)
  (h:∀x∈xs,∃u1,gm (f x) u0=some u1∧M3.run (m u1 st) (fun r=>r=.ok (.val (g x)) st)) (hk:k (.ok (xs.map g) st)) :
  M3.run (lcL gm tYes3 m u0 (xs.map f) [] st) k:=
 lcM_run f (fun _=>true) g hn (fun x hx=>let ⟨u1,e,r⟩:=h x hx;⟨u1,e,rfl,fun _=>r⟩) (by rw[List.filter_eq_self.mpr (fun _ _=>rfl)];exact hk)
theorem kit_bool:kitB "bool" "bool" = some true:=by decide +kernel
@[simp] theorem isiF_bool (x:Bool):isiF [.val (.bl x),.val (.ty "bool")]=some (.val (.bl true)):=by
 unfold isiF
 simp[D.tyn,kit_bool]
@[simp] theorem eqF_bl (neg a b:Bool):eqF neg (.val (.bl a)) (.val (.bl b))=some (.val (.bl (if neg then !decide (a=b) else decide (a=b)))):=by
 cases neg <;> cases a <;> cases b <;> rfl
end My
namespace My
open PySem L2 M3
def mb_w_digits:SM:=(sSeq (sOwn 3 (fLst aNil))
 (sSeq (sSet 4 (eBin subF (eVar 0) (eBin powF (eC (.int 10)) (eC (.int 18)))))
 (sSeq (sFor (iRange1 (aCons (eVar 2) aNil)) (gName3 5) (sIf (tOf (eBin geF (eVar 0) (eBin powF (eC (.int 10)) (eC (.int 18))))) (sSeq (sApp 3 (eBin modF (eB intCF (aCons (eVar 4) aNil)) (eC (.int 5040))))
 (sSet 4 (eBin divF (eVar 4) (eC (.int 5040))))) (sSeq (sSet 6 (eBin modF (eB intCF (aCons (eBin addF (eBin addF (eBin mulF (eVar 0) (eC (.int 48271))) (eBin mulF (eBin addF (eVar 1) (eVar 5)) (eC (.int 69621)))) (eC (.int 7))) aNil)) (eC (.int 2147483647))))
 (sApp 3 (eBin modF (eBin modF (eB intCF (aCons (eBin addF (eBin addF (eBin mulF (eVar 6) (eVar 6)) (eBin mulF (eC (.int 40692)) (eVar 1))) (eVar 5)) aNil)) (eC (.int 1000003))) (eC (.int 5040)))))))
 (sRetO 3))))
def mf_w_digits:List D→M D:=mfn 7 mb_w_digits
def mb_w_cell_at:SM:=(sSeq (sIf (tOf (eBin ltF (eVar 1) (eB lenF (aCons (eVar 0) aNil)))) (sRetV (eBin ixF (eVar 0) (eVar 1))) sNext)
 (sSeq (sIf (tOf (eBin gtF (eB lenF (aCons (eVar 0) aNil)) (eC (.int 0)))) (sRetV (eBin addF (eBin modF (eB intCF (aCons (eBin ixF (eVar 0) (eBin modF (eVar 1) (eB lenF (aCons (eVar 0) aNil)))) aNil)) (eC (.int 1000003))) (eBin mulF (eC (.int 1009)) (eVar 1)))) sNext)
 (sRetV (eVar 1))))
def mf_w_cell_at:List D→M D:=mfn 2 mb_w_cell_at
def mb_w_spelled:SM:=(sSeq (sSet 2 (eC (.str "abcdefghijklmnopqrstuvwxyz")))
 (sSeq (sSet 3 (eBin mulF (eBin ixF (eVar 2) (eBin modF (eBin divF (eB intCF (aCons (eVar 0) aNil)) (eC (.int 64))) (eC (.int 26)))) (eBin modF (eB intCF (aCons (eVar 0) aNil)) (eC (.int 8)))))
 (sSeq (sSet 4 (eBin modF (eBin divF (eB intCF (aCons (eVar 0) aNil)) (eC (.int 8))) (eC (.int 8))))
 (sSeq (sSet 5 (eBin modF (eBin divF (eB intCF (aCons (eVar 0) aNil)) (eC (.int 3))) (eC (.int 3))))
 (sSeq (sSet 6 (eF (fLc (iRange1 (aCons (eVar 1) aNil)) (gName3 8) tYes3 (eBin ixF (eVar 2) (eBin modF (eB intCF (aCons (eBin addF (eVar 0) (eBin mulF (eC (.int 5)) (eVar 8))) aNil)) (eC (.int 26)))) [8])))
 (sSeq (sSet 7 (eF (fLc (iRange1 (aCons (eVar 1) aNil)) (gName3 8) tYes3 (eBin addF (eSlA (eVar 3) (pSome (eVar 4)) pNone) (eSlA (eVar 3) pNone (pSome (eBin mulF (eVar 8) (eVar 5))))) [8])))
 (sRetV (eF (fLc (iRange1 (aCons (eVar 1) aNil)) (gName3 8) tYes3 (eSlA (eBin addF (eBin addF (eSlA (eVar 3) pNone (pSome (eVar 4))) (eBin ixF (eVar 6) (eVar 8))) (eBin ixF (eVar 7) (eVar 8))) pNone (pSome (eC (.int 8)))) [8])))))))))
def mf_w_spelled:List D→M D:=mfn 9 mb_w_spelled
def mb_w_arranged:SM:=(sSeq (sSet 1 (eF (fLst (aCons (eTup aNil) aNil))))
 (sSeq (sSet 2 (eF (fLst (aCons (eTup aNil) aNil))))
 (sSeq (sFor (iRange1 (aCons (eB lenF (aCons (eVar 0) aNil)) aNil)) (gName3 3) (sSeq (sSet 2 (eB sumLF (aCons (eF (fLc (iSeq (eVar 2)) (gName3 4) tYes3 (eF (fLc (iSeq (eVar 0)) (gName3 5) (tOf (eBin (inF true) (eVar 5) (eVar 4))) (eBin addF (eVar 4) (eTup (aCons (eVar 5) aNil))) [5])) [4])) (aCons (eF (fLst aNil)) aNil))))
 (sSet 1 (eBin addF (eVar 1) (eVar 2)))))
 (sRetV (eVar 1)))))
def mf_w_arranged:List D→M D:=mfn 6 mb_w_arranged
end My
namespace My
open PySem L2 M3
set_option maxHeartbeats 4000000 in
theorem cell_at_spec (ns:List Int) (k:Nat) (hk:k<1000000) (hb:∀i∈ns,i.natAbs.log2≤1048576) (hl:ns.length≤63) (st:Store) :
  ∃c:Int,mf_w_cell_at [.ro (ns.map .int),.int k] st=.ok (.int c) st∧c.natAbs.log2≤1048576:=by
 have hs:sizeLine=16777216:=sizeLine_eq
 by_cases h1:k<ns.length
 ·refine⟨ns[k],of_run ?_,hb _ (List.getElem_mem h1)⟩
  rw[mf_w_cell_at,run_mfn]
  simp[mb_w_cell_at,atN,h1]
 ·by_cases h2:0<ns.length
  ·have h3:k % ns.length<ns.length:=Nat.mod_lt _ h2
   have hat:atI (ns.map D.int) ((k:Int) % (ns.length:Int))=some (.int ns[k % ns.length]):=by
    have e3:((k:Int) % (ns.length:Int))=((k % ns.length:Nat):Int):=by omega
    rw[e3,atN];simp[h3]
   refine⟨ns[k % ns.length] % 1000003+1009 * k,of_run ?_,?_⟩
   ·rw[mf_w_cell_at,run_mfn]
    have hm:mulC 1009 k=true:=by
     unfold mulC
     have:=log2_le (n:=(k:Int).natAbs) (k:=20) (by omega)
     have e:Nat.log2 (Int.natAbs 1009)=9:=by decide
     exact decide_eq_true (by omega)
    simp[mb_w_cell_at,h1,h2,hat,hm]
   ·refine log2_le (Nat.lt_of_lt_of_le ?_ two20)
    have:=Int.emod_nonneg ns[k % ns.length] (b:=1000003) (by decide)
    have:=Int.emod_lt_of_pos ns[k % ns.length] (b:=1000003) (by decide)
    omega
  ·refine⟨k,of_run ?_,log2_le (Nat.lt_of_lt_of_le (m:=2 ^ 31) (by omega) two20)⟩
   rw[mf_w_cell_at,run_mfn]
   simp[mb_w_cell_at,h1,h2]
def Draws (n:Nat) (ds:List Int):Prop:=ds.length=n∧∀d∈ds,0≤d∧d<5040
set_option maxHeartbeats 4000000 in
theorem digits_spec (c:Int) (salt many:Nat) (hc:c.natAbs.log2≤1048576) (hs:salt<1000000) (hm:many≤1000) (st:Store) :
  ∃ds:List Int,mf_w_digits [.int c,.int salt,.int many] st=.ok (.lst (ds.map .int)) st∧Draws many ds:=by
 have hz:sizeLine=16777216:=sizeLine_eq
 suffices h:M3.run (mf_w_digits [.int c,.int salt,.int many] st) (fun r=>∃ds:List Int,r=.ok (.lst (ds.map .int)) st∧Draws many ds) by
  obtain⟨ds,e,h⟩:=h
  exact⟨ds,e,h⟩
 rw[mf_w_digits,run_mfn]
 have hr : -1000000≤(many:Int)∧(many:Int)≤1000000:=by omega
 simp[mb_w_digits,hr]
 refine forL_run (fun i u st'=>st'=st∧∃(ds:List Int) (rest:Int) (x y:Option W),Draws i ds∧u=[some (.val (.int c)),some (.val (.int salt)),some (.val (.int many)),some (.bor (ds.map .int)),some (.val (.int rest)),x,y]) ?_ ?_ ?_
 ·exact⟨rfl,[],_,none,none,⟨rfl,by simp⟩,rfl⟩
 ·rintro i d u st' hd ⟨rfl,ds,rest,x,y,hD,rfl⟩
  obtain⟨rfl,hi⟩:=range_get hd
  refine⟨_,rfl,?_⟩
  have hlen:ds.length<1000000:=by rw[hD.1];omega
  by_cases hb:(1000000000000000000:Int)≤c
  ·simp[hb,hlen]
   refine⟨ds++[rest % 5040],⟨by simp[hD.1],fun e he=>?_⟩,by simp⟩
   rcases List.mem_append.mp he with q | q
   ·exact hD.2 e q
   ·rw[List.mem_singleton.mp q];omega
  ·have m1:mulC c 48271=true:=mulC_of hc (b:=16) (by decide) (by omega)
   have m2:mulC ((salt:Int)+(i:Int)) 69621=true:=mulC_of (a:=40) (log2_le (by omega)) (b:=17) (by decide) (by omega)
   generalize hq:(c * 48271+((salt:Int)+(i:Int)) * 69621+7) % 2147483647=q
   have q0:0≤q∧q<2147483647:=by omega
   have m3:mulC q q=true:=mulC_of (a:=40) (log2_le (by omega)) (b:=40) (log2_le (by omega)) (by omega)
   have m4:mulC 40692 (salt:Int)=true:=mulC_of (a:=16) (by decide) (b:=40) (log2_le (by omega)) (by omega)
   simp[hb,hlen,m1,m2,hq,m3,m4]
   refine⟨ds++[(q * q+40692 * (salt:Int)+(i:Int)) % 1000003 % 5040],⟨by simp[hD.1],fun e he=>?_⟩,by simp⟩
   rcases List.mem_append.mp he with h | h
   ·exact hD.2 e h
   ·rw[List.mem_singleton.mp h];omega
 ·rintro u st' ⟨rfl,ds,rest,x,y,hD,rfl⟩
  rw[rangeD_length] at hD
  simp
  exact⟨ds,rfl,hD⟩
set_option maxHeartbeats 4000000 in
theorem spelled_spec (d many:Nat) (hd:d<5040) (hm:many≤26) (st:Store):mf_w_spelled [.int d,.int many] st=.ok (.lst ((words d many).map .str)) st:=by
 apply of_run
 rw[mf_w_spelled,run_mfn]
 have e1:(d:Int) / 64 % 26=((d / 64 % 26:Nat):Int):=by omega
 have e2:(d:Int) % 8=((d % 8:Nat):Int):=by omega
 have e3:(d:Int) / 8 % 8=((d / 8 % 8:Nat):Int):=by omega
 have e4:(d:Int) / 3 % 3=((d / 3 % 3:Nat):Int):=by omega
 have a1:atI letters ((d:Int) / 64 % 26)=some (97+d / 64 % 26):=by rw[e1,atN,letters_get (by omega)]
 have m1:MulS ⟨#[97+d / 64 % 26]⟩ ((d:Int) % 8)=true:=decide_eq_true ⟨by omega,by omega,by show (#[97+d / 64 % 26]:Array Nat).size≤1000;simp⟩
 have x1:Txt.mul ⟨#[97+d / 64 % 26]⟩ ((d:Int) % 8)=S (List.replicate (d % 8) (97+d / 64 % 26)):=by rw[e2];exact mul_one_sign _ _
 have r1 : -1000000≤(many:Int)∧(many:Int)≤1000000:=by omega
 have l1:letters.length≤1000000:=by decide
 simp only[mb_w_spelled,letters_eq]
 simp[a1,m1,x1,r1,l1]
 refine lcR_run (fun k=>.str (S [97+(d+5 * k) % 26])) (by omega) (fun i hi=>⟨_,rfl,?_⟩) ?_
 ·have e:((d:Int)+5 * (i:Int)) % 26=(((d+5 * i) % 26:Nat):Int):=by omega
  have a:atI letters (((d:Int)+5 * (i:Int)) % 26)=some (97+(d+5 * i) % 26):=by rw[e,atN,letters_get (by omega)]
  have m:mulC 5 (i:Int)=true:=mulC_of (a:=3) (by decide) (b:=40) (log2_le (by omega)) (by omega)
  simp[m,a,l1]
  rfl
 simp[r1]
 generalize hF:List.replicate (d % 8) (97+d / 64 % 26)=F
 have lF:F.length≤7:=by rw[←hF,List.length_replicate];omega
 refine lcR_run (fun k=>.str (S (F.drop (d / 8 % 8)++F.take (k * (d / 3 % 3))))) (by omega) (fun i hi=>⟨_,rfl,?_⟩) ?_
 ·have m:mulC (i:Int) ((d:Int) / 3 % 3)=true:=mulC_of (a:=40) (log2_le (by omega)) (b:=40) (log2_le (by omega)) (by omega)
  have c1:cutD F (some ((d:Int) / 8 % 8)) none=F.drop (d / 8 % 8):=by rw[e3,cut_from _ (by omega)];rfl
  have c2:cutD F none (some ((i:Int) * ((d:Int) / 3 % 3)))=F.take (i * (d / 3 % 3)):=by
   rw[e4,show ((i:Int) * ((d / 3 % 3:Nat):Int))=((i * (d / 3 % 3):Nat):Int) by simp,cut_to _ (by omega)];rfl
  have z1:F.length - d / 8 % 8+min (i * (d / 3 % 3)) F.length≤1000000:=by omega
  simp[m,S_cut,c1,c2,S_app,z1,show F.length≤1000000 by omega]
 simp[r1]
 refine lcR_run (fun k=>.str (word d k)) (by omega) (fun i hi=>⟨_,rfl,?_⟩) ?_
 ·have c1:cutD F none (some ((d:Int) / 8 % 8))=F.take (d / 8 % 8):=by rw[e3,cut_to _ (by omega)];rfl
  have c3:∀l:List Nat,cutD l none (some 8)=l.take 8:=fun l=>by rw[cut_to _ (by omega)];rfl
  simp[S_cut,c1,S_app,atN,hi,show F.length≤1000000 by omega,show min (d / 8 % 8) F.length+1≤1000000 by omega,c3]
  have z2:min (d / 8 % 8) F.length+1+(F.length - d / 8 % 8+min (i * (d / 3 % 3)) F.length)≤1000000:=by omega
  refine⟨z2,by omega,?_⟩
  unfold word wordL
  rw[hF]
  simp
 ·simp[words]
end My
namespace My
open PySem L2 M3
abbrev Ok (w:Str):Prop:=PyData.strOk w=true
abbrev Oks (ws:List Str):Prop:=∀w∈ws,PyData.strOk w=true
theorem any_strs (a:Str):∀xs:List Str,((xs.map PyData.str).any fun z=>PyData.eqv z (.str a))=decide (a∈xs)
 | []=>by simp
 | x :: xs=>by
  rw[List.map_cons,List.any_cons,any_strs a xs,PyData.eqv]
  by_cases h:x=a
  ·subst h;simp
  ·have h2:¬a=x:=fun e=>h e.symm
   simp[h,h2]
theorem shaped_str {a:Str} (h:Ok a):SeqAt.shaped (.str a)=true:=by
 unfold SeqAt.shaped
 rw[PyData.canLay0,h,PyData.depth];rfl
theorem shaped_tup {zs:List Str} (h:Oks zs):SeqAt.shaped (.tuple (zs.map .str))=true:=by
 unfold SeqAt.shaped
 rw[PyData.canLay0,canLay_strs h,PyData.depth,depth_strs];rfl
theorem inF_tup (neg:Bool) {a:Str} {xs:List Str} (ha:Ok a) (hx:Oks xs):inF neg (.val (.str a)) (.val (.tup (xs.map .str)))=some (.val (.bl (if neg then !decide (a∈xs) else decide (a∈xs)))):=by
 unfold inF
 dsimp only[W.dic]
 simp only[W_rd_val,D.py,pys_strs,Option.map_some,shaped_str ha,shaped_tup hx,and_self,if_true,any_strs]
theorem cutT {α:Type} (xs:List α) (n:Nat):cutD xs none (some (n:Int))=xs.take n:=by rw[cut_to _ (by omega)];simp
theorem eqF_int (neg:Bool) (i j:Int):eqF neg (.val (.int i)) (.val (.int j))=some (.val (.bl (if neg then !decide (i=j) else decide (i=j)))):=by
 unfold eqF
 have s:∀i:Int,SeqAt.shaped (.int i)=true:=fun i=>by unfold SeqAt.shaped;rw[PyData.canLay0,PyData.depth];rfl
 simp only[W_rd_val,D.eqv?,D.py,s,and_self,if_true,Option.map_some,PyData.eqv]
 congr 4
 all_goals (by_cases h:i=j <;> simp[h])
end My
namespace My
open PySem L2 M3
abbrev Ords:=List (List Str)
def freeB (ls:Ords) (n:Str):Bool:=!ls.any fun q=>decide (n∈q.tail)
def frees (ls:Ords):List Str:=(ls.filterMap List.head?).filter (freeB ls)
def rm (n:Str) (o:List Str):List Str:=o.filter fun w=>!decide (w=n)
def without (n:Str) (ls:Ords):Ords:=(ls.map (rm n)).filter fun o=>!o.isEmpty
def mergeN:Nat→Ords→List Str→Option (List Str)
 | 0,ls,acc=>if ls=[] then some acc else none
 | f+1,ls,acc=>if ls=[] then some acc else match (frees ls).head? with
  | none=>none
  | some n=>mergeN f (without n ls) (acc++[n])
def nonempty (ls:Ords):Ords:=ls.filter fun o=>!o.isEmpty
def size (ls:Ords):Nat:=(ls.map List.length).sum
theorem size_le {ls:Ords} {p:List Str→Bool}:size (ls.filter p)≤size ls:=by
 unfold size
 induction ls with
 | nil=>simp
 | cons o ls ih=>
  rw[List.filter_cons]
  split <;> simp only[List.map_cons,List.sum_cons] <;> omega
theorem size_map {ls:Ords} {f:List Str→List Str} (h:∀o,(f o).length≤o.length):size (ls.map f)≤size ls:=by
 unfold size
 induction ls with
 | nil=>simp
 | cons o ls ih=>
  simp only[List.map_cons,List.sum_cons]
  have:=h o
  omega
theorem size_without {n:Str} {ls:Ords} (h:∃o∈ls,n∈o):size (without n ls)<size ls:=by
 refine Nat.lt_of_le_of_lt size_le ?_
 obtain⟨o,ho,hn⟩:=h
 unfold size
 induction ls with
 | nil=>cases ho
 | cons q ls ih=>
  simp only[List.map_cons,List.sum_cons]
  have all:∀q:List Str,(rm n q).length≤q.length:=fun q=>List.length_filter_le _ _
  have rest:((ls.map (rm n)).map List.length).sum≤(ls.map List.length).sum:=size_map (ls:=ls) all
  rcases List.mem_cons.mp ho with e | ho
  ·subst e
   have lt:(rm n o).length<o.length:=by
    rcases Nat.lt_or_ge (rm n o).length o.length with h | h
    ·exact h
    ·have e:=List.filter_eq_self.mp ((List.filter_sublist (p:=fun w=>!decide (w=n))).eq_of_length (Nat.le_antisymm (all o) h)) n hn
     simp at e
   omega
  ·have:=ih ho
   have:=all q
   omega
theorem frees_mem {n:Str} {ls:Ords} (h:n∈frees ls):∃o∈ls,n∈o:=by
 unfold frees at h
 obtain⟨h,_⟩:=List.mem_filter.mp h
 obtain⟨o,ho,e⟩:=List.mem_filterMap.mp h
 exact⟨o,ho,List.mem_of_head? e⟩
def Full (ls:Ords):Prop:=∀o∈ls,o≠[]
theorem full_without {n:Str} {ls:Ords}:Full (without n ls):=fun o ho e=>by
 have:=(List.mem_filter.mp ho).2
 subst e;simp at this
theorem size_sum (ls:Ords):ls.length≤size ls∨¬Full ls:=by
 unfold size Full
 induction ls with
 | nil=>exact .inl (Nat.le_refl _)
 | cons o ls ih=>
  cases o with
  | nil=>exact .inr fun h=>h [] List.mem_cons_self rfl
  | cons n o=>
   rcases ih with ih | ih
   ·left;simp only[List.length_cons,List.map_cons,List.sum_cons];omega
   ·exact .inr fun h=>ih fun q hq=>h q (List.mem_cons_of_mem _ hq)
theorem Full.len {ls:Ords} (h:Full ls):ls.length≤size ls:=(size_sum ls).resolve_right fun q=>q h
theorem full_nonempty (ls:Ords):Full (nonempty ls):=fun o ho e=>by
 have:=(List.mem_filter.mp ho).2
 subst e;simp at this
theorem full_empty {ls:Ords} (h:Full ls) (z:size ls=0):ls=[]:=by
 have:=h.len
 rw[z] at this
 exact List.length_eq_zero_iff.mp (Nat.le_zero.mp this)
theorem mergeN_fuel:∀(f g:Nat) (ls:Ords) (acc:List Str),Full ls→size ls≤f→size ls≤g→mergeN f ls acc=mergeN g ls acc
 | 0,0,_,_,_,_,_=>rfl
 | 0,g+1,ls,acc,h,hf,_=>by
  have:=full_empty h (Nat.le_zero.mp hf)
  subst this;rfl
 | f+1,0,ls,acc,h,_,hg=>by
  have:=full_empty h (Nat.le_zero.mp hg)
  subst this;rfl
 | f+1,g+1,ls,acc,h,hf,hg=>by
  rw[mergeN,mergeN]
  split
  ·rfl
  ·cases e:(frees ls).head? with
   | none=>rfl
   | some n=>
    have lt:=size_without (frees_mem (List.mem_of_head? e))
    exact mergeN_fuel f g _ _ full_without (by omega) (by omega)
def mergeG (ls:Ords) (acc:List Str):Option (List Str):=mergeN (size ls) ls acc
theorem mergeG_nil (acc:List Str):mergeG [] acc=some acc:=rfl
theorem mergeG_step {ls:Ords} (h:Full ls) (hn:ls≠[]) (acc:List Str):mergeG ls acc=match (frees ls).head? with
  | none=>none
  | some n=>mergeG (without n ls) (acc++[n]):=by
 unfold mergeG
 have pos:size ls≠0:=fun z=>hn (full_empty h z)
 obtain⟨k,hk⟩:=Nat.exists_eq_succ_of_ne_zero pos
 rw[hk,mergeN,if_neg hn]
 cases e:(frees ls).head? with
 | none=>rfl
 | some n=>
  have lt:=size_without (frees_mem (List.mem_of_head? e))
  exact mergeN_fuel _ _ _ _ full_without (by omega) (Nat.le_refl _)
end My
namespace My
open PySem L2 M3
def lstS (ws:List Str):D:=.lst (ws.map .str)
abbrev Ctab:=List (Str×List Str)
def look (os:Ctab) (n:Str):List Str:=(os.lookup n).getD []
def left0 (os:Ctab) (bs:List Str):Ords:=bs.map (look os)++[bs]
def ordStep (os:Ctab) (c:Str×List Str):Option Ctab:=(mergeG (nonempty (left0 os c.2)) []).map fun m=>os++[(c.1,c.1 :: m)]
theorem lookT_mem {os:Ctab} {n:Str} {o:List Str} (h:os.lookup n=some o):(n,o)∈os:=by
 induction os with
 | nil=>cases h
 | cons c os ih=>
  rw[List.lookup_cons] at h
  split at h
  ·rename_i e
   cases h
   rw[show n=c.1 from by simpa using e]
   exact List.mem_cons_self
  ·exact List.mem_cons_of_mem _ (ih h)
theorem M3lookup_some {os:Ctab} {n:Str} (h:n∈os.map (·.1)):os.lookup n=some (look os n):=by
 unfold look
 induction os with
 | nil=>cases h
 | cons c os ih=>
  rw[List.lookup_cons]
  by_cases e:(n == c.1)=true
  ·rw[e];rfl
  ·have ne:n≠c.1:=fun q=>e (by rw[q];exact beq_self_eq_true _)
   have e':(n == c.1)=false:=by simpa using e
   rw[e']
   exact ih (by
    rcases List.mem_map.mp h with⟨d,hd,q⟩
    rcases List.mem_cons.mp hd with z | z
    ·subst z;exact absurd q.symm ne
    ·exact List.mem_map.mpr ⟨d,z,q⟩)
end My
namespace My
open PySem L2 M3
theorem mem_rm {n w:Str} {o:List Str}:w∈rm n o↔w∈o∧w≠n:=by unfold rm;simp
theorem mem_without {n w:Str} {ls:Ords}:(∃o∈without n ls,w∈o)↔(∃o∈ls,w∈o)∧w≠n:=by
 constructor
 ·rintro⟨o,ho,hw⟩
  obtain⟨h1,_⟩:=List.mem_filter.mp ho
  obtain⟨q,hq,rfl⟩:=List.mem_map.mp h1
  exact⟨⟨q,hq,(mem_rm.mp hw).1⟩,(mem_rm.mp hw).2⟩
 ·rintro⟨⟨q,hq,hw⟩,ne⟩
  have hm:=mem_rm.mpr ⟨hw,ne⟩
  refine⟨rm n q,List.mem_filter.mpr ⟨List.mem_map.mpr ⟨q,hq,rfl⟩,?_⟩,hm⟩
  cases e:rm n q with
  | nil=>rw[e] at hm;cases hm
  | cons a l=>rfl
theorem mergeG_some:∀(k:Nat) (ls:Ords) (acc r:List Str),size ls≤k→Full ls→mergeG ls acc=some r→∃t,r=acc++t∧t.Nodup∧∀w,w∈t↔∃o∈ls,w∈o
 | k,[],acc,r,_,_,h=>by
  rw[mergeG_nil] at h
  cases h
  exact⟨[],by simp,List.nodup_nil,by simp⟩
 | 0,o :: ls,acc,r,hk,hf,_=>by
  have:=full_empty hf (Nat.le_zero.mp hk)
  cases this
 | k+1,o :: ls,acc,r,hk,hf,h=>by
  rw[mergeG_step hf (by simp)] at h
  cases e:(frees (o :: ls)).head? with
  | none=>rw[e] at h;cases h
  | some n=>
   rw[e] at h
   obtain⟨t,e1,nd,hm⟩:=mergeG_some k (without n (o :: ls)) (acc++[n]) r (by have:=size_without (frees_mem (List.mem_of_head? e));omega) full_without h
   refine⟨n :: t,by rw[e1];simp,List.nodup_cons.mpr ⟨fun q=>((mem_without.mp ((hm n).mp q)).2) rfl,nd⟩,fun w=>?_⟩
   rw[List.mem_cons,hm,mem_without]
   by_cases q:w=n
   ·subst q
    exact⟨fun _=>frees_mem (List.mem_of_head? e),fun _=>.inl rfl⟩
   ·exact⟨fun z=>z.elim (fun y=>absurd y q) fun y=>y.1,fun z=>.inr ⟨z,q⟩⟩
theorem mem_nonempty {w:Str} {ls:Ords}:(∃o∈nonempty ls,w∈o)↔∃o∈ls,w∈o:=by
 constructor
 ·rintro⟨o,ho,hw⟩;exact⟨o,(List.mem_filter.mp ho).1,hw⟩
 ·rintro⟨o,ho,hw⟩
  exact⟨o,List.mem_filter.mpr ⟨ho,by cases o with | nil=>cases hw | cons a l=>rfl⟩,hw⟩
theorem merge_some {ls:Ords} {r:List Str} (h:mergeG (nonempty ls) []=some r):r.Nodup∧∀w,w∈r↔∃o∈ls,w∈o:=by
 obtain⟨t,e,nd,hm⟩:=mergeG_some _ _ _ _ (Nat.le_refl _) (full_nonempty ls) h
 rw[List.nil_append] at e
 subst e
 exact⟨nd,fun w=>(hm w).trans mem_nonempty⟩
abbrev keysS (os:Ctab):List Str:=os.map (·.1)
structure Tab (os:Ctab):Prop where
 el:∀c∈os,(∀w∈c.2,w∈keysS os)∧c.2.Nodup∧c.2.head?=some c.1
 nd:(keysS os).Nodup
theorem look_mem {os:Ctab} {n:Str} (h:n∈keysS os):(n,look os n)∈os:=lookT_mem (M3lookup_some h)
theorem Tab.look {os:Ctab} (t:Tab os) (n:Str):∀w∈look os n,w∈keysS os:=fun w hw=>by
 by_cases h:n∈keysS os
 ·exact(t.el _ (look_mem h)).1 w hw
 ·unfold My.look at hw
  have:os.lookup n=none:=by
   cases e:os.lookup n with
   | none=>rfl
   | some o=>exact absurd (List.mem_map.mpr ⟨(n,o),lookT_mem e,rfl⟩) h
  rw[this] at hw;cases hw
theorem Tab.left {os:Ctab} (t:Tab os) {bs:List Str} (hb:∀b∈bs,b∈keysS os):∀o∈left0 os bs,∀w∈o,w∈keysS os:=fun o ho w hw=>by
 rcases List.mem_append.mp ho with k | k
 ·obtain⟨b,hb',rfl⟩:=List.mem_map.mp k
  exact t.look b w hw
 ·rw[List.mem_singleton.mp k] at hw;exact hb w hw
theorem Tab.step {os os':Ctab} {c:Str×List Str} (t:Tab os) (hf:c.1∉keysS os) (hb:∀b∈c.2,b∈keysS os) (h:ordStep os c=some os'):Tab os'∧keysS os'=keysS os++[c.1]∧∃m,os'=os++[(c.1,c.1 :: m)]:=by
 unfold ordStep at h
 obtain⟨m,hm,rfl⟩:=Option.map_eq_some_iff.mp h
 obtain⟨nd,el⟩:=merge_some hm
 have inm:∀w∈m,w∈keysS os:=fun w hw=>by
  obtain⟨o,ho,hw'⟩:=(el w).mp hw
  exact t.left hb o ho w hw'
 refine⟨⟨fun d hd=>?_,?_⟩,by simp[keysS],m,rfl⟩
 ·rcases List.mem_append.mp hd with k | k
  ·obtain⟨h1,h2,h3⟩:=t.el d k
   exact⟨fun w hw=>by simp only[keysS,List.map_append];exact List.mem_append_left _ (h1 w hw),h2,h3⟩
  ·rw[List.mem_singleton.mp k]
   refine⟨fun w hw=>?_,List.nodup_cons.mpr ⟨fun q=>hf (inm _ q),nd⟩,rfl⟩
   simp only[keysS,List.map_append]
   rcases List.mem_cons.mp hw with q | q
   ·subst q;exact List.mem_append_right _ (by simp)
   ·exact List.mem_append_left _ (inm w q)
 ·simp only[keysS,List.map_append]
  rw[List.nodup_append]
  exact⟨t.nd,by simp,fun a ha b hb e=>by simp at hb;subst hb;subst e;exact hf ha⟩
theorem Tab.nil:Tab []:=⟨fun c h=>(by cases h),List.nodup_nil⟩
end My
namespace My
open PySem L2 M3
@[simp] theorem run_eLenSet {m:EM} {u:Sl3} {st:Store} {kw}:run (eLenSet m u st) kw=run (m u st) (kBind (fun w=>M.of (lenSetF w)) kw):=run_bind _ _
@[simp] theorem allF_nil:allF [.val (.lst [])]=some (.val (.bl true)):=rfl
end My
namespace My
open PySem L2 M3
section
variable {u:Sl3} {st:Store}
@[simp] theorem run_fLc2 {mi mi1:FM} {g g1:GM} {c c1:TM} {e:EM} {own vs1:List Nat} {kf}:run (fLc2 mi g c mi1 g1 c1 e own vs1 u st) kf=run (mi u st) (kBind (fun ds=>lc2L g c mi1 g1 c1 e vs1 (wipe3 u own) ds []) kf):=run_bind _ _
end
theorem lc2L_map {α β:Type} {gm g1:GM} {t t1:TM} {mi1:FM} {m:EM} {vs1:List Nat} {u0:Sl3} {st:Store} (f:α→D) (ys:α→List β) (f1:β→D) (p:α→β→Bool) (g:α→β→D):∀(xs:List α) (acc:List D),
  (∀x∈xs,∃u1,gm (f x) u0=some u1∧t u1 st=.ok true st∧mi1 u1 st=.ok ((ys x).map f1) st∧∀y∈ys x,∃u2,g1 (f1 y) (wipe3 u1 vs1)=some u2∧M3.run (t1 u2 st) (fun r=>r=.ok (p x y) st)∧(p x y=true→M3.run (m u2 st) (fun r=>r=.ok (.val (g x y)) st)))→
  acc.length+(xs.map fun x=>(ys x).length).sum≤1000000→
  lc2L gm t mi1 g1 t1 m vs1 u0 (xs.map f) acc st=.ok (acc++xs.flatMap fun x=>((ys x).filter (p x)).map (g x)) st
 | [],acc,_,_=>by simp[lc2L,M.pure]
 | x :: xs,acc,h,hz=>by
  obtain⟨u1,e1,e2,e3,e4⟩:=h x List.mem_cons_self
  have ih:=fun acc=>lc2L_map f ys f1 p g xs acc fun d hd=>h d (List.mem_cons_of_mem _ hd)
  simp only[List.map_cons,List.sum_cons] at hz
  have inner:=lcL_mapE (gm:=g1) (t:=t1) (m:=m) (u0:=wipe3 u1 vs1) (st:=st) f1 (p x) (g x) (ys x) acc e4 (by omega)
  have hl:((ys x).filter (p x)).length≤(ys x).length:=List.length_filter_le _ _
  unfold lc2L
  rw[List.map_cons]
  show M.bind (M.of (gm (f x) u0)) _ st=_
  rw[e1]
  show M.bind (M.quiet (t u1)) _ st=_
  unfold M.bind M.quiet
  dsimp only
  rw[e2]
  dsimp only
  rw[if_pos rfl]
  rw[e3]
  dsimp only
  rw[inner]
  dsimp only
  rw[ih _ (by simp;omega)]
  simp
theorem lc2_run {α β:Type} {gm g1:GM} {t t1:TM} {mi1:FM} {m:EM} {vs1:List Nat} {u0:Sl3} {st:Store} {xs:List α} {k:Res (List D)→Prop} (f:α→D) (ys:α→List β) (f1:β→D) (p:α→β→Bool) (g:α→β→D) (hz:(xs.map fun x=>(ys x).length).sum≤1000000)
  (h:∀x∈xs,∃u1,gm (f x) u0=some u1∧M3.run (t u1 st) (fun r=>r=.ok true st)∧M3.run (mi1 u1 st) (fun r=>r=.ok ((ys x).map f1) st)∧∀y∈ys x,∃u2,g1 (f1 y) (wipe3 u1 vs1)=some u2∧M3.run (t1 u2 st) (fun r=>r=.ok (p x y) st)∧(p x y=true→M3.run (m u2 st) (fun r=>r=.ok (.val (g x y)) st)))
  (hk:k (.ok (xs.flatMap fun x=>((ys x).filter (p x)).map (g x)) st)):M3.run (lc2L gm t mi1 g1 t1 m vs1 u0 (xs.map f) [] st) k:=by
 rw[lc2L_map f ys f1 p g xs [] h (by simpa using hz)]
 exact hk
abbrev K3:=Str×Str×Str
def key3 (k:K3):D:=.tup [.str k.1,.str k.2.1,.str k.2.2]
abbrev Bod:=List (K3×List Str)
def bk (b:Bod):List D:=b.map fun e=>key3 e.1
end My
namespace My
open PySem L2 M3
def grow (names:List Str) (L:Ords):Ords:=(L.map fun r=>(names.filter fun n=>!decide (n∈r)).map fun n=>r++[n]).flatten
theorem grow_mem {names:List Str} {L:Ords} {o:List Str} (h:o∈grow names L):∃r∈L,∃n∈names,n∉r∧o=r++[n]:=by
 unfold grow at h
 obtain⟨x,hx,ho⟩:=List.mem_flatten.mp h
 obtain⟨r,hr,rfl⟩:=List.mem_map.mp hx
 obtain⟨n,hn,rfl⟩:=List.mem_map.mp ho
 have:=List.mem_filter.mp hn
 exact⟨r,hr,n,this.1,by simpa using this.2,rfl⟩
theorem grow_len {names:List Str}:∀L:Ords,(grow names L).length≤names.length * L.length
 | []=>Nat.zero_le _
 | r :: L=>by
  have:=grow_len (names:=names) L
  have:=List.length_filter_le (fun n=>!decide (n∈r)) names
  simp only[grow,List.map_cons,List.flatten_cons,List.length_append,List.length_map,List.length_cons,Nat.mul_succ] at *
  omega
theorem grow_data (names:List Str) (L:Ords):(L.map fun r=>(names.filter fun n=>!decide (n∈r)).map fun n=>tupS (r++[n])).flatten=(grow names L).map tupS:=by
 unfold grow
 rw[List.map_flatten,List.map_map]
 congr 1
 apply List.map_congr_left
 intro r _
 simp
def InN (names:List Str) (b:Nat) (L:Ords):Prop:=∀o∈L,o.length≤b∧o.Nodup∧∀w∈o,w∈names
theorem InN.grow {names:List Str} {b:Nat} {L:Ords} (h:InN names b L):InN names (b+1) (grow names L):=fun o ho=>by
 obtain⟨r,hr,n,hn,nr,rfl⟩:=grow_mem ho
 obtain⟨h1,h3,h2⟩:=h r hr
 refine⟨by simp;omega,?_,fun w hw=>?_⟩
 ·rw[List.nodup_append]
  exact⟨h3,by simp,fun a ha b hb e=>by rw[List.mem_singleton.mp hb] at e;subst e;exact nr ha⟩
 ·rcases List.mem_append.mp hw with k | k
  ·exact h2 w k
  ·rw[List.mem_singleton.mp k];exact hn
theorem pow4 {i:Nat} (h:i≤4):4 ^ i≤256:=by
 rcases i with _ | _ | _ | _ | _ | i <;> first | decide | omega
end My
namespace My
open PySem L2 M3
def yb_arrangements:YM:=(ySeq (yPlain (sSet 1 (eF (fLst (aCons (eTup aNil) aNil)))))
 (yFor (iRange1 (aCons (eBin addF (eB lenF (aCons (eVar 0) aNil)) (eC (.int 1))) aNil)) (gName3 2) (ySeq (yFor (iSeq (eVar 1)) (gName3 3) (yYield (eVar 3)))
 (yPlain (sSet 1 (eF (fLc2 (iSeq (eVar 1)) (gName3 3) tYes3 (iSeq (eVar 0)) (gName3 4) (tOf (eBin (inF true) (eVar 4) (eVar 3))) (eBin addF (eVar 3) (eTup (aCons (eVar 4) aNil))) [3,4] [4])))))))
def yf_arrangements:List D→Store→Option (List (D×Store)×Store):=ymf 5 yb_arrangements
def mb_law:SM:=(sSeq (sSet 1 (eCall 3 mf_w_digits (aCons (eCall 2 mf_w_cell_at (aCons (eVar 0) (aCons (eC (.int 0)) aNil))) (aCons (eC (.int 3)) (aCons (eC (.int 2)) aNil)))))
 (sSeq (sSet 2 (eBin modF (eB intCF (aCons (eBin ixF (eVar 1) (eC (.int 1))) aNil)) (eC (.int 5))))
 (sSeq (sSet 3 (eSlA (eCall 2 mf_w_spelled (aCons (eBin ixF (eVar 1) (eC (.int 0))) (aCons (eC (.int 4)) aNil))) pNone (pSome (eVar 2))))
 (sSeq (sSet 4 (eCall 1 mf_w_arranged (aCons (eVar 3) aNil)))
 (sSeq (sIf (tOf (eBin (eqF true) (eB lenF (aCons (eVar 4) aNil)) (eBin ixF (eF (fLst (aCons (eC (.int 1)) (aCons (eC (.int 2)) (aCons (eC (.int 5)) (aCons (eC (.int 16)) (aCons (eC (.int 65)) aNil))))))) (eVar 2)))) (sRetV (eC (.bl false))) sNext)
 (sSeq (sFor (iRange1 (aCons (eC (.int 2)) aNil)) (gName3 5) (sSeq (sSet 6 (eF (fGen (gCall 1 true yf_arrangements (aCons (eB tupCF (aCons (eVar 3) aNil)) aNil)) true)))
 (sSeq (sIf (tOf (eBin (eqF true) (eB lenF (aCons (eVar 6) aNil)) (eB lenF (aCons (eVar 4) aNil)))) (sRetV (eC (.bl false))) sNext)
 (sIf (tNot3 (tTru (eB allF (aCons (eF (fLc (iRange1 (aCons (eB lenF (aCons (eVar 4) aNil)) aNil)) (gName3 8) tYes3 (eAnd (eB isi2F (aCons (eBin ixF (eVar 6) (eVar 8)) (aCons (eC (.ty "tuple")) aNil))) (eBin (eqF false) (eBin ixF (eVar 6) (eVar 8)) (eBin ixF (eVar 4) (eVar 8)))) [8])) aNil)))) (sRetV (eC (.bl false))) sNext))))
 (sRetV (eC (.bl true)))))))))
def mf_law:List D→M D:=mfn 9 mb_law
end My
namespace My
open PySem L2 M3
def lvA (names:List Str):Nat→Ords
 | 0=>[[]]
 | n+1=>grow names (lvA names n)
def upA (names:List Str):Nat→Ords
 | 0=>[[]]
 | n+1=>upA names n++lvA names (n+1)
theorem lvA_in (names:List Str):∀n,InN names n (lvA names n)
 | 0=>fun o h=>by rw[List.mem_singleton.mp h];simp
 | n+1=>(lvA_in names n).grow
theorem lvA_len {names:List Str} (hl:names.length≤4):∀n,(lvA names n).length≤4 ^ n
 | 0=>by simp[lvA]
 | n+1=>by
  have h1:=lvA_len hl n
  have h2:=grow_len (names:=names) (lvA names n)
  have h3:names.length * (lvA names n).length≤4 * 4 ^ n:=Nat.mul_le_mul hl h1
  rw[Nat.pow_succ]
  show (grow names (lvA names n)).length≤_
  omega
theorem upA_len {names:List Str} (hl:names.length≤4):∀n,n≤4→(upA names n).length≤256 * n+1
 | 0,_=>by simp[upA]
 | n+1,h=>by
  have h1:=upA_len hl n (by omega)
  have h2:=lvA_len hl (n+1)
  have h3:=pow4 (i:=n+1) h
  simp only[upA,List.length_append]
  omega
theorem lvA_size {names:List Str} (nd:names.Nodup):∀n,∀r∈lvA names n,r.length=n∧r.Nodup∧∀w∈r,w∈names
 | 0=>fun r h=>by rw[List.mem_singleton.mp h];simp
 | n+1=>fun o ho=>by
  obtain⟨r,hr,w,hw,nw,rfl⟩:=grow_mem ho
  have h:=lvA_size nd n r hr
  exact⟨by simp[h.1],((lvA_in names n).grow _ ho).2⟩
theorem filter_count {names r:List Str} (nd:names.Nodup) (hr:r.Nodup) (hs:∀w∈r,w∈names):(names.filter fun n=>!decide (n∈r)).length+r.length=names.length:=by
 induction names generalizing r with
 | nil=>
  cases r with
  | nil=>rfl
  | cons x r=>exact absurd (hs x List.mem_cons_self) (by simp)
 | cons a names ih=>
  rw[List.nodup_cons] at nd
  by_cases h:a∈r
  ·have h1:=ih (r:=r.erase a) nd.2 (hr.erase a) fun w hw=>by
    have:=hs w (List.mem_of_mem_erase hw)
    rcases List.mem_cons.mp this with e | e
    ·exact absurd hw (e▸hr.not_mem_erase)
    ·exact e
   have h2:(names.filter fun n=>!decide (n∈r.erase a))=names.filter fun n=>!decide (n∈r):=List.filter_congr fun n hn=>by
    have ne:n≠a:=fun e=>nd.1 (e▸hn)
    simp[List.mem_erase_of_ne ne]
   have h3:=List.length_erase_of_mem h
   have h4:0<r.length:=List.length_pos_of_mem h
   rw[h2] at h1
   rw[List.filter_cons_of_neg (by simp[h])]
   simp only[List.length_cons]
   omega
  ·have h1:=ih (r:=r) nd.2 hr fun w hw=>by
    rcases List.mem_cons.mp (hs w hw) with e | e
    ·exact absurd (e▸hw) h
    ·exact e
   rw[List.filter_cons_of_pos (by simp[h])]
   simp only[List.length_cons]
   omega
theorem grow_size {names:List Str} (nd:names.Nodup) {n:Nat}:∀L:Ords,(∀r∈L,r.length=n∧r.Nodup∧∀w∈r,w∈names)→(grow names L).length=L.length * (names.length - n)
 | [],_=>by simp[grow]
 | r :: L,h=>by
  have h1:=grow_size nd L fun x hx=>h x (List.mem_cons_of_mem _ hx)
  obtain⟨a,b,c⟩:=h r List.mem_cons_self
  have h2:=filter_count nd b c
  have e:grow names (r :: L)=((names.filter fun n=>!decide (n∈r)).map fun n=>r++[n])++grow names L:=by simp[grow]
  rw[e,List.length_append,List.length_map,h1,List.length_cons,Nat.succ_mul]
  omega
theorem lvA_count {names:List Str} (nd:names.Nodup) (n:Nat):(lvA names (n+1)).length=(lvA names n).length * (names.length - n):=grow_size nd _ (lvA_size nd n)
theorem upA_count {names:List Str} (nd:names.Nodup) (hl:names.length≤4):[1,2,5,16,65][names.length]?=some (upA names names.length).length:=by
 have l0:(lvA names 0).length=1:=rfl
 have l1:=lvA_count nd 0
 have l2:=lvA_count nd 1
 have l3:=lvA_count nd 2
 have l4:=lvA_count nd 3
 obtain⟨n,hn⟩:∃n,n=names.length:=⟨_,rfl⟩
 rw[←hn] at l1 l2 l3 l4 hl⊢
 have hn':n=0∨n=1∨n=2∨n=3∨n=4:=by omega
 rcases hn' with rfl | rfl | rfl | rfl | rfl <;> simp[upA,l4,l3,l2,l1,l0]
theorem arranged_lv (names:List Str) (hn:Oks names) (hl:names.length≤4) (st:Store):mf_w_arranged [.lst (names.map .str)] st=.ok (.lst ((upA names names.length).map tupS)) st:=by
 suffices h:M3.run (mf_w_arranged [.lst (names.map .str)] st) (fun r=>r=.ok (.lst ((upA names names.length).map tupS)) st) from h
 rw[mf_w_arranged,run_mfn]
 simp[mb_w_arranged]
 rw[if_pos (by omega)]
 refine forL_run (fun i u st'=>st'=st∧i≤4∧∃(x3 x4 x5:Option W),u=[some (.val (.lst (names.map .str))),some (.val (.lst ((upA names i).map tupS))),some (.val (.lst ((lvA names i).map tupS))),x3,x4,x5]) ⟨rfl,by omega,_,_,_,rfl⟩ ?_ ?_
 ·rintro i d u st' hd ⟨rfl,hi0,x3,x4,x5,rfl⟩
  obtain⟨rfl,hi⟩:=range_get hd
  have hL:=lvA_in names i
  have lL:=lvA_len hl i
  have lF:=upA_len hl i hi0
  have p3:=pow4 hi0
  refine⟨_,rfl,?_⟩
  simp
  refine lcA_run (xs:=lvA names i) tupS (fun r=>.lst ((names.filter fun n=>!decide (n∈r)).map fun n=>tupS (r++[n]))) (by omega) (fun r hr=>⟨_,rfl,?_⟩) ?_
  ·obtain⟨h1,_,h2⟩:=hL r hr
   simp[tupS]
   refine lcM_run (xs:=names) D.str (fun n=>!decide (n∈r)) (fun n=>tupS (r++[n])) (by omega) (fun n hn'=>⟨_,rfl,?_,fun _=>?_⟩) ?_
   ·simp[inF_tup true (hn n hn') (fun w hw=>hn w (h2 w hw))]
   ·simp[tupS]
    omega
   ·simp[tupS]
  have gb:=lvA_len hl (i+1)
  have p4:=pow4 (i:=i+1) (by omega)
  have ex:(lvA names i).map (fun r=>D.lst ((names.filter fun n=>!decide (n∈r)).map fun n=>tupS (r++[n])))=((lvA names i).map fun r=>(names.filter fun n=>!decide (n∈r)).map fun n=>tupS (r++[n])).map .lst:=by simp[Function.comp_def]
  simp only[ex]
  have fl:=grow_data names (lvA names i)
  generalize ((lvA names i).map fun r=>(names.filter fun n=>!decide (n∈r)).map fun n=>tupS (r++[n]))=xss at fl
  simp[fl]
  have gq:(grow names (lvA names i)).length≤256:=Nat.le_trans gb p4
  refine⟨by omega,by omega,by omega,?_,rfl⟩
  simp[upA,lvA]
 ·rintro u st' ⟨rfl,hi,x3,x4,x5,rfl⟩
  rw[rangeD_length]
  simp
end My
namespace My
open PySem L2 M3
theorem ySeq_nx {m1 m2:YM} {u u':Sl3} {o o':Store} {xs:List (D×Store)} (h:m1 u o=(xs,.nx u' o')):ySeq m1 m2 u o=(xs++(m2 u' o').1,(m2 u' o').2):=by
 unfold ySeq
 rw[h]
theorem plain_nx {m:SM} {u u':Sl3} {o o':Store} (h:m u o=.nx u' o'):yPlain m u o=([],.nx u' o'):=by
 unfold yPlain
 rw[h]
theorem forL_cons_nx {g:GM} {b:YM} {d:D} {ds:List D} {u u1 u2:Sl3} {o o2:Store} {xs:List (D×Store)} (e1:g d u=some u1) (e2:b u1 o=(xs,.nx u2 o2)):yForL g b (d :: ds) u o=(xs++(yForL g b ds u2 o2).1,(yForL g b ds u2 o2).2):=by
 rw[yForL]
 simp only[e1,e2]
theorem rows_out {o:Store} {d0 d1:D} {w2 w4:Option W} (h2:allVal [some (.val d0),some (.val d1),w2,none,w4]=true):∀(L:Ords) (w3:Option W),allVal [some (.val d0),some (.val d1),w2,w3,w4]=true→
  ∃w3',allVal [some (.val d0),some (.val d1),w2,w3',w4]=true∧yForL (gName3 3) (yYield (eVar 3)) (L.map tupS) [some (.val d0),some (.val d1),w2,w3,w4] o=(L.map fun r=>(tupS r,o),.nx [some (.val d0),some (.val d1),w2,w3',w4] o)
 | [],w3,h=>⟨w3,h,rfl⟩
 | r :: L,w3,h=>by
  have hv:allVal [some (.val d0),some (.val d1),w2,some (.val (tupS r)),w4]=true:=by
   simp only[allVal,List.all_cons,Bool.and_eq_true] at h2⊢
   simp_all
  obtain⟨w3',h3,e⟩:=rows_out (o:=o) h2 L (some (.val (tupS r))) hv
  refine⟨w3',h3,?_⟩
  have e1:gName3 3 (tupS r) [some (.val d0),some (.val d1),w2,w3,w4]=some [some (.val d0),some (.val d1),w2,some (.val (tupS r)),w4]:=rfl
  have e2:yYield (eVar 3) [some (.val d0),some (.val d1),w2,some (.val (tupS r)),w4] o=([(tupS r,o)],.nx [some (.val d0),some (.val d1),w2,some (.val (tupS r)),w4] o):=by
   unfold yYield
   rw[show eVar 3 [some (.val d0),some (.val d1),w2,some (.val (tupS r)),w4] o=.ok (.val (tupS r)) o from rfl]
   dsimp only
   rw[if_pos hv]
  rw[List.map_cons,forL_cons_nx e1 e2,e]
  rfl
def bodyA:YM:=ySeq (yFor (iSeq (eVar 1)) (gName3 3) (yYield (eVar 3)))
 (yPlain (sSet 1 (eF (fLc2 (iSeq (eVar 1)) (gName3 3) tYes3 (iSeq (eVar 0)) (gName3 4) (tOf (eBin (inF true) (eVar 4) (eVar 3))) (eBin addF (eVar 3) (eTup (aCons (eVar 4) aNil))) [3,4] [4]))))
section
variable {names:List Str} {o:Store} {dn:D}
theorem next_rows (hdn:dn=tupS names∨dn=lstS names) (hn:Oks names) (hl:names.length≤4) {i:Nat} (hi:i≤4) {w2 w3 w4:Option W} :
  (sSet 1 (eF (fLc2 (iSeq (eVar 1)) (gName3 3) tYes3 (iSeq (eVar 0)) (gName3 4) (tOf (eBin (inF true) (eVar 4) (eVar 3))) (eBin addF (eVar 3) (eTup (aCons (eVar 4) aNil))) [3,4] [4]))) [some (.val dn),some (.val (.lst ((lvA names i).map tupS))),w2,w3,w4] o =
   .nx [some (.val dn),some (.val (.lst ((lvA names (i+1)).map tupS))),w2,w3,w4] o:=by
 suffices h:M3.srun ((sSet 1 (eF (fLc2 (iSeq (eVar 1)) (gName3 3) tYes3 (iSeq (eVar 0)) (gName3 4) (tOf (eBin (inF true) (eVar 4) (eVar 3))) (eBin addF (eVar 3) (eTup (aCons (eVar 4) aNil))) [3,4] [4]))) [some (.val dn),some (.val (.lst ((lvA names i).map tupS))),w2,w3,w4] o) (fun r=>r =
   .nx [some (.val dn),some (.val (.lst ((lvA names (i+1)).map tupS))),w2,w3,w4] o) from h
 have hL:=lvA_in names i
 have lL:=lvA_len hl i
 have p3:=pow4 hi
 have sm:((lvA names i).map fun _=>names.length).sum≤1000000:=by
  have:∀L:Ords,(L.map fun _=>names.length).sum=L.length * names.length:=fun L=>by induction L <;> simp_all [Nat.succ_mul,Nat.add_comm]
  rw[this]
  have:=Nat.mul_le_mul (Nat.le_trans lL p3) hl
  omega
 simp
 refine lc2_run (xs:=lvA names i) tupS (fun _=>names) D.str (fun r n=>!decide (n∈r)) (fun r n=>tupS (r++[n])) sm (fun r hr=>⟨_,rfl,?_,?_,fun n hn'=>⟨_,rfl,?_,fun _=>?_⟩⟩) ?_
 ·simp
 ·rcases hdn with rfl | rfl <;> simp[tupS,lstS]
 ·obtain⟨h1,_,h2⟩:=hL r hr
  simp[tupS,inF_tup true (hn n hn') (fun w hw=>hn w (h2 w hw))]
 ·obtain⟨h1,_,h2⟩:=hL r hr
  simp[tupS]
  omega
 ·have e:(lvA names i).flatMap (fun r=>(names.filter fun n=>!decide (n∈r)).map fun n=>tupS (r++[n]))=(lvA names (i+1)).map tupS:=by
   rw[List.flatMap_def,grow_data]
   rfl
  rw[e]
  simp
theorem levels (hdn:dn=tupS names∨dn=lstS names) (hn:Oks names) (hl:names.length≤4):∀(ds:List D) (i:Nat) (w2 w3 w4:Option W),i+ds.length≤5→allVal [some (.val dn),none,w2,w3,w4]=true→
  ∃u',yForL (gName3 2) bodyA ds [some (.val dn),some (.val (.lst ((lvA names i).map tupS))),w2,w3,w4] o=(((List.range' i ds.length).flatMap (lvA names)).map (fun r=>(tupS r,o)),.nx u' o)
 | [],i,w2,w3,w4,_,_=>⟨_,rfl⟩
 | d :: ds,i,w2,w3,w4,h,hv=>by
  have hv1:allVal [some (.val dn),some (.val (.lst ((lvA names i).map tupS))),some (.val d),none,w4]=true:=by
   simp only[allVal,List.all_cons,Bool.and_eq_true] at hv⊢
   simp_all
  have hv2:allVal [some (.val dn),some (.val (.lst ((lvA names i).map tupS))),some (.val d),w3,w4]=true:=by
   simp only[allVal,List.all_cons,Bool.and_eq_true] at hv⊢
   simp_all
  obtain⟨w3',h3,e3⟩:=rows_out (o:=o) hv1 (lvA names i) w3 hv2
  have e2:yFor (iSeq (eVar 1)) (gName3 3) (yYield (eVar 3)) [some (.val dn),some (.val (.lst ((lvA names i).map tupS))),some (.val d),w3,w4] o=((lvA names i).map fun r=>(tupS r,o),.nx [some (.val dn),some (.val (.lst ((lvA names i).map tupS))),some (.val d),w3',w4] o):=by
   unfold yFor
   rw[show iSeq (eVar 1) [some (.val dn),some (.val (.lst ((lvA names i).map tupS))),some (.val d),w3,w4] o=.ok ((lvA names i).map tupS) o from rfl]
   exact e3
  simp only[List.length_cons] at h
  have e4:=next_rows (o:=o) hdn hn hl (i:=i) (by omega) (w2:=some (.val d)) (w3:=w3') (w4:=w4)
  have e5:bodyA [some (.val dn),some (.val (.lst ((lvA names i).map tupS))),some (.val d),w3,w4] o=((lvA names i).map fun r=>(tupS r,o),.nx [some (.val dn),some (.val (.lst ((lvA names (i+1)).map tupS))),some (.val d),w3',w4] o):=by
   unfold bodyA
   rw[ySeq_nx e2,plain_nx e4,List.append_nil]
  have hv4:allVal [some (.val dn),none,some (.val d),w3',w4]=true:=by
   simp only[allVal,List.all_cons,Bool.and_eq_true] at h3⊢
   simp_all
  obtain⟨u',e6⟩:=levels hdn hn hl ds (i+1) (some (.val d)) w3' w4 (by omega) hv4
  refine⟨u',?_⟩
  rw[forL_cons_nx (show gName3 2 d [some (.val dn),some (.val (.lst ((lvA names i).map tupS))),w2,w3,w4]=some [some (.val dn),some (.val (.lst ((lvA names i).map tupS))),some (.val d),w3,w4] from rfl) e5,e6]
  simp[List.range'_succ]
theorem upA_range:∀n,(List.range' 0 (n+1)).flatMap (lvA names)=upA names n
 | 0=>by simp[lvA,upA]
 | n+1=>by
  rw[List.range'_concat,List.flatMap_append,upA_range n]
  simp[upA]
theorem arr_out (hdn:dn=tupS names∨dn=lstS names) (hn:Oks names) (hl:names.length≤4) (o:Store):yf_arrangements [dn] o=some ((upA names names.length).map (fun r=>(tupS r,o)),o):=by
 have e1:(sSet 1 (eF (fLst (aCons (eTup aNil) aNil)))) [some (.val dn),none,none,none,none] o=.nx [some (.val dn),some (.val (.lst ((lvA names 0).map tupS))),none,none,none] o:=by
  show M3.srun _ (fun r=>r=_)
  simp[lvA,tupS]
 have e2:iRange1 (aCons (eBin addF (eB lenF (aCons (eVar 0) aNil)) (eC (.int 1))) aNil) [some (.val dn),some (.val (.lst ((lvA names 0).map tupS))),none,none,none] o=.ok (rangeD 0 (names.length+1)) o:=by
  show M3.run _ (fun r=>r=_)
  rcases hdn with rfl | rfl <;> simp[tupS,lstS] <;> omega
 obtain⟨u',e3⟩:=levels (o:=o) hdn hn hl (rangeD 0 (names.length+1)) 0 none none none (by rw[rangeD_length];omega) (by rfl)
 rw[rangeD_length,upA_range] at e3
 have e4:yFor (iRange1 (aCons (eBin addF (eB lenF (aCons (eVar 0) aNil)) (eC (.int 1))) aNil)) (gName3 2) bodyA [some (.val dn),some (.val (.lst ((lvA names 0).map tupS))),none,none,none] o=((upA names names.length).map (fun r=>(tupS r,o)),.nx u' o):=by
  unfold yFor
  rw[e2]
  exact e3
 have e5:yb_arrangements [some (.val dn),none,none,none,none] o=((upA names names.length).map (fun r=>(tupS r,o)),.nx u' o):=by
  show ySeq _ (yFor _ _ bodyA) _ _=_
  rw[ySeq_nx (plain_nx e1),e4,List.nil_append]
 unfold yf_arrangements ymf
 rw[show (([dn].map fun d=>some (W.val d))++List.replicate (5 - [dn].length) none:Sl3)=[some (.val dn),none,none,none,none] from rfl,e5]
end
end My
namespace My
open PySem L2 M3
theorem run_at02 {α:Type} {r x:Res α} (e:r=x) {k:Res α→Prop} (h:M3.run x k):M3.run r k:=e▸h
theorem noRs_str (ws:List Str):D.noRs (ws.map .str)=true:=by
 induction ws with
 | nil=>rfl
 | cons w ws ih=>
  show (D.noR (.str w) && D.noRs (ws.map .str))=true
  rw[ih]
  rfl
theorem gen_out {names:List Str} (hn:Oks names) (hl:names.length≤4) {u:Sl3} {st:Store} (hu:u[3]?=some (some (.val (.lst (names.map .str))))) :
  fGen (gCall 1 true yf_arrangements (aCons (eB tupCF (aCons (eVar 3) aNil)) aNil)) true u st=.ok ((upA names names.length).map tupS) st:=by
 have e1:aCons (eB tupCF (aCons (eVar 3) aNil)) aNil u st=.ok [.val (tupS names)] st:=by
  show M3.run _ (fun r=>r=_)
  simp[hu,tupS]
  try omega
 have e2:=arr_out (dn:=tupS names) (.inl rfl) hn hl []
 have e3:gMade true yf_arrangements [tupS names] st=some ((upA names names.length).map (fun r=>(tupS r,([]:Store))),[],st):=by
  unfold gMade
  rw[if_neg (by
   rw[show D.noRs [tupS names]=(D.noRs (names.map .str) && true) from rfl,noRs_str]
   simp),show gO true st=[] from rfl,e2]
  dsimp only
  rw[if_neg (by simp)]
 have ub:=upA_len hl names.length hl
 unfold fGen
 rw[show gCall 1 true yf_arrangements (aCons (eB tupCF (aCons (eVar 3) aNil)) aNil) u st=some ((upA names names.length).map (fun r=>(tupS r,([]:Store))),[],st) by
  unfold gCall
  rw[e1]
  dsimp only
  rw[show asDs [W.val (tupS names)]=some [tupS names] from rfl]
  dsimp only
  rw[if_pos (show [tupS names].length=1 from rfl)]
  exact e3]
 dsimp only
 rw[if_pos (by rw[List.length_map];omega)]
 simp[gN]
theorem isi_tup02 (xs:List D):isi2F [.val (.tup xs),.val (.ty "tuple")]=some (.val (.bl true)):=by
 first
  | rfl
  | simp[isi2F]
theorem eqF_tup02 {xs:List Str} (hx:Oks xs):eqF false (.val (tupS xs)) (.val (tupS xs))=some (.val (.bl true)):=by
 have s:SeqAt.shaped (.tuple (xs.map .str))=true:=by
  unfold SeqAt.shaped
  rw[PyData.canLay0,canLay_strs hx,PyData.depth,depth_strs]
  rfl
 unfold eqF tupS
 simp only[W_rd_val,D.eqv?,D.py,pys_strs,Option.map_some,s,and_self,if_true,PyData.eqv,eqv_strs]
 simp
theorem upA_sub (names:List Str):∀n,∀r∈upA names n,∀w∈r,w∈names
 | 0=>fun r h w hw=>by rw[List.mem_singleton.mp h] at hw;cases hw
 | n+1=>fun r h=>by
  rcases List.mem_append.mp h with q | q
  ·exact upA_sub names n r q
  ·exact(lvA_in names (n+1) r q).2.2
set_option maxHeartbeats 8000000 in
theorem law_true (ns:List Int) (hl:ns.length≤63) (hb:∀i∈ns,i.natAbs.log2≤1048576):∃st,mf_law [.ro (ns.map .int)] []=.ok (.bl true) st:=by
 suffices h:M3.run (mf_law [.ro (ns.map .int)] []) (fun r=>∃st,r=.ok (.bl true) st) from h
 obtain⟨c0,ec0,hc0⟩:=cell_at_spec ns 0 (by omega) hb hl []
 obtain⟨ds,eds,hd⟩:=digits_spec c0 3 2 hc0 (by decide) (by decide) []
 have dg:∀i,i<2→∃k:Nat,ds[i]?=some (k:Int)∧k<5040:=fun i hi=>by
  have hi':i<ds.length:=by rw[hd.1];exact hi
  have:=hd.2 ds[i] (List.getElem_mem hi')
  exact⟨ds[i].toNat,by rw[List.getElem?_eq_getElem hi'];congr 1;omega,by omega⟩
 obtain⟨d0,g0,b0⟩:=dg 0 (by decide)
 obtain⟨d1,g1,b1⟩:=dg 1 (by decide)
 obtain⟨r1,e1,l1⟩:∃r:Nat,(d1:Int) % 5=r∧r<5:=⟨d1 % 5,by omega,by omega⟩
 have s0:=spelled_spec d0 4 b0 (by decide) []
 obtain⟨names,hnames⟩:∃l,l=(words d0 4).take r1:=⟨_,rfl⟩
 have nl:names.length=r1:=by rw[hnames,List.length_take,words_length];omega
 have hn:Oks names:=fun w hw=>okN (words_nm (by rw[hnames] at hw;exact List.mem_of_mem_take hw))
 have nd:names.Nodup:=by rw[hnames];exact(words_nodup d0 (by decide)).sublist (List.take_sublist _ _)
 have ln:names.length≤4:=by omega
 have cnt:=upA_count nd ln
 have ub:=upA_len ln names.length ln
 rw[mf_law,run_mfn]
 simp[mb_law]
 rw[show mf_w_cell_at [.ro (ns.map .int),.int 0] []=_ from ec0]
 simp
 rw[show mf_w_digits [.int c0,.int 3,.int 2] []=_ from eds]
 simp[g0,g1,e1,show mf_w_spelled [.int d0,.int 4] []=_ from s0,cutT]
 rw[←List.map_take,←hnames]
 simp[show mf_w_arranged [.lst (names.map .str)] []=_ from arranged_lv names hn ln []]
 rw[←nl,atI_int _ (by omega),show ((names.length:Nat):Int).toNat=names.length from rfl]
 have cnt2:[D.int 1,D.int 2,D.int 5,D.int 16,D.int 65][names.length]?=some (.int ((upA names names.length).length:Nat)):=by
  have h1:([1,2,5,16,65]:List Nat)[names.length]?=some (upA names names.length).length:=cnt
  have h2:[D.int 1,D.int 2,D.int 5,D.int 16,D.int 65]=([1,2,5,16,65]:List Nat).map (fun n:Nat=>D.int (n:Int)):=rfl
  rw[h2,List.getElem?_map,h1]
  rfl
 rw[cnt2]
 simp[eqF_int]
 obtain⟨U,hU⟩:∃U,U=upA names names.length:=⟨_,rfl⟩
 rw[←hU] at ub⊢
 refine forL_run (fun i u st'=>st'=[]∧∃x5 x6 x7 x8,u=[some (.val (.ro (ns.map .int))),some (.val (.lst (ds.map .int))),some (.val (.int (names.length:Int))),some (.val (.lst (names.map .str))),some (.val (.lst (U.map tupS))),x5,x6,x7,x8]) ⟨rfl,_,_,_,_,rfl⟩ ?_ ?_
 ·rintro i d u st' hd' ⟨rfl,x5,x6,x7,x8,rfl⟩
  refine⟨_,rfl,?_⟩
  simp
  refine run_at02 (gen_out hn ln rfl) ?_
  rw[←hU]
  simp[eqF_int]
  rw[if_pos (by omega)]
  refine lcR_run (fun _=>.bl true) (by omega) (fun k hk=>⟨_,rfl,?_⟩) ?_
  ·have at_:(U.map tupS)[k]?=some (tupS U[k]):=by rw[List.getElem?_map,List.getElem?_eq_getElem hk];rfl
   have okU:Oks U[k]:=fun w hw=>by
    have m:U[k]∈upA names names.length:=by rw[←hU];exact List.getElem_mem hk
    exact hn w (upA_sub names _ _ m w hw)
   have q:=eqF_tup02 okU
   unfold tupS at at_ q
   unfold tupS
   simp[atN,at_,isi_tup02,q]
  ·have al:allF [.val (.lst ((List.range U.length).map fun _=>D.bl true))]=some (.val (.bl true)):=by
    rw[show ((List.range U.length).map fun _=>D.bl true)=(List.range U.length).map (fun x=>D.bl ((fun _=>true) x)) from rfl,allF_mapF]
    simp
   simp[al]
 ·rintro u st' ⟨rfl,x5,x6,x7,x8,rfl⟩
  simp
end My
namespace My
open PySem L2 M3
def top (i:Nat):Stmt:=PySem.Challenge.pw_switchedlayers_k02_arrangements.main.body.getD i (.Pass ⟨0,0,0,0⟩)
structure Txt (K:PySem.W.Frag) (mg:Str→Option Value) (G:G3):Prop where
 hK:K=G.K
 z_all:mg "all" = none
 z_int:mg "int" = none
 z_isinstance:mg "isinstance" = none
 z_len:mg "len" = none
 z_range:mg "range" = none
 z_sum:mg "sum" = none
 z_tuple:mg "tuple" = none
abbrev s_w_digits:Stmt:=top 4
abbrev n_w_digits:List Str:=["_law_cell","_law_salt","_law_many","_law_draws","_law_rest","_law_k","_law_mixed"]
theorem sc_w_digits:FnScope n_w_digits ["_law_cell","_law_salt","_law_many"] (defScope s_w_digits):=⟨rfl,rfl,rfl,by decide +kernel,rfl,by decide +kernel,by decide +kernel⟩
abbrev s_w_cell_at:Stmt:=top 3
abbrev n_w_cell_at:List Str:=["_law_script","_law_k"]
theorem sc_w_cell_at:FnScope n_w_cell_at ["_law_script","_law_k"] (defScope s_w_cell_at):=⟨rfl,rfl,rfl,by decide +kernel,rfl,by decide +kernel,by decide +kernel⟩
abbrev s_w_spelled:Stmt:=top 5
abbrev n_w_spelled:List Str:=["_law_draw","_law_many","_law_letters","_law_first","_law_place","_law_more","_law_signs","_law_rests","_law_k"]
theorem sc_w_spelled:FnScope n_w_spelled ["_law_draw","_law_many"] (defScope s_w_spelled):=⟨rfl,rfl,rfl,by decide +kernel,rfl,by decide +kernel,by decide +kernel⟩
abbrev s_w_arranged:Stmt:=top 6
abbrev n_w_arranged:List Str:=["_law_names","_law_found","_law_last","_law_size","_law_row","_law_name"]
theorem sc_w_arranged:FnScope n_w_arranged ["_law_names"] (defScope s_w_arranged):=⟨rfl,rfl,rfl,by decide +kernel,rfl,by decide +kernel,by decide +kernel⟩
abbrev s_arrangements:Stmt:=top 1
abbrev n_arrangements:List Str:=["names","rows","size","row","name"]
theorem sc_arrangements:GScope n_arrangements ["names"] (defScope s_arrangements):=⟨rfl,rfl,rfl,by decide +kernel,rfl,by decide +kernel,by decide +kernel⟩
abbrev s_law:Stmt:=top 7
abbrev n_law:List Str:=["_law_script","_law_draws","_law_many","_law_names","_law_due","_law_turn","_law_told","_law_row","_law_k"]
theorem sc_law:FnScope n_law ["_law_script"] (defScope s_law):=⟨rfl,rfl,rfl,by decide +kernel,rfl,by decide +kernel,by decide +kernel⟩
section
variable {Pg:Program} {w:World} {K:PySem.W.Frag} {mg:Str→Option Value} {base:Heap} {G:G3}
theorem ok_w_digits (hw:w=G.w) (T:Txt K mg G) {f:Addr} {fd:FuncData} (F:Fun K "_law_digits" "_law_digits" s_w_digits f fd) :
  M3.FnOk Pg w K mg base (CXq Pg w) 1 f fd ["_law_cell","_law_salt","_law_many"] (spM G 3 mf_w_digits):=
 fn_ok (k:=0) (N:=n_w_digits) (mb:=mb_w_digits) T.hK hw F sc_w_digits fun cdv A outer s H E hr=>
 (mss_cons (ms_own 3 sc_w_digits.nd (mf_lst ma_nil))
 (mss_cons (ms_set 4 sc_w_digits.nd (me_bin om_sub (me_var 0) (me_bin om_pow me_int me_int)))
 (mss_cons (ms_for (passes_of rfl) hr.cool (mi_range1 rfl T.z_range (ma_cons (me_var 2) ma_nil)) (mg_name 5 sc_w_digits.nd) (mss_one (ms_if (mt_cmp om_ge (me_var 0) (me_bin om_pow me_int me_int) (nomark _)) (mss_cons (ms_app 3 (me_bin om_mod (me_callTy cm_int rfl T.z_int (by decide +kernel) (ma_cons (me_var 4) ma_nil)) me_int))
 (mss_one (ms_set 4 sc_w_digits.nd (me_bin om_div (me_var 4) me_int)))) (mss_cons (ms_set 6 sc_w_digits.nd (me_bin om_mod (me_callTy cm_int rfl T.z_int (by decide +kernel) (ma_cons (me_bin om_add (me_bin om_add (me_bin om_mul (me_var 0) me_int) (me_bin om_mul (me_bin om_add (me_var 1) (me_var 5)) me_int)) me_int) ma_nil)) me_int))
 (mss_one (ms_app 3 (me_bin om_mod (me_bin om_mod (me_callTy cm_int rfl T.z_int (by decide +kernel) (ma_cons (me_bin om_add (me_bin om_add (me_bin om_mul (me_var 6) (me_var 6)) (me_bin om_mul me_int (me_var 1))) (me_var 5)) ma_nil)) me_int) me_int)))))))
 (mss_one (ms_retO 3)))))
theorem ok_w_cell_at (hw:w=G.w) (T:Txt K mg G) {f:Addr} {fd:FuncData} (F:Fun K "_law_cell_at" "_law_cell_at" s_w_cell_at f fd) :
  M3.FnOk Pg w K mg base (CXq Pg w) 1 f fd ["_law_script","_law_k"] (spM G 2 mf_w_cell_at):=
 fn_ok (k:=0) (N:=n_w_cell_at) (mb:=mb_w_cell_at) T.hK hw F sc_w_cell_at fun cdv A outer s H E hr=>
 (mss_cons (ms_if (mt_cmp om_lt (me_var 1) (me_callB cm_len rfl T.z_len PySem.boot_len (ma_cons (me_var 0) ma_nil)) (nomark _)) (mss_one (ms_ret (me_ix (me_var 0) (me_var 1)))) mss_nil)
 (mss_cons (ms_if (mt_cmp om_gt (me_callB cm_len rfl T.z_len PySem.boot_len (ma_cons (me_var 0) ma_nil)) me_int (nomark _)) (mss_one (ms_ret (me_bin om_add (me_bin om_mod (me_callTy cm_int rfl T.z_int (by decide +kernel) (ma_cons (me_ix (me_var 0) (me_bin om_mod (me_var 1) (me_callB cm_len rfl T.z_len PySem.boot_len (ma_cons (me_var 0) ma_nil)))) ma_nil)) me_int) (me_bin om_mul me_int (me_var 1))))) mss_nil)
 (mss_one (ms_ret (me_var 1)))))
theorem ok_w_spelled (hw:w=G.w) (T:Txt K mg G) {f:Addr} {fd:FuncData} (F:Fun K "_law_spelled" "_law_spelled" s_w_spelled f fd) :
  M3.FnOk Pg w K mg base (CXq Pg w) 1 f fd ["_law_draw","_law_many"] (spM G 2 mf_w_spelled):=
 fn_ok (k:=0) (N:=n_w_spelled) (mb:=mb_w_spelled) T.hK hw F sc_w_spelled fun cdv A outer s H E hr=>
 (mss_cons (ms_set 2 sc_w_spelled.nd me_str)
 (mss_cons (ms_set 3 sc_w_spelled.nd (me_bin om_mul (me_ix (me_var 2) (me_bin om_mod (me_bin om_div (me_callTy cm_int rfl T.z_int (by decide +kernel) (ma_cons (me_var 0) ma_nil)) me_int) me_int)) (me_bin om_mod (me_callTy cm_int rfl T.z_int (by decide +kernel) (ma_cons (me_var 0) ma_nil)) me_int)))
 (mss_cons (ms_set 4 sc_w_spelled.nd (me_bin om_mod (me_bin om_div (me_callTy cm_int rfl T.z_int (by decide +kernel) (ma_cons (me_var 0) ma_nil)) me_int) me_int))
 (mss_cons (ms_set 5 sc_w_spelled.nd (me_bin om_mod (me_bin om_div (me_callTy cm_int rfl T.z_int (by decide +kernel) (ma_cons (me_var 0) ma_nil)) me_int) me_int))
 (mss_cons (ms_set 6 sc_w_spelled.nd (me_f (mf_lc (own:=[("_law_k",8)]) hr.cool sc_w_spelled.nd (mi_range1 rfl T.z_range (ma_cons (me_var 1) ma_nil)) (blkOk_by (N:=n_w_spelled) (sc:=defScope s_w_spelled) (by decide +kernel)) (fun _ _ _ _ _ _=>(mg_name 8 sc_w_spelled.nd)) (fun _ _ _ _ _ _=>mifs_nil) (fun _ _ _ _ _ _=>(me_ix (me_var 2) (me_bin om_mod (me_callTy cm_int rfl T.z_int (by decide +kernel) (ma_cons (me_bin om_add (me_var 0) (me_bin om_mul me_int (me_var 8))) ma_nil)) me_int))))))
 (mss_cons (ms_set 7 sc_w_spelled.nd (me_f (mf_lc (own:=[("_law_k",8)]) hr.cool sc_w_spelled.nd (mi_range1 rfl T.z_range (ma_cons (me_var 1) ma_nil)) (blkOk_by (N:=n_w_spelled) (sc:=defScope s_w_spelled) (by decide +kernel)) (fun _ _ _ _ _ _=>(mg_name 8 sc_w_spelled.nd)) (fun _ _ _ _ _ _=>mifs_nil) (fun _ _ _ _ _ _=>(me_bin om_add (me_sl (me_var 3) (mp_some (me_var 4)) mp_none) (me_sl (me_var 3) mp_none (mp_some (me_bin om_mul (me_var 8) (me_var 5)))))))))
 (mss_one (ms_ret (me_f (mf_lc (own:=[("_law_k",8)]) hr.cool sc_w_spelled.nd (mi_range1 rfl T.z_range (ma_cons (me_var 1) ma_nil)) (blkOk_by (N:=n_w_spelled) (sc:=defScope s_w_spelled) (by decide +kernel)) (fun _ _ _ _ _ _=>(mg_name 8 sc_w_spelled.nd)) (fun _ _ _ _ _ _=>mifs_nil) (fun _ _ _ _ _ _=>(me_sl (me_bin om_add (me_bin om_add (me_sl (me_var 3) mp_none (mp_some (me_var 4))) (me_ix (me_var 6) (me_var 8))) (me_ix (me_var 7) (me_var 8))) mp_none (mp_some me_int)))))))))))))
theorem ok_w_arranged (hw:w=G.w) (T:Txt K mg G) {f:Addr} {fd:FuncData} (F:Fun K "_law_arranged" "_law_arranged" s_w_arranged f fd) :
  M3.FnOk Pg w K mg base (CXq Pg w) 1 f fd ["_law_names"] (spM G 1 mf_w_arranged):=
 fn_ok (k:=0) (N:=n_w_arranged) (mb:=mb_w_arranged) T.hK hw F sc_w_arranged fun cdv A outer s H E hr=>
 (mss_cons (ms_set 1 sc_w_arranged.nd (me_f (mf_lst (ma_cons (me_tup ma_nil) ma_nil))))
 (mss_cons (ms_set 2 sc_w_arranged.nd (me_f (mf_lst (ma_cons (me_tup ma_nil) ma_nil))))
 (mss_cons (ms_for (passes_of rfl) hr.cool (mi_range1 rfl T.z_range (ma_cons (me_callB cm_len rfl T.z_len PySem.boot_len (ma_cons (me_var 0) ma_nil)) ma_nil)) (mg_name 3 sc_w_arranged.nd) (mss_cons (ms_set 2 sc_w_arranged.nd (me_callB (cm_sumL hr.cool) rfl T.z_sum (by decide +kernel) (ma_cons (me_f (mf_lc (own:=[("_law_row",4)]) hr.cool sc_w_arranged.nd (mi_seq (me_var 2)) (blkOk_by (N:=n_w_arranged) (sc:=defScope s_w_arranged) (by decide +kernel)) (fun _ _ _ _ _ _=>(mg_name 4 sc_w_arranged.nd)) (fun _ _ _ _ _ _=>mifs_nil) (fun _ _ _ _ _ co15=>(me_f (mf_lc (own:=[("_law_name",5)]) (hr.blk co15).cool sc_w_arranged.nd (mi_seq (me_var 0)) (blkOk_by (by kernel_rfl)) (fun _ _ _ _ _ _=>(mg_name 5 sc_w_arranged.nd)) (fun _ _ _ _ _ co11=>(mifs_one (mt_cmp (om_notin (units65 ((hr.blk co15).blk co11))) (me_var 5) (me_var 4) (by with_unfolding_all rfl)))) (fun _ _ _ _ _ _=>(me_bin om_add (me_var 4) (me_tup (ma_cons (me_var 5) ma_nil))))))))) (ma_cons (me_f (mf_lst ma_nil)) ma_nil))))
 (mss_one (ms_set 1 sc_w_arranged.nd (me_bin om_add (me_var 1) (me_var 2))))))
 (mss_one (ms_ret (me_var 1))))))
theorem ok_arrangements (hw:w=G.w) (T:Txt K mg G) {f:Addr} {fd:FuncData} (F:Fun K "arrangements" "arrangements" s_arrangements f fd) :
  GnOk Pg w K mg base G false 1 f fd ["names"] yf_arrangements:=
 gn_ok (k:=0) (N:=n_arrangements) (mb:=yb_arrangements) T.hK hw F sc_arrangements fun cdv A outer s H h0=>
 (yss_cons (ys_ms fun g=>have hr:=gRoomG h0 g (L2.frs outer);(ms_set 1 sc_arrangements.nd (me_f (mf_lst (ma_cons (me_tup ma_nil) ma_nil)))))
 (yss_one (ys_for h0.hd (fun g=>have hr:=gRoomG h0 g (L2.frs outer);(mi_range1 rfl T.z_range (ma_cons (me_bin om_add (me_callB cm_len rfl T.z_len PySem.boot_len (ma_cons (me_var 0) ma_nil)) me_int) ma_nil))) (fun g=>have hr:=gRoomG h0 g (L2.frs outer);(mg_name 2 sc_arrangements.nd)) (yss_cons (ys_for h0.hd (fun g=>have hr:=gRoomG h0 g (L2.frs outer);(mi_seq (me_var 1))) (fun g=>have hr:=gRoomG h0 g (L2.frs outer);(mg_name 3 sc_arrangements.nd)) (yss_one (ys_yield fun g=>have hr:=gRoomG h0 g (L2.frs outer);(me_var 3))))
 (yss_one (ys_ms fun g=>have hr:=gRoomG h0 g (L2.frs outer);(ms_setLc2 (i:=1) (own:=[("row",3),("name",4)]) (vs1:=[4]) hr.cool sc_arrangements.nd (mi_seq (me_var 1)) (blkOk_by (N:=n_arrangements) (sc:=defScope s_arrangements) (by decide +kernel)) (fun _ _ _ _ _ _=>(mg_name 3 sc_arrangements.nd)) (fun _ _ _ _ _ _=>mifs_nil) (fun _ _ _ _ _ _=>(mi_seq (me_var 0))) (fun _ _ _ _ _ _=>(mg_name 4 sc_arrangements.nd)) (fun _ _ _ _ _ co20=>(mifs_one (mt_cmp (om_notin (units65 (hr.blk co20))) (me_var 4) (me_var 3) (by with_unfolding_all rfl)))) (fun _ _ _ _ _ _=>(me_bin om_add (me_var 3) (me_tup (ma_cons (me_var 4) ma_nil)))) (sw_true rfl rfl rfl (by decide +kernel)))))))))
theorem ok_law (hw:w=G.w) (T:Txt K mg G) (C_w_digits:Cal Pg w K mg base G 1 "_law_digits" 3 mf_w_digits) (C_w_cell_at:Cal Pg w K mg base G 1 "_law_cell_at" 2 mf_w_cell_at) (C_w_spelled:Cal Pg w K mg base G 1 "_law_spelled" 2 mf_w_spelled) (C_w_arranged:Cal Pg w K mg base G 1 "_law_arranged" 1 mf_w_arranged) (C_arrangements:CalG Pg w K mg base G false 1 "arrangements" 1 yf_arrangements) {f:Addr} {fd:FuncData} (F:Fun K "law" "law" s_law f fd) :
  FnOk0 Pg w K mg base 3 f fd ["_law_script"] (spM G 1 mf_law):=
 fn_ok0 (k:=2) (N:=n_law) (mb:=mb_law) T.hK hw F sc_law fun cdv A outer s H E hr hn=>
 (mss_cons (ms_set 1 sc_law.nd (me_call C_w_digits hr (by decide) (M3.takes_of rfl rfl rfl rfl) rfl (ma_cons (me_call C_w_cell_at hr (by decide) (M3.takes_of rfl rfl rfl rfl) rfl (ma_cons (me_var 0) (ma_cons me_int ma_nil))) (ma_cons me_int (ma_cons me_int ma_nil)))))
 (mss_cons (ms_set 2 sc_law.nd (me_bin om_mod (me_callTy cm_int rfl T.z_int (by decide +kernel) (ma_cons (me_ix (me_var 1) me_int) ma_nil)) me_int))
 (mss_cons (ms_set 3 sc_law.nd (me_sl (me_call C_w_spelled hr (by decide) (M3.takes_of rfl rfl rfl rfl) rfl (ma_cons (me_ix (me_var 1) me_int) (ma_cons me_int ma_nil))) mp_none (mp_some (me_var 2))))
 (mss_cons (ms_set 4 sc_law.nd (me_call C_w_arranged hr (by decide) (M3.takes_of rfl rfl rfl rfl) rfl (ma_cons (me_var 3) ma_nil)))
 (mss_cons (ms_if (mt_cmp (om_ne hr.units) (me_callB cm_len rfl T.z_len PySem.boot_len (ma_cons (me_var 4) ma_nil)) (me_ix (me_f (mf_lst (ma_cons me_int (ma_cons me_int (ma_cons me_int (ma_cons me_int (ma_cons me_int ma_nil))))))) (me_var 2)) (nomark _)) (mss_one (ms_ret me_bl)) mss_nil)
 (mss_cons (ms_for (passes_of rfl) hr.cool (mi_range1 rfl T.z_range (ma_cons me_int ma_nil)) (mg_name 5 sc_law.nd) (mss_cons (ms_set 6 sc_law.nd (me_f (mf_gen (own:=[("_law_row",7)]) (i:=7) (k:=1) hn sc_law.nd (gr_in hr hn (by decide)) hr.depth (ig_call C_arrangements (gr_at hr hn (by decide)) rfl (ma_cons (me_callTy cm_tuple rfl T.z_tuple (by decide +kernel) (ma_cons (me_var 3) ma_nil)) ma_nil)) (blkOk_by (N:=n_law) (sc:=defScope s_law) (by decide +kernel)) (by decide +kernel) (show 7<List.length n_law by decide) (fun _ _ _ _ _ _=>(mg_name 7 sc_law.nd)) (fun _ _ _ _ _ _=>(me_var 7)))))
 (mss_cons (ms_if (mt_cmp (om_ne hr.units) (me_callB cm_len rfl T.z_len PySem.boot_len (ma_cons (me_var 6) ma_nil)) (me_callB cm_len rfl T.z_len PySem.boot_len (ma_cons (me_var 4) ma_nil)) (nomark _)) (mss_one (ms_ret me_bl)) mss_nil)
 (mss_one (ms_if (mt_not (mt_tru (me_callB (cm_all hr.cool) rfl T.z_all (by decide +kernel) (ma_cons (me_f (mf_lc (own:=[("_law_k",8)]) hr.cool sc_law.nd (mi_range1 rfl T.z_range (ma_cons (me_callB cm_len rfl T.z_len PySem.boot_len (ma_cons (me_var 4) ma_nil)) ma_nil)) (blkOk_by (N:=n_law) (sc:=defScope s_law) (by decide +kernel)) (fun _ _ _ _ _ _=>(mg_name 8 sc_law.nd)) (fun _ _ _ _ _ _=>mifs_nil) (fun _ _ _ _ _ co26=>(me_and (me_callB cm_isi2 rfl T.z_isinstance (by decide +kernel) (ma_cons (me_ix (me_var 6) (me_var 8)) (ma_cons (me_ty rfl T.z_tuple (by decide +kernel)) ma_nil))) (me_one (me_cmp (om_eq (hr.blk co26).units) (me_ix (me_var 6) (me_var 8)) (me_ix (me_var 4) (me_var 8)) (nomark _))))))) ma_nil)))) (mss_one (ms_ret me_bl)) mss_nil)))))
 (mss_one (ms_ret me_bl))))))))
end
set_option maxHeartbeats 0 in
theorem all_mk {l:PySem.W.OpenLaw} {w:World} {K:PySem.W.Frag} {h:Heap} {mg:Str→Option Value} {fa f0 f1 f2 f3 f4 f5:Addr} (X:K.In h) (G0:h.Ns mainGlobals mg) (hfa:mg "law" = some (.ref fa))
  {od0 an0:Option Addr}
  {sl0:Array (Option Value)}
  {oc0 kV0 dc0 pm0 cd0 ct0:Value}
  {od1 an1:Option Addr}
  {sl1:Array (Option Value)}
  {oc1 kV1 dc1 pm1 cd1 ct1:Value}
  {od2 an2:Option Addr}
  {sl2:Array (Option Value)}
  {oc2 kV2 dc2 pm2 cd2 ct2:Value}
  {od3 an3:Option Addr}
  {sl3:Array (Option Value)}
  {oc3 kV3 dc3 pm3 cd3 ct3:Value}
  {od4 an4:Option Addr}
  {sl4:Array (Option Value)}
  {oc4 kV4 dc4 pm4 cd4 ct4:Value}
  {od5 an5:Option Addr}
  {sl5:Array (Option Value)}
  {oc5 kV5 dc5 pm5 cd5 ct5:Value}
  (a0:PySem.W.nsIn K mainGlobals "_law_digits" = some (some (.ref f0)))
  (l0:K.lookup f0=some ⟨oc0,od0,.func (PySem.W.fnOf "_law_digits" "_law_digits" (defArgs s_w_digits) (defBody s_w_digits) (defScope s_w_digits) .none kV0 dc0 pm0 an0 cd0 ct0),sl0⟩)
  (c0:PySem.W.codeIn K cd0 "_law_digits" = true)
  (k0:PySem.W.keepIn K (.ref f0)=true)
  (a1:PySem.W.nsIn K mainGlobals "_law_cell_at" = some (some (.ref f1)))
  (l1:K.lookup f1=some ⟨oc1,od1,.func (PySem.W.fnOf "_law_cell_at" "_law_cell_at" (defArgs s_w_cell_at) (defBody s_w_cell_at) (defScope s_w_cell_at) .none kV1 dc1 pm1 an1 cd1 ct1),sl1⟩)
  (c1:PySem.W.codeIn K cd1 "_law_cell_at" = true)
  (k1:PySem.W.keepIn K (.ref f1)=true)
  (a2:PySem.W.nsIn K mainGlobals "_law_spelled" = some (some (.ref f2)))
  (l2:K.lookup f2=some ⟨oc2,od2,.func (PySem.W.fnOf "_law_spelled" "_law_spelled" (defArgs s_w_spelled) (defBody s_w_spelled) (defScope s_w_spelled) .none kV2 dc2 pm2 an2 cd2 ct2),sl2⟩)
  (c2:PySem.W.codeIn K cd2 "_law_spelled" = true)
  (k2:PySem.W.keepIn K (.ref f2)=true)
  (a3:PySem.W.nsIn K mainGlobals "_law_arranged" = some (some (.ref f3)))
  (l3:K.lookup f3=some ⟨oc3,od3,.func (PySem.W.fnOf "_law_arranged" "_law_arranged" (defArgs s_w_arranged) (defBody s_w_arranged) (defScope s_w_arranged) .none kV3 dc3 pm3 an3 cd3 ct3),sl3⟩)
  (c3:PySem.W.codeIn K cd3 "_law_arranged" = true)
  (k3:PySem.W.keepIn K (.ref f3)=true)
  (a4:PySem.W.nsIn K mainGlobals "arrangements" = some (some (.ref f4)))
  (l4:K.lookup f4=some ⟨oc4,od4,.func (PySem.W.fnOf "arrangements" "arrangements" (defArgs s_arrangements) (defBody s_arrangements) (defScope s_arrangements) .none kV4 dc4 pm4 an4 cd4 ct4),sl4⟩)
  (c4:PySem.W.codeIn K cd4 "arrangements" = true)
  (k4:PySem.W.keepIn K (.ref f4)=true)
  (a5:PySem.W.nsIn K mainGlobals "law" = some (some (.ref f5)))
  (l5:K.lookup f5=some ⟨oc5,od5,.func (PySem.W.fnOf "law" "law" (defArgs s_law) (defBody s_law) (defScope s_law) .none kV5 dc5 pm5 an5 cd5 ct5),sl5⟩)
  (c5:PySem.W.codeIn K cd5 "law" = true)
  (k5:PySem.W.keepIn K (.ref f5)=true)
  (z_all:PySem.W.nsIn K mainGlobals "all" = some none)
  (z_int:PySem.W.nsIn K mainGlobals "int" = some none)
  (z_isinstance:PySem.W.nsIn K mainGlobals "isinstance" = some none)
  (z_len:PySem.W.nsIn K mainGlobals "len" = some none)
  (z_range:PySem.W.nsIn K mainGlobals "range" = some none)
  (z_sum:PySem.W.nsIn K mainGlobals "sum" = some none)
  (z_tuple:PySem.W.nsIn K mainGlobals "tuple" = some none)
  : ∃(G:G3) (fd:FuncData),G.K=K∧G.tabs=[]∧(∀(s:Shared) (v:Value),BindsTo s fd ⟨[v],[]⟩ [("_law_script",v)])∧∀base:Heap,K.In base→base.Ns mainGlobals mg→L2.FnOk l.prog w K mg base (L2.CX l.prog w) 3 fa fd ["_law_script"] (spM G 1 mf_law):=by
 have e:=hfa.symm.trans (PySem.W.mg_of X G0 a5)
 cases e
 have T:Txt K mg ⟨K,w,fun c=>List.lookup c [],fun _=>none,fun _ _=>False,[],h,fun _=>none⟩:=⟨rfl,PySem.W.mg_none_of X G0 z_all,PySem.W.mg_none_of X G0 z_int,PySem.W.mg_none_of X G0 z_isinstance,PySem.W.mg_none_of X G0 z_len,PySem.W.mg_none_of X G0 z_range,PySem.W.mg_none_of X G0 z_sum,PySem.W.mg_none_of X G0 z_tuple⟩
 revert T
 generalize hG:(⟨K,w,fun c=>List.lookup c [],fun _=>none,fun _ _=>False,[],h,fun _=>none⟩:G3)=G
 intro T
 have GK:G.K=K:=by rw[←hG]
 have Gw:w=G.w:=by rw[←hG]
 refine⟨G,PySem.W.fnOf "law" "law" (defArgs s_law) (defBody s_law) (defScope s_law) .none kV5 dc5 pm5 an5 cd5 ct5,GK,by rw[←hG],fun s v=>.of_eq rfl,fun base _ _=>?_⟩
 have F0:=fun_mk (st:=s_w_digits) l0 c0 k0
 have O0:=ok_w_digits (Pg:=l.prog) (base:=base) Gw T  F0
 have B0:=F0.binds (ps:=["_law_cell","_law_salt","_law_many"]) fun _ _ _ _ _ _ us hl=>match us,hl with | [_,_,_],_=>rfl
 have C_w_digits:Cal l.prog w K mg base G 1 "_law_digits" 3 mf_w_digits:=⟨_,_,_,PySem.W.mg_of X G0 a0,k0,B0,rfl,O0⟩
 have F1:=fun_mk (st:=s_w_cell_at) l1 c1 k1
 have O1:=ok_w_cell_at (Pg:=l.prog) (base:=base) Gw T  F1
 have B1:=F1.binds (ps:=["_law_script","_law_k"]) fun _ _ _ _ _ _ us hl=>match us,hl with | [_,_],_=>rfl
 have C_w_cell_at:Cal l.prog w K mg base G 1 "_law_cell_at" 2 mf_w_cell_at:=⟨_,_,_,PySem.W.mg_of X G0 a1,k1,B1,rfl,O1⟩
 have F2:=fun_mk (st:=s_w_spelled) l2 c2 k2
 have O2:=ok_w_spelled (Pg:=l.prog) (base:=base) Gw T  F2
 have B2:=F2.binds (ps:=["_law_draw","_law_many"]) fun _ _ _ _ _ _ us hl=>match us,hl with | [_,_],_=>rfl
 have C_w_spelled:Cal l.prog w K mg base G 1 "_law_spelled" 2 mf_w_spelled:=⟨_,_,_,PySem.W.mg_of X G0 a2,k2,B2,rfl,O2⟩
 have F3:=fun_mk (st:=s_w_arranged) l3 c3 k3
 have O3:=ok_w_arranged (Pg:=l.prog) (base:=base) Gw T  F3
 have B3:=F3.binds (ps:=["_law_names"]) fun _ _ _ _ _ _ us hl=>match us,hl with | [_],_=>rfl
 have C_w_arranged:Cal l.prog w K mg base G 1 "_law_arranged" 1 mf_w_arranged:=⟨_,_,_,PySem.W.mg_of X G0 a3,k3,B3,rfl,O3⟩
 have F4:=fun_mk (st:=s_arrangements) l4 c4 k4
 have O4:=ok_arrangements (Pg:=l.prog) (base:=base) Gw T  F4
 have B4:=F4.binds (ps:=["names"]) fun _ _ _ _ _ _ us hl=>match us,hl with | [_],_=>rfl
 have C_arrangements:CalG l.prog w K mg base G false 1 "arrangements" 1 yf_arrangements:=⟨_,_,_,PySem.W.mg_of X G0 a4,k4,B4,rfl,O4⟩
 have F5:=fun_mk (st:=s_law) l5 c5 k5
 exact low0 (ok_law Gw T C_w_digits C_w_cell_at C_w_spelled C_w_arranged C_arrangements F5)
end My
open PySem PySem.W PyProof.Rows in
set_option maxRecDepth 100000 in
set_option maxHeartbeats 0 in
theorem PySem.Challenge.cw_switchedlayers_k02_arrangements_holds : PySem.Challenge.rw_switchedlayers_k02_arrangements.Holds := by
 w_on;o_law
 refine My.Top.top (by kernel_rfl) (by first | assumption | decide +kernel) ?hw ?hc
 case hw=>w_witness2
 k_fill
 refine M3.walk3 (l:=PySem.Challenge.rw_switchedlayers_k02_arrangements) (n:=63) (k:=3) (x:="_law_script") (m:=My.mf_law) rfl (by decide) (by kernel_rfl) ⟨rfl,by decide,by decide⟩ (fun w h Y=>PySem.W.kIn_of Y) ?F My.law_true
 case F=>
  intro w mg fa h KX G hmg0
  have hmg:mg ("law" : PySem.Str)=some (.ref fa):=by
   have e:(HeadRun.topDef My.Top.R.prog My.Top.at_).name=("law" : PySem.Str):=by kernel_rfl
   rw[←e]
   exact hmg0
  refine' My.all_mk KX G hmg ?a0 ?l0 ?c0 ?k0 ?a1 ?l1 ?c1 ?k1 ?a2 ?l2 ?c2 ?k2 ?a3 ?l3 ?c3 ?k3 ?a4 ?l4 ?c4 ?k4 ?a5 ?l5 ?c5 ?k5 ?z_all ?z_int ?z_isinstance ?z_len ?z_range ?z_sum ?z_tuple
  (case a0=>k_is)
  (case l0=>k_is)
  (case c0=>k_is)
  (case k0=>k_is)
  (case a1=>k_is)
  (case l1=>k_is)
  (case c1=>k_is)
  (case k1=>k_is)
  (case a2=>k_is)
  (case l2=>k_is)
  (case c2=>k_is)
  (case k2=>k_is)
  (case a3=>k_is)
  (case l3=>k_is)
  (case c3=>k_is)
  (case k3=>k_is)
  (case a4=>k_is)
  (case l4=>k_is)
  (case c4=>k_is)
  (case k4=>k_is)
  (case a5=>k_is)
  (case l5=>k_is)
  (case c5=>k_is)
  (case k5=>k_is)
  (case z_all=>k_is)
  (case z_int=>k_is)
  (case z_isinstance=>k_is)
  (case z_len=>k_is)
  (case z_range=>k_is)
  (case z_sum=>k_is)
  (case z_tuple=>k_is)
