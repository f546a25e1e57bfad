import PyProof.Rows.All
import Wide.All
import OpenK.AllK
import Wide.FinOn
import KE.HD2
import KE.OsRunLaw
import PySem.Challenge.RW_switchedlayers_k07_kinds
import HandS.ForMost
import HandS.TupAny
import HandS.List
import HandS.Exc
import HandS.ExcOwn
import KE.KeyNested
import KE.KDictKeyed
import HandS.Nested
import HandS.Wide
import HandS.Flow
import HandS.Conv
import HandS.Deep
import HandS.IsInst
import HandS.CallSlots
import HandS.Base
import HandS.Comp
import HandS.Iter
import HandS.Call
import HandS.Hot
import HandS.HotCalls
import PyProof.Rows.TupIter
import HandS.ExcCtx
import HandS.TryOnly
import HandS.TryMany
import HandS.More
import HandS.Property
import HandS.WordsExc
import HandS.Star
import PyProof.WalkInts
import HandS.ExcInit
import HandS.ExcInitHot
import HandS.NestedHot
import KE.KIntText
import HandS.Text
import HandS.Dict
import HandS.Small
import KE.DataFind
import HandS.ClsMeth
import HandS.MakeKwOnly
import HandS.ExcIs
import HandS.ExcField
import KE.KExcIs
import HandS.DictComp
import HandS.Defaults
import PyProof.SumAny
import HandS.Strs
import HandS.Ends
import KE.KDictDisplayH
import PyProof.DictTable
import HandS.Style
import HandS.RaiseFrom
import HandS.SuiteRaise
import KE.KSuper
import KE.KExcSuper
import HandS.TupMul
import KE.KUnpackStar
import HandS.MethStar
import HandS.Finally
import KE.KWithOwn
import HandS.EndTab
import KE.KTryMore
import HandS.DictEq
import HandS.MakeKw
import HandS.GenList
import PyProof.GenRules
import PyProof.ForAny
import HandS.GenYield
import PyProof.StrLawsTight
import KE.KExcLine
import KE.KNestM
set_option Elab.async false
set_option linter.all false
set_option maxRecDepth 100000
namespace M3
open PySem PySem.W PySem.Calls PyProof.Rows
noncomputable abbrev endQ (M:Nat) (p:Program) (w:World) (os:OsState):Option SharedT:=HeadRun.endF (HeadRun.stepQ (HeadRun.denQ HeadRun.tabQ) p w) M p w os
def Tag (K:Params→Frag) (as:List Addr):Prop:=True
theorem cap {p:Prop} {K:Params→Frag} {as:List Addr} {ek:∀P,as=(K P).map (·.1)} {H:Hook} (z:Tag K as) (h:p) (e:H=kHook K as ek):p:=h
structure Wr (p:Prop) where
 K:Params→Frag
 as:List Addr
 ok:Tag K as→p→p
theorem head3 {r:OpenRow} {q:Program} {K:Params→Frag} {as:List Addr} {M:Nat} {loose:List PySem.Str} {d:DefRec} {kwd:List (PySem.Str×PySem.Expr)} (ek:∀P,as=(K P).map (·.1))
  (e:opening r.prog=plainProg r.prog.main.scope.names) (f:∀s,fenceModules? r.prog s=some s)
  (run1:∀(w:World) (os:OsState),(endQ M r.prog w os).map (fun s=>HeadRun.looksF r.prog (boot_heap w.params) s.abs)=some true)
  (run2:∀(w:World) (os:OsState),(endQ M r.prog w os).map (fun s=>HeadRun.seenQ q loose (importedModules r.prog.main.body) (fun s=>xlAt q [] s && recOk r.toRowW.records s) s.abs)=some (openGood q loose))
  (run3:∀(w:World) (os:OsState),(endQ M r.prog w os).map (fun s=>as.map (HeadRun.getT s))=some ((K w.params).map fun p=>some p.2))
  (isDef:defOf q r.name=some (d,kwd))
  (inText:r.prog.theDef r.name=some (d.params,d.body,d.scope))
  (named:kwWritten? d.params.kwonlyargs d.params.kw_defaults=some kwd)
  (noWrites:(!r.writes || r.records.isEmpty)=true)
  (said:r.wellSaid=true)
  (chained:(chainsOk q && opensWell r.prog && (frees r.toRowW && r.within.isEmpty))=true)
  (isBare:r.prog.bare) (kept:r.toRowW.promised)
  (call:WalkO q loose (XL q []) (kHook K as ek).says r.toRowW d kwd fun f vs=>PySem.call f vs):r.Holds:=by
 refine HeadRun.head_any (H:=kHook K as ek) (ob:=fun s=>as.map (HeadRun.getT s)) (M:=M) (fun s=>List.map_congr_left fun a _=>HeadRun.getT_eq s a) e f (fun w os=>?_) isDef inText named noWrites said chained isBare kept call
 obtain⟨s,hs,h1⟩:=Option.map_eq_some_iff.mp (run1 w os)
 obtain⟨s2,hs2,h2⟩:=Option.map_eq_some_iff.mp (run2 w os)
 obtain⟨s3,hs3,h3⟩:=Option.map_eq_some_iff.mp (run3 w os)
 obtain rfl:s=s2:=Option.some.inj (hs.symm.trans hs2)
 obtain rfl:s=s3:=Option.some.inj (hs.symm.trans hs3)
 show (endQ M r.prog w os).map _=_
 rw[hs]
 show some (_,_,_)=some (_,_,_)
 exact congrArg some (Prod.ext h1 (Prod.ext h2 h3))
end M3
set_option maxHeartbeats 0
namespace My.Top
open PySem PySem.W PySem.Calls PyProof.Rows
abbrev R:OpenRow:=OpenLaw.row PySem.Challenge.rw_switchedlayers_k07_kinds
section
local macro_rules | `(tactic| o_headL $H) => `(tactic| exact M3.cap (H := $H) (by assumption) (by assumption) rfl)
noncomputable def wr:M3.Wr R.Holds:=by
 refine' M3.Wr.mk _ _ (fun z h=>_)
 rotate_left 2
 k_headL
end
noncomputable def as:List Addr:=wr.as
theorem ek (P:Params):as=(wr.heap_1 P).map (·.1):=by kernel_rfl
def loose0:List PySem.Str:=["_wall","LayerError","BadBook","NoOrder","arrangements","free_name","merge_orders","LETTERS","BARE_ROWS","OWN_ROWS","MOST_ROWS","MOST_BLOCKS","is_word","good_names","are_chosen","good_classes","class_orders","bad_part","switches","well_nested","good_row","good_body","good_bodies","Book","_law_cell_at","_law_digits","_law_spelled","_law_ordered","_law_arranged","_law_is_own"]
def loose1:List PySem.Str:=["_law_every_kind","_law_class_list"]
def loose:List PySem.Str:=loose0++loose1
abbrev at_:Nat:=36
noncomputable abbrev q:Program:=view R.prog [36]
theorem run1 (w:World) (os:OsState):(M3.endQ 30000 R.prog w os).map (fun s=>HeadRun.looksF R.prog (boot_heap w.params) s.abs)=some true:=by kernel_rfl
theorem run2 (w:World) (os:OsState):(M3.endQ 30000 R.prog w os).map (fun s=>HeadRun.seenQ q loose (importedModules R.prog.main.body) (fun s=>xlAt q [] s && recOk R.toRowW.records s) s.abs)=some (openGood q loose):=by kernel_rfl
theorem run3 (w:World) (os:OsState):(M3.endQ 30000 R.prog w os).map (fun s=>as.map (HeadRun.getT s))=some ((wr.heap_1 w.params).map fun p=>some p.2):=by kernel_rfl
theorem top (hk:kwWritten? (HeadRun.topDef R.prog 36).params.kwonlyargs (HeadRun.topDef R.prog 36).params.kw_defaults=some []) (k1:R.wellSaid=true) (hw:R.toRowW.promised)
  (call:WalkO q loose (XL q []) (kHook wr.heap_1 as ek).says R.toRowW (HeadRun.topDef R.prog 36) [] fun f vs=>PySem.call f vs):R.Holds:=
 M3.head3 (d:=HeadRun.topDef R.prog 36) ek (by kernel_rfl) (fun s=>by kernel_rfl) run1 run2 run3 (by kernel_rfl) (by kernel_rfl) hk (by rfl) k1 (by decide +kernel) ⟨rfl,rfl,rfl,rfl,rfl,by decide +kernel⟩ hw call
end My.Top
namespace M3
open PySem PySem.Spec PyProof.Rows L2
def NewT (xs:List V) (H:Hp) (Q:VK):Prop:=∀(p:Addr) (o:Obj),H p=none→o.dict=none→Q (.ref p) (upd H p (.frz o (.tup xs)))
section
variable {X:Cx} {pos:Pos} {es:List Expr} {t:TA}
theorem laidT {pins:List (Addr×Obj)} {σ:L2.St} {H:Hp} {s:Shared} {h':Heap} {k:Nat} {Q:VK} {xs:List V} {us:List Value} {n:Nat} (I:Inv X pins σ H { s with heap:=h' }) (r:Vals xs us) (z:xs.length≤sizeLine) (q:NewT xs H Q) :
  EP X pins σ Q (.ref h'.objs.size) { s with heap:=h'.push { cls:=.type "tuple",data:=.seq us.toArray n },toks:=k }:=by
 have hf:H h'.objs.size=none:=I.hok.fresh (Nat.le_refl _)
 refine⟨.ref h'.objs.size,_,I.laid (t':=k) (o:=.frz { cls:=.type "tuple",data:=.seq us.toArray n } (.tup xs)) (fun b u e=>Heap.get?_push_of_some _ e) (Nat.le_refl _) ?_,rfl,q _ _ hf rfl⟩
 exact⟨Heap.get?_push_size _ rfl,z,us,r,⟨_,Heap.get?_push_size _ rfl,rfl,_,rfl⟩⟩
theorem pe_tupZ {x1} (h:PA X es t):PE X (.Tuple es x1 pos) (fun σ H Q=>t σ H fun xs H1=>xs.length≤sizeLine∧NewT xs H1 Q):=
 ⟨fun pins now σ H Q inv wish=>wpAny_Tuple_spliced <| thn (h.run pos pins now σ H _ inv wish) fun _ later ⟨_,_,J,r,z,q⟩=>⟨r.length▸z,laidT (s:=later) J r z q⟩⟩
def rCatZ (K:PySem.W.Frag):R2:=fun x y H Q=>∃a b xs ys,x=.ref a∧y=.ref b∧SqT K H a xs∧SqT K H b ys∧xs.length+ys.length≤sizeLine∧
 (xs=[]→Q (.ref b) H)∧(xs≠[]→ys=[]→Q (.ref a) H)∧(xs≠[]→ys≠[]→NewT (xs++ys) H Q)
theorem op_catZ:OpR X (binaryOp .Add) (rCatZ X.K):=by
 rintro pins now σ H _ _ v u Q inv rx ry ⟨a,b,xs,ys,rfl,rfl,ta,tb,z,left,keep,new⟩
 obtain rfl:v=.ref a:=rx
 obtain rfl:u=.ref b:=ry
 obtain⟨as,va,pa,-⟩:=inv.tuple ta
 obtain⟨bs,vb,pb,-⟩:=inv.tuple tb
 rcases eq_or_ne xs [] with e | e
 ·subst e
  cases va
  exact cat_tup0 pa pb ⟨V.ref b,H,inv,rfl,left rfl⟩
 ·have room:as.length+bs.length≤sizeLine:=va.length▸vb.length▸z
  exact HT.cat_tup pa pb (mt va.nil_iff.mp e) (fun q=>⟨V.ref a,H,inv,rfl,keep e (vb.nil_iff.mp q)⟩) (fun q=>laidT (s:=now) inv (va.append vb) (by simpa using z) (new e (mt vb.nil_iff.mpr q))) room
where
 eq_or_ne (l m:List V):l=m∨l≠m:=Classical.em _
def rSlZ (K:PySem.W.Frag):V→Option Int→Option Int→Hp→VK→Prop:=fun x lo hi H Q=>∃a xs,x=.ref a∧SqT K H a xs∧
 (HT.sIx xs.length 0 lo=0∧HT.sIx xs.length xs.length hi=xs.length→Q (.ref a) H)∧(¬(HT.sIx xs.length 0 lo=0∧HT.sIx xs.length xs.length hi=xs.length)→NewT (cutV xs lo hi) H Q)
theorem sl_tupZ:SlR X (rSlZ X.K):=by
 rintro pins now σ H _ v vl vu lo hi sl Q inv rx cut plo phi ⟨a,xs,rfl,at_,whole,part⟩
 obtain rfl:v=.ref a:=rx
 obtain⟨its,vals,tup,z⟩:=inv.tuple at_
 have same:its.toArray.size=xs.length:=(List.size_toArray ..).trans vals.length.symm
 refine⟨"tuple",_,PyProof.Rows.slot_tuple_getitem.lookup,tup.typeIs,?_⟩
 rcases Classical.em (HT.sIx xs.length 0 lo=0∧HT.sIx xs.length xs.length hi=xs.length) with all | less
 ·exact getItem_tuple_whole tup cut plo phi (same.symm▸all) ⟨V.ref a,H,inv,rfl,whole all⟩
 ·refine HT.getItem_tuple_cut tup cut plo phi (same.symm▸less) ?_ (same.symm▸z)
  rw[same]
  exact laidT (s:=now) inv ((vals.drop _).take _) (Nat.le_trans (cutV_length ..) z) (part less)
theorem call_tupleZ:CallR X (.type "tuple") (fun xs H Q=>∃p ys,xs=[.ref p]∧((SqL X.K H p ys∧NewT ys H Q)∨(SqT X.K H p ys∧Q (.ref p) H))):=by
 rintro pins now σ H _ us Q inv vals ⟨p,ys,rfl,h⟩
 obtain rfl:=Vals.ref1 vals
 cases h with
 | inl h=>
  obtain⟨its,w,lst,z⟩:=inv.list h.1
  have len:=w.length
  have room:=line63
  exact call_tuple_list lst.isList (fun later kept=>laidT (s:=now) (inv.kept (t':=now.toks) kept) w z h.2) (by simp only[List.size_toArray];omega)
 | inr h=>
  obtain⟨its,w,tup,z⟩:=inv.tuple h.1
  exact call_tuple_same tup ⟨V.ref p,H,inv,rfl,h.2⟩
end
def FTup (F:Hp) (p:Addr) (vs:List V):Prop:=∃o,F p=some (.frz o (.tup vs))∧o.dict=none
theorem FTup.sq {K:PySem.W.Frag} {F:Hp} {p:Addr} {vs:List V} (h:FTup F p vs):SqT K F p vs:=by obtain⟨o,e,_⟩:=h;exact .inl (.inr ⟨o,e⟩)
theorem FTup.mono {F F':Hp} {p:Addr} {vs:List V} (s:Same F F') (h:FTup F p vs):FTup F' p vs:=by obtain⟨o,e,d⟩:=h;exact⟨o,s _ _ e,d⟩
end M3
namespace M3
open PySem PySem.Spec PyProof.Rows L2
inductive D where
 | non | bl (b:Bool) | int (i:Int) | str (x:Str) | ty (n:String)
 | tup (xs:List D) | ctup (xs:List D) | lst (xs:List D) | ro (xs:List D) | dict (ks:List Key) (vs:List D) | dd (ks:List D) (vs:List D) | ref (k:Nat) | fn (c:String) (ks:List Nat)
inductive W where
 | val (d:D) | bor (xs:List D) | bod (ks:List Key) (vs:List D) | bdd (ks:List D) (vs:List D) | exn (c:String) (x:D) | len (xs:List D)
def W.own:W→Bool
 | .bor _=>true
 | .bod _ _=>true
 | .bdd _ _=>true
 | _=>false
inductive MO where
 | lst (xs:List D) | dic (ks:List Key) (vs:List D) | ddi (ks:List D) (vs:List D)
 | ins (c:String) (fs:List (Str×D))
 | cell (d:D)
 | kc (d:D) | slp (i:Nat) | dead
 | rdd (ks:List D) (vs:List D)
def MO.tr:MO→Bool
 | .kc _=>false
 | .slp _=>false
 | .dead=>false
 | .rdd _ _=>false
 | _=>true
abbrev Store:=List MO
inductive Res (α:Type) where
 | ok (a:α) (st:Store)
 | err (c:String) (x:D) (st:Store)
 | bad
abbrev M (α:Type):=Store→Res α
def M.pure {α:Type} (a:α):M α:=fun st=>.ok a st
def M.bind {α β:Type} (m:M α) (f:α→M β):M β:=fun st=>match m st with
 | .ok a st'=>f a st'
 | .err c x st'=>.err c x st'
 | .bad=>.bad
def M.bad {α:Type}:M α:=fun _=>.bad
def M.quiet {α:Type} (m:M α):M α:=fun st=>match m st with
 | .ok a st'=>.ok a st'
 | _=>.bad
def M.of {α:Type}:Option α→M α
 | some a=>M.pure a
 | none=>M.bad
def M.chk (c:Prop) [Decidable c]:M Unit:=fun st=>if c then .ok () st else .bad
abbrev Sl3:=List (Option W)
mutual
def D.nk:D→Option NestedKey
 | .non=>some .none
 | .bl b=>some (.num (if b then 1 else 0))
 | .int i=>some (.num i)
 | .str x=>some (.text x)
 | .tup xs=>(D.nks xs).map .tup
 | _=>none
def D.nks:List D→Option (List NestedKey)
 | []=>some []
 | x :: xs=>match D.nk x,D.nks xs with
  | some k,some ks=>some (k :: ks)
  | _,_=>none
end
def D.tk:D→Option NestedKey
 | .tup xs=>match D.nks xs with
  | some ks=>if (NestedKey.tup ks).depth≤8 then some (.tup ks) else none
  | none=>none
 | _=>none
abbrev DkX:=List (NestedKey×Addr×Value)
def DkO (w:World) (p:Addr) (xs:DkX):HO:=.ext fun h=>(p == sysModules)=false∧(xs.map (·.1)).Nodup∧xs.length≤sizeLine∧∃o es ep,h.get? p=some o∧o.ExactDict∧o.data=.dict es ep∧es.toList=xs.map fun x=>⟨x.1.hash w,.ref x.2.1,x.2.2⟩
structure FV where
 ob:Addr→HO
 c:Addr
 qual:Str
 cl:List (Str×Addr)
structure KW where
 K:PySem.W.Frag
 w:World
 nf:String→FV→Prop
def CellO (a:Addr) (v:V):HO:=.ext fun h=>∃u,RelV v u∧h.IsCell a (some u)
mutual
inductive Rep (K:KW) (F:Hp) (io:Nat→Option Addr):D→V→Prop where
 | non:Rep K F io .non .non
 | bl {b}:Rep K F io (.bl b) (.bl b)
 | int {i}:Rep K F io (.int i) (.int i)
 | str {x}:Rep K F io (.str x) (.str x)
 | ty {n}:Rep K F io (.ty n) (.ty n)
 | tup {xs vs p}:FTup F p vs→RepL K F io xs vs→Rep K F io (.tup xs) (.ref p)
 | ctup {xs vs p}:SqT K.K F p vs→RepL K F io xs vs→Rep K F io (.ctup xs) (.ref p)
 | lst {xs vs p}:F p=some (.lst vs)→RepL K F io xs vs→Rep K F io (.lst xs) (.ref p)
 | ro {xs vs p}:SqL K.K F p vs→RepL K F io xs vs→Rep K F io (.ro xs) (.ref p)
 | dict {ks us p od} {kvs:List (Key×V)}:F p=some (.frz od (.dK kvs))→kvs.map (·.1)=ks→RepL K F io us (kvs.map (·.2))→Rep K F io (.dict ks us) (.ref p)
 | dd {ks us p od} {xs:DkX} {vs:List V}:F p=some (.frz od (DkO K.w p xs))→RepL K F io ks (xs.map fun x=>.ref x.2.1)→ks.map D.tk=xs.map (fun x=>some x.1)→Vals vs (xs.map (·.2.2))→RepL K F io us vs→Rep K F io (.dd ks us) (.ref p)
 | ref {k a}:io k=some a→Rep K F io (.ref k) (.ref a)
 | fn {c ks p} {Fn:FV}:F p=some (Fn.ob p)→K.nf c Fn→F Fn.c=some (LamX.CodeO Fn.c Fn.qual)→ks.map io=Fn.cl.map (fun y=>some y.2)→(Fn.cl.map (·.2)).Nodup→Rep K F io (.fn c ks) (.ref p)
inductive RepL (K:KW) (F:Hp) (io:Nat→Option Addr):List D→List V→Prop where
 | nil:RepL K F io [] []
 | cons {x xs v vs}:Rep K F io x v→RepL K F io xs vs→RepL K F io (x :: xs) (v :: vs)
end
abbrev Io:=Nat→Option Addr
def IoLe (io io':Io):Prop:=∀k a,io k=some a→io' k=some a
theorem IoLe.refl (io:Io):IoLe io io:=fun _ _ h=>h
theorem IoLe.trans {a b c:Io} (h:IoLe a b) (h':IoLe b c):IoLe a c:=fun k x e=>h' k x (h k x e)
theorem szL {n:Nat} (h:n≤1000000):n≤sizeLine:=Nat.le_trans h (by rw[sizeLine_eq];decide)
theorem szl {n:Nat} (h:n<1000000):n<sizeLine:=Nat.lt_of_lt_of_le h (by rw[sizeLine_eq];decide)
theorem same_sqT {K:PySem.W.Frag} {F F':Hp} {p:Addr} {vs:List V} (h:Same F F') (s:SqT K F p vs):SqT K F' p vs:=by
 rcases s with (h1 | ⟨o,h1⟩) | h1
 ·exact .inl (.inl (h _ _ h1))
 ·exact .inl (.inr ⟨o,h _ _ h1⟩)
 ·exact .inr h1
theorem same_sqL {K:PySem.W.Frag} {F F':Hp} {p:Addr} {vs:List V} (h:Same F F') (s:SqL K F p vs):SqL K F' p vs:=h.seq s
theorem io_map {io io':Io} (hi:IoLe io io'):∀{ks:List Nat} {cl:List (Str×Addr)},ks.map io=cl.map (fun y=>some y.2)→ks.map io'=cl.map (fun y=>some y.2)
 | [],[],_=>rfl
 | [],_ :: _,h=>by cases h
 | _ :: _,[],h=>by cases h
 | k :: ks,y :: cl,h=>by
  rw[List.map_cons,List.map_cons,List.cons.injEq] at h⊢
  exact⟨hi _ _ h.1,io_map hi h.2⟩
section
variable {K:KW} {F F':Hp} {io io':Io}
mutual
theorem Rep.mono (hF:Same F F') (hi:IoLe io io'):∀{d:D} {v:V},Rep K F io d v→Rep K F' io' d v
 | _,_,.non=>.non
 | _,_,.bl=>.bl
 | _,_,.int=>.int
 | _,_,.str=>.str
 | _,_,.ty=>.ty
 | _,_,.tup s r=>.tup (FTup.mono hF s) (RepL.mono hF hi r)
 | _,_,.ctup s r=>.ctup (same_sqT hF s) (RepL.mono hF hi r)
 | _,_,.dict s e r=>.dict (hF _ _ s) e (RepL.mono hF hi r)
 | _,_,.dd s k e v r=>.dd (hF _ _ s) (RepL.mono hF hi k) e v (RepL.mono hF hi r)
 | _,_,.lst s r=>.lst (hF _ _ s) (RepL.mono hF hi r)
 | _,_,.ro s r=>.ro (same_sqL hF s) (RepL.mono hF hi r)
 | _,_,.ref e=>.ref (hi _ _ e)
 | _,_,.fn e n q l d=>.fn (hF _ _ e) n (hF _ _ q) (io_map hi l) d
theorem RepL.mono (hF:Same F F') (hi:IoLe io io'):∀{d:List D} {v:List V},RepL K F io d v→RepL K F' io' d v
 | _,_,.nil=>.nil
 | _,_,.cons r t=>.cons (Rep.mono hF hi r) (RepL.mono hF hi t)
end
theorem RepL.length:∀{xs:List D} {vs:List V},RepL K F io xs vs→xs.length=vs.length
 | _,_,.nil=>rfl
 | _,_,.cons _ t=>congrArg Nat.succ (RepL.length t)
theorem RepL.append:∀{xs ys:List D} {vs us:List V},RepL K F io xs vs→RepL K F io ys us→RepL K F io (xs++ys) (vs++us)
 | _,_,_,_,.nil,s=>s
 | _,_,_,_,.cons r t,s=>.cons r (RepL.append t s)
theorem RepL.get:∀{xs:List D} {vs:List V} {i:Nat} {d:D},RepL K F io xs vs→xs[i]?=some d→∃v,vs[i]?=some v∧Rep K F io d v
 | _,_,_,_,.nil,e=>by simp at e
 | _,_,0,_,.cons r _,e=>by simp at e;subst e;exact⟨_,rfl,r⟩
 | _,_,i+1,_,.cons _ t,e=>by
  obtain⟨v,h1,h2⟩:=RepL.get (i:=i) t (by simpa using e)
  exact⟨v,by simpa using h1,h2⟩
theorem RepL.get':∀{xs:List D} {vs:List V} {i:Nat} {v:V},RepL K F io xs vs→vs[i]?=some v→∃d,xs[i]?=some d∧Rep K F io d v
 | _,_,_,_,.nil,e=>by simp at e
 | _,_,0,_,.cons r _,e=>by simp at e;subst e;exact⟨_,rfl,r⟩
 | _,_,i+1,_,.cons _ t,e=>by
  obtain⟨v,h1,h2⟩:=RepL.get' (i:=i) t (by simpa using e)
  exact⟨v,by simpa using h1,h2⟩
theorem RepL.take:∀{xs:List D} {vs:List V} (n:Nat),RepL K F io xs vs→RepL K F io (xs.take n) (vs.take n)
 | _,_,0,_=>.nil
 | _,_,_+1,.nil=>.nil
 | _,_,n+1,.cons r t=>.cons r (RepL.take n t)
theorem RepL.drop:∀{xs:List D} {vs:List V} (n:Nat),RepL K F io xs vs→RepL K F io (xs.drop n) (vs.drop n)
 | _,_,0,r=>r
 | _,_,_+1,.nil=>.nil
 | _,_,n+1,.cons _ t=>RepL.drop n t
theorem RepL.set {d:D} {v:V} (r:Rep K F io d v):∀{xs:List D} {vs:List V} (i:Nat),RepL K F io xs vs→RepL K F io (xs.set i d) (vs.set i v)
 | _,_,_,.nil=>.nil
 | _,_,0,.cons _ t=>.cons r t
 | _,_,i+1,.cons q t=>.cons q (RepL.set r i t)
theorem RepL.reverse:∀{xs:List D} {vs:List V},RepL K F io xs vs→RepL K F io xs.reverse vs.reverse
 | _,_,.nil=>.nil
 | _,_,.cons r t=>by
  rw[List.reverse_cons,List.reverse_cons]
  exact(RepL.reverse t).append (.cons r .nil)
end
structure G3 where
 K:PySem.W.Frag
 w:World
 cls:String→Option Addr
 fld:String→Option Str
 nf:String→FV→Prop
 tabs:List NdefX.NTab
 base:Heap
 own:Nat→Option Addr
abbrev G3.R (G:G3):KW:=⟨G.K,G.w,G.nf⟩
structure S3 where
 io:Io
 F:Hp
 H:Hp
structure Le (B:Addr→Prop) (s s':S3):Prop where
 io:IoLe s.io s'.io
 fr:Same s.F s'.F
 hid:∀a,B a→s'.H a=s.H a
theorem Le.refl {B:Addr→Prop} (s:S3):Le B s s:=⟨IoLe.refl _,Same.refl _,fun _ _=>rfl⟩
theorem Le.trans {B:Addr→Prop} {a b c:S3} (x:Le B a b) (y:Le B b c):Le B a c:=⟨x.io.trans y.io,x.fr.trans y.fr,fun p h=>(y.hid p h).trans (x.hid p h)⟩
theorem Le.less {B B0:Addr→Prop} (h:∀a,B0 a→B a) {s s':S3} (x:Le B s s'):Le B0 s s':=⟨x.io,x.fr,fun a q=>x.hid a (h a q)⟩
inductive FsR (K:KW) (F:Hp) (io:Io):List (Str×D)→List (Str×V)→Prop where
 | nil:FsR K F io [] []
 | cons {f d v fs gs}:Rep K F io d v→FsR K F io fs gs→FsR K F io ((f,d) :: fs) ((f,v) :: gs)
theorem FsR.mono {K:KW} {F F':Hp} {io io':Io} (hF:Same F F') (hi:IoLe io io'):∀{fs gs},FsR K F io fs gs→FsR K F' io' fs gs
 | _,_,.nil=>.nil
 | _,_,.cons r t=>.cons (r.mono hF hi) (FsR.mono hF hi t)
theorem FsR.look {K:KW} {F:Hp} {io:Io} {f:Str}:∀{fs gs},FsR K F io fs gs→(∀d,fs.lookup f=some d→∃v,gs.lookup f=some v∧Rep K F io d v)∧(fs.lookup f=none→gs.lookup f=none)
 | _,_,.nil=>⟨fun d h=>by simp at h,fun _=>rfl⟩
 | _,_,.cons (f:=g) r t=>by
  have ih:=FsR.look (f:=f) t
  rw[List.lookup_cons,List.lookup_cons]
  cases h:f == g with
  | true=>exact⟨fun d e=>⟨_,rfl,by cases e;exact r⟩,fun e=>by cases e⟩
  | false=>exact ih
theorem FsR.length {K:KW} {F:Hp} {io:Io}:∀{fs gs},FsR K F io fs gs→fs.length=gs.length
 | _,_,.nil=>rfl
 | _,_,.cons _ t=>congrArg Nat.succ (FsR.length t)
structure DkR (K:KW) (F:Hp) (io:Io) (ks us:List D) (xs:DkX):Prop where
 keys:RepL K F io ks (xs.map fun x=>.ref x.2.1)
 tk:ks.map D.tk=xs.map (fun x=>some x.1)
 vals:∃vs,Vals vs (xs.map (·.2.2))∧RepL K F io us vs
theorem DkR.mono {K:KW} {F F':Hp} {io io':Io} (hF:Same F F') (hi:IoLe io io') {ks us:List D} {xs:DkX} (h:DkR K F io ks us xs):DkR K F' io' ks us xs:=
 ⟨h.keys.mono hF hi,h.tk,let ⟨vs,v,r⟩:=h.vals;⟨vs,v,r.mono hF hi⟩⟩
def ObjR (G:G3) (s:S3) (a:Addr):MO→Prop
 | .lst xs=>∃vs,s.H a=some (.lst vs)∧RepL G.R s.F s.io xs vs
 | .dic ks us=>∃kvs:List (Key×V),s.H a=some (.dK kvs)∧kvs.map (·.1)=ks∧RepL G.R s.F s.io us (kvs.map (·.2))
 | .ddi ks us=>∃xs,s.H a=some (DkO G.w a xs)∧DkR G.R s.F s.io ks us xs
 | .ins c fs=>∃C dx gs,G.cls c=some C∧s.H a=some (.ins C dx gs)∧FsR G.R s.F s.io fs gs
 | .cell d=>∃v,s.H a=some (CellO a v)∧Rep G.R s.F s.io d v
 | _=>False
def UntR (G:G3) (s:S3) (a:Addr):MO→Prop
 | .kc d=>∃v u,L2.RelV v u∧G.base.IsCell a (some u)∧Rep G.R s.F s.io d v
 | .slp i=>G.own i=some a
 | .dead=>True
 | .rdd ks us=>∃od xs,s.F a=some (.frz od (.frz od (DkO G.w a xs)))∧DkR G.R s.F s.io ks us xs
 | _=>False
def NoTbl (o:HO):Prop:=∀ps,o≠.tbl ps
theorem code_wit (c:Addr) (q:Str):∃h:Heap,(∃(oc:Obj) (vs:Array Value) (t:Tok),h.get? c=some oc∧oc.data=.fields vs∧vs[1]?=some (.str q t))∧∀a o,h.get? a=some o→∃vs,o.data=.fields vs:=by
 refine⟨{ objs:=Array.replicate (c+1) { cls:=.none,data:=.fields #[.none,.str q 0] } },⟨{ cls:=.none,data:=.fields #[.none,.str q 0] },_,0,?_,rfl,rfl⟩,fun a o e=>?_⟩
 ·unfold Heap.get?
  simp
 ·unfold Heap.get? at e
  simp only[Array.getElem?_replicate] at e
  split at e
  ·cases e
  ·split at e
   ·cases e;exact⟨_,rfl⟩
   ·cases e
theorem code_ext {c:Addr} {q:Str} {φ:Heap→Prop} (e:HO.ext φ=LamX.CodeO c q) (k:∀h,φ h→∃a o,h.get? a=some o∧∀vs,o.data≠.fields vs):False:=by
 obtain⟨h,h1,h2⟩:=code_wit c q
 unfold LamX.CodeO at e
 injection e with e
 have:φ h:=by rw[e];exact h1
 obtain⟨a,o,e1,e2⟩:=k h this
 obtain⟨vs,e3⟩:=h2 a o e1
 exact e2 vs e3
theorem dkO_code {w:World} {p:Addr} {xs:DkX} {c:Addr} {q:Str} (e:DkO w p xs=LamX.CodeO c q):False:=
 code_ext e fun h ⟨_,_,_,o,es,ep,e1,_,e2,_⟩=>⟨p,o,e1,fun vs z=>by rw[e2] at z;cases z⟩
theorem cellO_code {a:Addr} {v:V} {c:Addr} {q:Str} (e:CellO a v=LamX.CodeO c q):False:=
 code_ext e fun h ⟨_,_,o,e1,e2⟩=>⟨a,o,e1,fun vs z=>by rw[e2] at z;cases z⟩
structure OwnH (o:HO):Prop where
 tbl:NoTbl o
 code:∀c q,o≠LamX.CodeO c q
def TabR (s:S3) (p:NdefX.NTab):Prop:=∃ps:Array Value,s.H p.1=some (.tbl ps)∧TriplesOk ps.toList∧∀(pos:Pos) (cv:Value),codeAmong pos ps.toList=some cv→∃c,cv=.ref c∧s.F c=some (LamX.CodeO c (p.2 pos.line pos.col))
theorem TabR.mono {s s':S3} {p:NdefX.NTab} (hf:Same s.F s'.F) (hh:∀ps,s.H p.1=some (.tbl ps)→s'.H p.1=some (.tbl ps)) (x:TabR s p):TabR s' p:=
 let ⟨ps,e,t,r⟩:=x
 ⟨ps,hh ps e,t,fun pos cv q=>let ⟨c,e1,e2⟩:=r pos cv q;⟨c,e1,hf _ _ e2⟩⟩
structure Wd (G:G3) (B:Addr→Prop) (st:Store) (s:S3):Prop where
 sub:Same s.F s.H
 hid:∀a,B a→s.F a=none∧∃o,s.H a=some o∧OwnH o
 ftb:∀a o,s.F a=some o→NoTbl o
 dom:∀k a,s.io k=some a→k<st.length
 inj:∀j k a oj ok,s.io j=some a→s.io k=some a→st[j]?=some oj→oj.tr=true→st[k]?=some ok→ok.tr=true→j=k
 obj:∀k o,st[k]?=some o→o.tr=true→∃a,s.io k=some a∧¬B a∧s.F a=none∧ObjR G s a o
 unt:∀k o,st[k]?=some o→o.tr=false→∃a,s.io k=some a∧UntR G s a o
 tabs:∀p∈G.tabs,TabR s p
theorem Wd.freshF {G:G3} {B:Addr→Prop} {st:Store} {s:S3} (w:Wd G B st s) {p:Addr} (h:s.H p=none):s.F p=none:=by
 cases q:s.F p with
 | none=>rfl
 | some o=>rw[w.sub p o q] at h;cases h
theorem Wd.freshB {G:G3} {B:Addr→Prop} {st:Store} {s:S3} (w:Wd G B st s) {p:Addr} (h:s.H p=none):¬B p:=fun b=>by
 obtain⟨_,o,e,_⟩:=w.hid p b
 rw[e] at h;cases h
theorem ObjR.there {G:G3} {s:S3} {a:Addr} {o:MO} (x:ObjR G s a o):∃u,s.H a=some u:=by
 cases o with
 | lst xs=>obtain⟨vs,q,_⟩:=x;exact⟨_,q⟩
 | dic ks us=>obtain⟨vs,q,_⟩:=x;exact⟨_,q⟩
 | ddi ks us=>obtain⟨vs,q,_⟩:=x;exact⟨_,q⟩
 | ins c fs=>obtain⟨_,_,_,_,q,_⟩:=x;exact⟨_,q⟩
 | cell d=>obtain⟨_,q,_⟩:=x;exact⟨_,q⟩
 | _=>exact False.elim x
theorem Wd.tabM {G:G3} {B:Addr→Prop} {st:Store} {s s':S3} (w:Wd G B st s) (hf:Same s.F s'.F) (hh:∀P ps,s.H P=some (.tbl ps)→s'.H P=some (.tbl ps)):∀p∈G.tabs,TabR s' p:=fun p hp=>
 (w.tabs p hp).mono hf (hh p.1)
theorem upd_tbl {H:Hp} {p:Addr} {o:HO} (h:∀ps,H p≠some (.tbl ps)):∀P ps,H P=some (.tbl ps)→upd H p o P=some (.tbl ps):=fun P ps e=>by
 rw[upd_ne (fun z=>by subst z;exact h ps e)];exact e
theorem ObjR.ntbl {G:G3} {s:S3} {a:Addr} {o:MO} (x:ObjR G s a o):∀ps,s.H a≠some (.tbl ps):=fun ps z=>by
 cases o with
 | lst xs=>obtain⟨vs,q,_⟩:=x;rw[z] at q;cases q
 | dic ks us=>obtain⟨vs,q,_⟩:=x;rw[z] at q;cases q
 | ddi ks us=>obtain⟨vs,q,_⟩:=x;rw[z] at q;cases q
 | ins c fs=>obtain⟨_,_,_,_,q,_⟩:=x;rw[z] at q;cases q
 | cell d=>obtain⟨_,q,_⟩:=x;rw[z] at q;cases q
 | _=>exact False.elim x
theorem Wd.ntbl {G:G3} {B:Addr→Prop} {st:Store} {s:S3} (w:Wd G B st s) {p:Addr} (b:B p):∀ps,s.H p≠some (.tbl ps):=fun ps z=>by
 obtain⟨_,o,e,n⟩:=w.hid p b
 rw[z] at e;cases e
 exact n.tbl ps rfl
theorem ntbl_none {H:Hp} {p:Addr} (h:H p=none):∀ps,H p≠some (.tbl ps):=fun ps z=>by rw[h] at z;cases z
theorem ObjR.tr {G:G3} {s:S3} {a:Addr} {o:MO} (x:ObjR G s a o):o.tr=true:=by
 cases o <;> first | rfl | exact False.elim x
theorem Wd.freshI {G:G3} {B:Addr→Prop} {st:Store} {s:S3} (w:Wd G B st s) {p:Addr} (h:s.H p=none) {k:Nat} {o:MO} (eo:st[k]?=some o) (t:o.tr=true):s.io k≠some p:=fun e=>by
 obtain⟨a,e',_,_,x⟩:=w.obj k o eo t
 rw[e] at e';cases e'
 obtain⟨u,q⟩:=x.there
 rw[h] at q;cases q
theorem UntR.mono {G:G3} {s s':S3} {a:Addr} {o:MO} (hi:IoLe s.io s'.io) (hf:Same s.F s'.F) (x:UntR G s a o):UntR G s' a o:=by
 cases o with
 | kc d=>obtain⟨v,u,r,b,q⟩:=x;exact⟨v,u,r,b,q.mono hf hi⟩
 | slp i=>exact x
 | dead=>exact x
 | rdd ks us=>obtain⟨od,xs,e,r⟩:=x;exact⟨od,xs,hf _ _ e,r.mono hf hi⟩
 | _=>exact False.elim x
theorem Wd.untM {G:G3} {B:Addr→Prop} {st:Store} {s s':S3} (w:Wd G B st s) (hi:IoLe s.io s'.io) (hf:Same s.F s'.F):∀k o,st[k]?=some o→o.tr=false→∃a,s'.io k=some a∧UntR G s' a o:=fun k o e t=>
 let ⟨a,e1,x⟩:=w.unt k o e t
 ⟨a,hi k a e1,x.mono hi hf⟩
theorem ObjR.mono {G:G3} {s s':S3} {a:Addr} {o:MO} (hi:IoLe s.io s'.io) (hf:Same s.F s'.F) (hh:s'.H a=s.H a) (x:ObjR G s a o):ObjR G s' a o:=by
 cases o with
 | lst xs=>obtain⟨vs,e,r⟩:=x;exact⟨vs,hh.trans e,r.mono hf hi⟩
 | dic ks us=>obtain⟨vs,e,e2,r⟩:=x;exact⟨vs,hh.trans e,e2,r.mono hf hi⟩
 | ddi ks us=>obtain⟨vs,e,r⟩:=x;exact⟨vs,hh.trans e,r.mono hf hi⟩
 | ins c fs=>obtain⟨C,dx,gs,e0,e,r⟩:=x;exact⟨C,dx,gs,e0,hh.trans e,r.mono hf hi⟩
 | cell d=>obtain⟨v,e,r⟩:=x;exact⟨v,hh.trans e,r.mono hf hi⟩
 | _=>exact False.elim x
def S3.froz (s:S3) (p:Addr) (o:HO):S3:=⟨s.io,upd s.F p o,upd s.H p o⟩
theorem same_upd {H:Hp} {p:Addr} {o:HO} (h:H p=none):Same H (upd H p o):=fun b u e=>by
 rw[upd_ne (ne_of_none e h)];exact e
theorem Wd.froz {G:G3} {B:Addr→Prop} {st:Store} {s:S3} (w:Wd G B st s) {p:Addr} (h:s.H p=none) (o:HO) (nt:NoTbl o:=by intro _ q;cases q):Wd G B st (s.froz p o)∧Le B s (s.froz p o):=by
 have hF:=w.freshF h
 have nB:∀a,B a→a≠p:=fun a b e=>w.freshB h (e▸b)
 refine⟨⟨fun b u e=>?_,fun a b=>?_,fun a u e=>?_,w.dom,w.inj,fun k u e t=>?_,w.untM (IoLe.refl _) (same_upd hF),w.tabM (same_upd hF) (upd_tbl (ntbl_none h))⟩,IoLe.refl _,same_upd hF,fun a b=>upd_ne (nB a b)⟩
 ·show upd s.H p o b=some u
  have e:upd s.F p o b=some u:=e
  by_cases hb:b=p
  ·subst hb;rw[upd_same] at e⊢;exact e
  ·rw[upd_ne hb] at e⊢;exact w.sub b u e
 ·obtain⟨h1,u,h2,h3⟩:=w.hid a b
  exact⟨by show upd s.F p o a=none;rw[upd_ne (nB a b)];exact h1,u,by show upd s.H p o a=some u;rw[upd_ne (nB a b)];exact h2,h3⟩
 ·have e:upd s.F p o a=some u:=e
  by_cases hb:a=p
  ·subst hb;rw[upd_same] at e;cases e;exact nt
  ·rw[upd_ne hb] at e;exact w.ftb a u e
 ·obtain⟨a,e1,b1,f1,o1⟩:=w.obj k u e t
  have na:a≠p:=fun z=>w.freshI h e t (z▸e1)
  exact⟨a,e1,b1,by show upd s.F p o a=none;rw[upd_ne na];exact f1,ObjR.mono (s:=s) (s':=s.froz p o) (IoLe.refl _) (same_upd hF) (upd_ne na) o1⟩
theorem Wd.newT {G:G3} {B:Addr→Prop} {st:Store} {s:S3} {xs:List D} {vs:List V} {Q:VK} (w:Wd G B st s) (r:RepL G.R s.F s.io xs vs)
  (k:∀(s':S3) (v:V),Le B s s'→Wd G B st s'→Rep G.R s'.F s'.io (.tup xs) v→Q v s'.H):NewT vs s.H Q:=fun p o hp hd=>
 let ⟨w2,l2⟩:=w.froz hp (.frz o (.tup vs))
 k (s.froz p (.frz o (.tup vs))) (.ref p) l2 w2 (.tup ⟨o,upd_same,hd⟩ (r.mono l2.fr l2.io))
def ExR (G:G3) (s:S3) (c:String) (x:D) (cv:Value) (dd:Option Addr):Prop:=
 match G.cls c with
 | none=>cv=.type c
 | some C=>cv=.ref C∧(match G.fld c with
  | none=>dd=none
  | some f=>∃d fs v,dd=some d∧s.F d=some (.xd fs)∧fs.lookup f=some v∧Rep G.R s.F s.io x v)
abbrev Hex:=Option (Addr×String×D×Option Addr)
def XFld (G:G3) (s:S3) (c:String) (x:D) (dd:Option Addr):Prop:=∀C f,G.cls c=some C→G.fld c=some f→∃d fs v,dd=some d∧s.F d=some (.xd fs)∧fs.lookup f=some v∧Rep G.R s.F s.io x v
theorem XFld.mono {G:G3} {s s':S3} {c:String} {x:D} {dd:Option Addr} (hi:IoLe s.io s'.io) (hf:Same s.F s'.F) (h:XFld G s c x dd):XFld G s' c x dd:=fun C f h1 h2=>
 let ⟨d,fs,v,q1,q2,q3,q4⟩:=h C f h1 h2
 ⟨d,fs,v,q1,hf _ _ q2,q3,q4.mono hf hi⟩
def RepW (G:G3) (X:Hex) (B:Addr→Prop) (s:S3):W→V→Prop
 | .val d,v=>Rep G.R s.F s.io d v
 | .bor xs,v=>∃p vs,v=.ref p∧B p∧s.H p=some (.lst vs)∧RepL G.R s.F s.io xs vs
 | .bod ks us,v=>∃(p:Addr) (kvs:List (Key×V)),v=.ref p∧B p∧s.H p=some (.dK kvs)∧kvs.map (·.1)=ks∧RepL G.R s.F s.io us (kvs.map (·.2))
 | .bdd ks us,v=>∃(p:Addr) (xs:DkX),v=.ref p∧B p∧s.H p=some (DkO G.w p xs)∧DkR G.R s.F s.io ks us xs
 | .exn c x,v=>∃a dd,X=some (a,c,x,dd)∧v=.ref a∧XFld G s c x dd
 | .len xs,v=>∃p vs o,v=.ref p∧B p∧s.H p=some (.frz o (.lst vs))∧RepL G.R s.F s.io xs vs
theorem RepW.mono {G:G3} {X:Hex} {B:Addr→Prop} {s s':S3} (l:Le B s s') {w:W} {v:V} (r:RepW G X B s w v):RepW G X B s' w v:=by
 cases w with
 | val d=>exact Rep.mono l.fr l.io r
 | bor xs=>obtain⟨p,vs,e,b,h,r⟩:=r;exact⟨p,vs,e,b,(l.hid p b).trans h,r.mono l.fr l.io⟩
 | bod ks us=>obtain⟨p,vs,e,b,h,e2,r⟩:=r;exact⟨p,vs,e,b,(l.hid p b).trans h,e2,r.mono l.fr l.io⟩
 | bdd ks us=>obtain⟨p,vs,e,b,h,r⟩:=r;exact⟨p,vs,e,b,(l.hid p b).trans h,r.mono l.fr l.io⟩
 | exn c x=>
  obtain⟨a,dd,e1,e2,xf⟩:=r
  exact⟨a,dd,e1,e2,xf.mono l.io l.fr⟩
 | len xs=>obtain⟨p,vs,o,e,b,h,r⟩:=r;exact⟨p,vs,o,e,b,(l.hid p b).trans h,r.mono l.fr l.io⟩
structure Slo (G:G3) (X:Hex) (B0 B:Addr→Prop) (s:S3) (u:Sl3) (z:L2.St):Prop where
 len:u.length=z.length
 ex:∃ow:Nat→Addr,(∀(i:Nat) (w:W),u[i]?=some (some w)→∃v,z[i]?=some (some v)∧RepW G X B s w v∧(w.own=true→v=.ref (ow i)∧¬B0 (ow i)))∧
  ∀(i j:Nat) (w w':W),w.own=true→w'.own=true→u[i]?=some (some w)→u[j]?=some (some w')→ow i=ow j→i=j
theorem Slo.mono {G:G3} {X:Hex} {B0 B:Addr→Prop} {s s':S3} {u:Sl3} {z:L2.St} (l:Le B s s') (h:Slo G X B0 B s u z):Slo G X B0 B s' u z:=by
 obtain⟨hl,ow,h1,h2⟩:=h
 exact⟨hl,ow,fun i w e=>let ⟨v,e1,r,q⟩:=h1 i w e;⟨v,e1,r.mono l,q⟩,h2⟩
theorem Slo.get {G:G3} {X:Hex} {B0 B:Addr→Prop} {s:S3} {u:Sl3} {z:L2.St} (h:Slo G X B0 B s u z) {i:Nat} {w:W} (e:u[i]?=some (some w)):∃v,z[i]?=some (some v)∧RepW G X B s w v:=by
 obtain⟨hl,ow,h1,h2⟩:=h
 obtain⟨v,e1,r,_⟩:=h1 i w e
 exact⟨v,e1,r⟩
def Post {α β:Type} (G:G3) (B:Addr→Prop) (R:S3→α→β→Prop) (E:XK) (s:S3) (Q:β→Hp→Prop):Res α→Prop
 | .ok a st'=>∀(s':S3) (b:β),Le B s s'→Wd G B st' s'→R s' a b→Q b s'.H
 | .err c x st'=>∀(s':S3) (cv:Value) (dd:Option Addr),Le B s s'→Wd G B st' s'→ExR G s' c x cv dd→E cv dd s'.H
 | .bad=>False
theorem Post.mono {α β:Type} {G:G3} {B:Addr→Prop} {R:S3→α→β→Prop} {E:XK} {s s1:S3} {Q:β→Hp→Prop} {r:Res α} (l:Le B s s1) (h:Post G B R E s Q r):Post G B R E s1 Q r:=by
 cases r with
 | ok a st'=>exact fun s' b l' w r=>h s' b (l.trans l') w r
 | err c x st'=>exact fun s' cv dd l' w r=>h s' cv dd (l.trans l') w r
 | bad=>exact h
theorem Post.bind {α β γ δ:Type} {G:G3} {B:Addr→Prop} {R:S3→α→β→Prop} {R':S3→γ→δ→Prop} {E:XK} {s:S3} {Q:δ→Hp→Prop} {Q1:β→Hp→Prop} {m:M α} {f:α→M γ} {st:Store} (h:Post G B R' E s Q (M.bind m f st))
  (k:∀a st' s' b,Le B s s'→Wd G B st' s'→R s' a b→Post G B R' E s' Q (f a st')→Q1 b s'.H):Post G B R E s Q1 (m st):=by
 unfold M.bind at h
 cases e:m st with
 | ok a st'=>
  rw[e] at h
  exact fun s' b l w r=>k a st' s' b l w r (Post.mono l h)
 | err c x st'=>rw[e] at h;exact h
 | bad=>rw[e] at h;exact h
theorem Post.pure {α β:Type} {G:G3} {B:Addr→Prop} {R:S3→α→β→Prop} {E:XK} {s:S3} {Q:β→Hp→Prop} {a:α} {b:β} {st:Store} (h:Post G B R E s Q (.ok a st)) (w:Wd G B st s) (r:R s a b):Q b s.H:=h s b (Le.refl _) w r
abbrev EM:=Sl3→M W
abbrev TM:=Sl3→M Bool
abbrev AM:=Sl3→M (List W)
inductive RepWs (G:G3) (X:Hex) (B:Addr→Prop) (s:S3):List W→List V→Prop where
 | nil:RepWs G X B s [] []
 | cons {w v ws vs}:RepW G X B s w v→RepWs G X B s ws vs→RepWs G X B s (w :: ws) (v :: vs)
theorem RepWs.mono {G:G3} {X:Hex} {B:Addr→Prop} {s s':S3} (l:Le B s s'):∀{ws:List W} {vs:List V},RepWs G X B s ws vs→RepWs G X B s' ws vs
 | _,_,.nil=>.nil
 | _,_,.cons r t=>.cons (r.mono l) (RepWs.mono l t)
theorem RepWs.length {G:G3} {X:Hex} {B:Addr→Prop} {s:S3}:∀{ws:List W} {vs:List V},RepWs G X B s ws vs→ws.length=vs.length
 | _,_,.nil=>rfl
 | _,_,.cons _ t=>congrArg Nat.succ (RepWs.length t)
structure P3 where
 X:Cx
 G:G3
 hx:Hex
 wx:WX
 hK:X.K=G.K
 hw:X.w=G.w
def tE (G:G3) (hx:Hex) (wx:WX) (m:EM):TE:=fun z H Q=>∃(B0 B:Addr→Prop) (s:S3) (st:Store) (u:Sl3),s.H=H∧Wd G B st s∧Slo G hx B0 B s u z∧Post G B (RepW G hx B) (fun c d H=>wx c d z H) s Q (m u st)
def tT (G:G3) (hx:Hex) (wx:WX) (m:TM):TT:=fun z H Q=>∃(B0 B:Addr→Prop) (s:S3) (st:Store) (u:Sl3),s.H=H∧Wd G B st s∧Slo G hx B0 B s u z∧Post G B (fun _ a b=>a=b) (fun c d H=>wx c d z H) s Q (m u st)
def tA (G:G3) (hx:Hex) (wx:WX) (m:AM):TA:=fun z H Q=>∃(B0 B:Addr→Prop) (s:S3) (st:Store) (u:Sl3),s.H=H∧Wd G B st s∧Slo G hx B0 B s u z∧Post G B (RepWs G hx B) (fun c d H=>wx c d z H) s Q (m u st)
structure ME (P:P3) (e:Expr) (m:EM):Prop where
 pe:PE P.X e (tE P.G P.hx P.wx m)
structure MT (P:P3) (e:Expr) (m:TM):Prop where
 pt:PT P.X e (tT P.G P.hx P.wx m)
structure MW (P:P3) (e:Expr) (m:TM):Prop where
 pw:PW P.X e (tT P.G P.hx P.wx m)
structure MA (P:P3) (es:List Expr) (m:AM):Prop where
 pa:PA P.X es (tA P.G P.hx P.wx m)
section
variable {P:P3} {e:Expr} {es:List Expr}
theorem ME.mk' {m:EM} {t:TE} (h:PE P.X e t) (k:∀(B0 B:Addr→Prop) (s:S3) (st:Store) (u:Sl3) (z:L2.St) (Q:VK),Wd P.G B st s→Slo P.G P.hx B0 B s u z→
  Post P.G B (RepW P.G P.hx B) (fun c d H=>P.wx c d z H) s Q (m u st)→t z s.H Q):ME P e m:=
 ⟨⟨fun pins s0 z H Q I ⟨B0,B,s,st,u,e,wd,sl,p⟩=>by subst e;exact h.run pins s0 z _ Q I (k B0 B s st u z Q wd sl p)⟩⟩
theorem MT.mk' {m:TM} {t:TT} (h:PT P.X e t) (k:∀(B0 B:Addr→Prop) (s:S3) (st:Store) (u:Sl3) (z:L2.St) (Q:Bool→Hp→Prop),Wd P.G B st s→Slo P.G P.hx B0 B s u z→
  Post P.G B (fun _ a b=>a=b) (fun c d H=>P.wx c d z H) s Q (m u st)→t z s.H Q):MT P e m:=
 ⟨⟨fun pins s0 z H Q I ⟨B0,B,s,st,u,e,wd,sl,p⟩=>by subst e;exact h.run pins s0 z _ Q I (k B0 B s st u z Q wd sl p)⟩⟩
theorem MW.mk' {m:TM} {t:TT} (h:PW P.X e t) (k:∀(B0 B:Addr→Prop) (s:S3) (st:Store) (u:Sl3) (z:L2.St) (Q:Bool→Hp→Prop),Wd P.G B st s→Slo P.G P.hx B0 B s u z→
  Post P.G B (fun _ a b=>a=b) (fun c d H=>P.wx c d z H) s Q (m u st)→t z s.H Q):MW P e m:=
 ⟨⟨fun whole pins s0 z H Q I ⟨B0,B,s,st,u,e,wd,sl,p⟩=>by subst e;exact h.run whole pins s0 z _ Q I (k B0 B s st u z Q wd sl p)⟩⟩
theorem MA.mk' {m:AM} {t:TA} (h:PA P.X es t) (k:∀(B0 B:Addr→Prop) (s:S3) (st:Store) (u:Sl3) (z:L2.St) (Q:List V→Hp→Prop),Wd P.G B st s→Slo P.G P.hx B0 B s u z→
  Post P.G B (RepWs P.G P.hx B) (fun c d H=>P.wx c d z H) s Q (m u st)→t z s.H Q):MA P es m:=
 ⟨⟨fun pos pins s0 z H Q I ⟨B0,B,s,st,u,e,wd,sl,p⟩=>by subst e;exact h.run pos pins s0 z _ Q I (k B0 B s st u z Q wd sl p)⟩⟩
theorem ME.out {m:EM} (h:ME P e m):∃t,PE P.X e t∧∀(B0 B:Addr→Prop) (s:S3) (st:Store) (u:Sl3) (z:L2.St) (Q:VK),Wd P.G B st s→Slo P.G P.hx B0 B s u z→
  Post P.G B (RepW P.G P.hx B) (fun c d H=>P.wx c d z H) s Q (m u st)→t z s.H Q:=⟨_,h.pe,fun B0 B s st u z Q wd sl p=>⟨B0,B,s,st,u,rfl,wd,sl,p⟩⟩
theorem MT.out {m:TM} (h:MT P e m):∃t,PT P.X e t∧∀(B0 B:Addr→Prop) (s:S3) (st:Store) (u:Sl3) (z:L2.St) (Q:Bool→Hp→Prop),Wd P.G B st s→Slo P.G P.hx B0 B s u z→
  Post P.G B (fun _ a b=>a=b) (fun c d H=>P.wx c d z H) s Q (m u st)→t z s.H Q:=⟨_,h.pt,fun B0 B s st u z Q wd sl p=>⟨B0,B,s,st,u,rfl,wd,sl,p⟩⟩
theorem MW.out {m:TM} (h:MW P e m):∃t,PW P.X e t∧∀(B0 B:Addr→Prop) (s:S3) (st:Store) (u:Sl3) (z:L2.St) (Q:Bool→Hp→Prop),Wd P.G B st s→Slo P.G P.hx B0 B s u z→
  Post P.G B (fun _ a b=>a=b) (fun c d H=>P.wx c d z H) s Q (m u st)→t z s.H Q:=⟨_,h.pw,fun B0 B s st u z Q wd sl p=>⟨B0,B,s,st,u,rfl,wd,sl,p⟩⟩
theorem MA.out {m:AM} (h:MA P es m):∃t,PA P.X es t∧∀(B0 B:Addr→Prop) (s:S3) (st:Store) (u:Sl3) (z:L2.St) (Q:List V→Hp→Prop),Wd P.G B st s→Slo P.G P.hx B0 B s u z→
  Post P.G B (RepWs P.G P.hx B) (fun c d H=>P.wx c d z H) s Q (m u st)→t z s.H Q:=⟨_,h.pa,fun B0 B s st u z Q wd sl p=>⟨B0,B,s,st,u,rfl,wd,sl,p⟩⟩
end
abbrev FM:=Sl3→M (List D)
def plus (B:Addr→Prop) (p:Addr):Addr→Prop:=fun a=>B a∨a=p
def PostF (G:G3) (B:Addr→Prop) (E:XK) (s:S3) (Q:VK):Res (List D)→Prop
 | .ok xs st'=>∀(s':S3) (p:Addr) (vs:List V),Le B s s'→Wd G (plus B p) st' s'→¬B p→s'.H p=some (.lst vs)→RepL G.R s'.F s'.io xs vs→Q (.ref p) s'.H
 | .err c x st'=>∀(s':S3) (cv:Value) (dd:Option Addr),Le B s s'→Wd G B st' s'→ExR G s' c x cv dd→E cv dd s'.H
 | .bad=>False
def tF (G:G3) (hx:Hex) (wx:WX) (m:FM):TE:=fun z H Q=>∃(B0 B:Addr→Prop) (s:S3) (st:Store) (u:Sl3),s.H=H∧Wd G B st s∧Slo G hx B0 B s u z∧PostF G B (fun c d H=>wx c d z H) s Q (m u st)
structure MF (P:P3) (e:Expr) (m:FM):Prop where
 pe:PE P.X e (tF P.G P.hx P.wx m)
theorem MF.mk' {P:P3} {e:Expr} {m:FM} {t:TE} (h:PE P.X e t) (k:∀(B0 B:Addr→Prop) (s:S3) (st:Store) (u:Sl3) (z:L2.St) (Q:VK),Wd P.G B st s→Slo P.G P.hx B0 B s u z→
  PostF P.G B (fun c d H=>P.wx c d z H) s Q (m u st)→t z s.H Q):MF P e m:=
 ⟨⟨fun pins s0 z H Q I ⟨B0,B,s,st,u,e,wd,sl,p⟩=>by subst e;exact h.run pins s0 z _ Q I (k B0 B s st u z Q wd sl p)⟩⟩
theorem MF.out {P:P3} {e:Expr} {m:FM} (h:MF P e m):∃t,PE P.X e t∧∀(B0 B:Addr→Prop) (s:S3) (st:Store) (u:Sl3) (z:L2.St) (Q:VK),Wd P.G B st s→Slo P.G P.hx B0 B s u z→
  PostF P.G B (fun c d H=>P.wx c d z H) s Q (m u st)→t z s.H Q:=⟨_,h.pe,fun B0 B s st u z Q wd sl p=>⟨B0,B,s,st,u,rfl,wd,sl,p⟩⟩
section
variable {G:G3} {B:Addr→Prop} {E:XK} {s s1:S3} {Q:VK}
theorem PostF.mono {r:Res (List D)} (l:Le B s s1) (h:PostF G B E s Q r):PostF G B E s1 Q r:=by
 cases r with
 | ok a st'=>exact fun s' p vs l' w nb hp r=>h s' p vs (l.trans l') w nb hp r
 | err c x st'=>exact fun s' cv dd l' w r=>h s' cv dd (l.trans l') w r
 | bad=>exact h
theorem PostF.bind {α β:Type} {R:S3→α→β→Prop} {Q1:β→Hp→Prop} {m:M α} {f:α→M (List D)} {st:Store} (h:PostF G B E s Q (M.bind m f st))
  (k:∀a st' s' b,Le B s s'→Wd G B st' s'→R s' a b→PostF G B E s' Q (f a st')→Q1 b s'.H):Post G B R E s Q1 (m st):=by
 unfold M.bind at h
 cases e:m st with
 | ok a st'=>
  rw[e] at h
  exact fun s' b l w r=>k a st' s' b l w r (PostF.mono l h)
 | err c x st'=>rw[e] at h;exact h
 | bad=>rw[e] at h;exact h
theorem PostF.of_chk {c:Prop} [Decidable c] {f:M (List D)} {st:Store} (h:PostF G B E s Q (M.bind (M.chk c) (fun _=>f) st)):c∧PostF G B E s Q (f st):=by
 by_cases hc:c
 ·refine⟨hc,?_⟩
  have e:M.bind (M.chk c) (fun _=>f) st=f st:=by unfold M.bind M.chk;rw[if_pos hc]
  rw[e] at h;exact h
 ·have e:M.bind (M.chk c) (fun _=>f) st=.bad:=by unfold M.bind M.chk;rw[if_neg hc]
  rw[e] at h;exact h.elim
theorem Wd.less {B':Addr→Prop} {st:Store} (w:Wd G B' st s) (h:∀a,B a→B' a):Wd G B st s:=
 ⟨w.sub,fun a b=>w.hid a (h a b),w.ftb,w.dom,w.inj,fun k o e t=>let ⟨a,e1,b,f,r⟩:=w.obj k o e t;⟨a,e1,fun z=>b (h a z),f,r⟩,w.unt,w.tabs⟩
theorem freeze_le {p:Addr} {ho:HO} {st:Store} (w:Wd G (plus B p) st s):Le B s ⟨s.io,upd s.F p ho,s.H⟩:=
 ⟨IoLe.refl _,same_upd (w.hid p (.inr rfl)).1,fun _ _=>rfl⟩
theorem freeze_wd {p:Addr} {ho:HO} {st:Store} (w:Wd G (plus B p) st s) (nb:¬B p) (h:s.H p=some ho):Wd G B st ⟨s.io,upd s.F p ho,s.H⟩:=by
 have hF:=(w.hid p (.inr rfl)).1
 have nt:NoTbl ho:=by
  obtain⟨_,o,e,n⟩:=w.hid p (.inr rfl)
  rw[h] at e;cases e;exact n.tbl
 refine⟨fun b o e=>?_,fun a b=>?_,fun a o e=>?_,w.dom,w.inj,fun k o e t=>?_,w.untM (IoLe.refl _) (same_upd hF),w.tabM (same_upd hF) fun _ _ e=>e⟩
 ·have e:upd s.F p ho b=some o:=e
  by_cases hb:b=p
  ·subst hb;rw[upd_same] at e;cases e;exact h
  ·rw[upd_ne hb] at e;exact w.sub b o e
 ·obtain⟨h1,h2⟩:=w.hid a (.inl b)
  exact⟨by show upd s.F p ho a=none;rw[upd_ne (show a≠p from fun z=>by subst z;exact nb b)];exact h1,h2⟩
 ·have e:upd s.F p ho a=some o:=e
  by_cases hb:a=p
  ·subst hb;rw[upd_same] at e;cases e;exact nt
  ·rw[upd_ne hb] at e;exact w.ftb a o e
 ·obtain⟨a,e1,b1,f1,o1⟩:=w.obj k o e t
  have na:a≠p:=fun z=>b1 (.inr z)
  exact⟨a,e1,fun z=>b1 (.inl z),by show upd s.F p ho a=none;rw[upd_ne na];exact f1,ObjR.mono (s:=s) (s':=⟨s.io,upd s.F p ho,s.H⟩) (IoLe.refl _) (same_upd hF) rfl o1⟩
theorem own_wd {p:Addr} {ho:HO} {st:Store} (w:Wd G B st s) (hp:s.H p=none) (nt:OwnH ho:=by exact⟨fun _ q=>(by cases q),fun _ _ q=>(by first | exact dkO_code q | exact cellO_code q | (unfold LamX.CodeO at q;cases q))⟩):Wd G (plus B p) st ⟨s.io,s.F,upd s.H p ho⟩∧Le B s ⟨s.io,s.F,upd s.H p ho⟩:=by
 have nB:∀a,B a→a≠p:=fun a b e=>w.freshB hp (e▸b)
 have hF:=w.freshF hp
 refine⟨⟨fun b o e=>?_,fun a b=>?_,w.ftb,w.dom,w.inj,fun k o e t=>?_,w.untM (IoLe.refl _) (Same.refl _),w.tabM (Same.refl _) (upd_tbl (ntbl_none hp))⟩,IoLe.refl _,Same.refl _,fun a b=>upd_ne (nB a b)⟩
 ·show upd s.H p _ b=some o
  rw[upd_ne (fun z=>by subst z;have e:s.F b=some o:=e;rw[hF] at e;cases e)];exact w.sub b o e
 ·rcases b with b | b
  ·obtain⟨h1,o,h2,h3⟩:=w.hid a b
   exact⟨h1,o,by show upd s.H p _ a=some o;rw[upd_ne (nB a b)];exact h2,h3⟩
  ·subst b
   exact⟨hF,_,upd_same,nt⟩
 ·obtain⟨a,e1,b1,f1,o1⟩:=w.obj k o e t
  have na:a≠p:=fun z=>w.freshI hp e t (z▸e1)
  exact⟨a,e1,fun z=>z.elim b1 na,f1,ObjR.mono (s:=s) (s':=⟨s.io,s.F,upd s.H p ho⟩) (IoLe.refl _) (Same.refl _) (upd_ne na) o1⟩
theorem PostF.fresh {p:Addr} {xs:List D} {vs:List V} {st:Store} (h:PostF G B E s Q (.ok xs st)) (w:Wd G B st s) (r:RepL G.R s.F s.io xs vs) (hp:s.H p=none):Q (.ref p) (upd s.H p (.lst vs)):=
 let ⟨w2,l2⟩:=own_wd (ho:=.lst vs) w hp
 h ⟨s.io,s.F,upd s.H p (.lst vs)⟩ p vs l2 w2 (w.freshB hp) upd_same r
end
inductive SRes where
 | nx (u:Sl3) (st:Store) | rt (w:W) (st:Store) | bk (u:Sl3) (st:Store) | ct (u:Sl3) (st:Store)
 | err (c:String) (x:D) (u:Sl3) (st:Store) | bad
abbrev SM:=Sl3→Store→SRes
def PostS (G:G3) (hx:Hex) (wx:WX) (B0:Addr→Prop) (s:S3) (D:Ends):SRes→Prop
 | .nx u' st'=>∀(B':Addr→Prop) (s':S3) (z':L2.St),(∀a,B0 a→B' a)→Le B0 s s'→Wd G B' st' s'→Slo G hx B0 B' s' u' z'→D.nx z' s'.H
 | .bk u' st'=>∀(B':Addr→Prop) (s':S3) (z':L2.St),(∀a,B0 a→B' a)→Le B0 s s'→Wd G B' st' s'→Slo G hx B0 B' s' u' z'→D.bk z' s'.H
 | .ct u' st'=>∀(B':Addr→Prop) (s':S3) (z':L2.St),(∀a,B0 a→B' a)→Le B0 s s'→Wd G B' st' s'→Slo G hx B0 B' s' u' z'→D.ct z' s'.H
 | .rt w st'=>∀(B':Addr→Prop) (s':S3) (v:V),(∀a,B0 a→B' a)→Le B0 s s'→Wd G B' st' s'→RepR G B0 B' s' w v→D.rt v s'.H
 | .err c x u' st'=>∀(B':Addr→Prop) (s':S3) (z':L2.St) (cv:Value) (dd:Option Addr),(∀a,B0 a→B' a)→Le B0 s s'→Wd G B' st' s'→Slo G hx B0 B' s' u' z'→ExR G s' c x cv dd→wx cv dd z' s'.H
 | .bad=>False
where
 RepR (G:G3) (B0 B:Addr→Prop) (s:S3):W→V→Prop
  | .val d,v=>Rep G.R s.F s.io d v
  | .bor xs,v=>∃p vs,v=.ref p∧B p∧¬B0 p∧s.H p=some (.lst vs)∧RepL G.R s.F s.io xs vs
  | .bod ks us,v=>∃(p:Addr) (kvs:List (Key×V)),v=.ref p∧B p∧¬B0 p∧s.H p=some (.dK kvs)∧kvs.map (·.1)=ks∧RepL G.R s.F s.io us (kvs.map (·.2))
  | .bdd ks us,v=>∃(p:Addr) (xs:DkX),v=.ref p∧B p∧¬B0 p∧s.H p=some (DkO G.w p xs)∧DkR G.R s.F s.io ks us xs
  | .exn _ _,_=>False
  | .len _,_=>False
def tS (G:G3) (hx:Hex) (wx:WX) (m:SM):TS:=fun D z H=>∃(B0 B:Addr→Prop) (s:S3) (o:Store) (u:Sl3),s.H=H∧(∀a,B0 a→B a)∧Wd G B o s∧Slo G hx B0 B s u z∧PostS G hx wx B0 s D (m u o)
structure MS (P:P3) (st:Stmt) (m:SM):Prop where
 ps:PS P.X st (tS P.G P.hx P.wx m)
structure MSs (P:P3) (st:List Stmt) (m:SM):Prop where
 pss:PSs P.X st (tS P.G P.hx P.wx m)
theorem MS.mk' {P:P3} {st:Stmt} {m:SM} {t:TS} (h:PS P.X st t) (k:∀(B0 B:Addr→Prop) (s:S3) (o:Store) (u:Sl3) (z:L2.St) (D:Ends),(∀a,B0 a→B a)→Wd P.G B o s→Slo P.G P.hx B0 B s u z→PostS P.G P.hx P.wx B0 s D (m u o)→t D z s.H):MS P st m:=
 ⟨⟨fun pins s0 z H D I ⟨B0,B,s,o,u,e,b,wd,sl,p⟩=>by subst e;exact h.run pins s0 z _ D I (k B0 B s o u z D b wd sl p)⟩⟩
theorem MSs.mk' {P:P3} {st:List Stmt} {m:SM} {t:TS} (h:PSs P.X st t) (k:∀(B0 B:Addr→Prop) (s:S3) (o:Store) (u:Sl3) (z:L2.St) (D:Ends),(∀a,B0 a→B a)→Wd P.G B o s→Slo P.G P.hx B0 B s u z→PostS P.G P.hx P.wx B0 s D (m u o)→t D z s.H):MSs P st m:=
 ⟨⟨fun pins s0 z H D I ⟨B0,B,s,o,u,e,b,wd,sl,p⟩=>by subst e;exact h.run pins s0 z _ D I (k B0 B s o u z D b wd sl p)⟩⟩
theorem MS.out {P:P3} {st:Stmt} {m:SM} (h:MS P st m):∃t,PS P.X st t∧∀(B0 B:Addr→Prop) (s:S3) (o:Store) (u:Sl3) (z:L2.St) (D:Ends),(∀a,B0 a→B a)→Wd P.G B o s→Slo P.G P.hx B0 B s u z→PostS P.G P.hx P.wx B0 s D (m u o)→t D z s.H:=
 ⟨_,h.ps,fun B0 B s o u z D b wd sl p=>⟨B0,B,s,o,u,rfl,b,wd,sl,p⟩⟩
theorem MSs.out {P:P3} {st:List Stmt} {m:SM} (h:MSs P st m):∃t,PSs P.X st t∧∀(B0 B:Addr→Prop) (s:S3) (o:Store) (u:Sl3) (z:L2.St) (D:Ends),(∀a,B0 a→B a)→Wd P.G B o s→Slo P.G P.hx B0 B s u z→PostS P.G P.hx P.wx B0 s D (m u o)→t D z s.H:=
 ⟨_,h.pss,fun B0 B s o u z D b wd sl p=>⟨B0,B,s,o,u,rfl,b,wd,sl,p⟩⟩
theorem PostS.mono {G:G3} {hx:Hex} {wx:WX} {B0:Addr→Prop} {s s1:S3} {D:Ends} {r:SRes} (l:Le B0 s s1) (h:PostS G hx wx B0 s D r):PostS G hx wx B0 s1 D r:=by
 cases r with
 | nx u' st'=>exact fun B' s' z' b l' w r=>h B' s' z' b (l.trans l') w r
 | bk u' st'=>exact fun B' s' z' b l' w r=>h B' s' z' b (l.trans l') w r
 | ct u' st'=>exact fun B' s' z' b l' w r=>h B' s' z' b (l.trans l') w r
 | rt w st'=>exact fun B' s' v b l' w r=>h B' s' v b (l.trans l') w r
 | err c x u' st'=>exact fun B' s' z' cv dd b l' w r=>h B' s' z' cv dd b (l.trans l') w r
 | bad=>exact h
end M3
namespace M3
open PySem PySem.Spec PyProof.Rows L2
def W.d:W→Option D
 | .val d=>some d
 | _=>none
def W.rd:W→Option D
 | .val d=>some d
 | .bor xs=>some (.lst xs)
 | .len xs=>some (.ro xs)
 | _=>none
def asDs:List W→Option (List D)
 | []=>some []
 | .val d :: ws=>(asDs ws).map (d :: ·)
 | _ :: _=>none
section
variable {G:G3} {X:Hex} {B:Addr→Prop} {s:S3}
theorem rd_ok {w:M3.W} {v:V} {d:D} {st:Store} (wd:Wd G B st s) (r:RepW G X B s w v) (e:w.rd=some d):Rep G.R s.H s.io d v:=by
 cases w with
 | val d'=>cases e;exact Rep.mono wd.sub (IoLe.refl _) r
 | bor xs=>cases e;obtain⟨p,vs,rfl,b,h,r⟩:=r;exact .lst h (r.mono wd.sub (IoLe.refl _))
 | bod ks us=>cases e
 | bdd ks us=>cases e
 | exn c x=>cases e
 | len xs=>cases e;obtain⟨p,vs,o,rfl,b,h,r⟩:=r;exact .ro (.inl (.inr ⟨o,h⟩)) (r.mono wd.sub (IoLe.refl _))
theorem asDs_ok:∀{ws:List W} {vs:List V} {ds:List D},RepWs G X B s ws vs→asDs ws=some ds→RepL G.R s.F s.io ds vs
 | _,_,_,.nil,e=>by cases e;exact .nil
 | w :: ws,_,ds,.cons r t,e=>by
  cases w with
  | val d=>
   unfold asDs at e
   cases h:asDs ws with
   | none=>rw[h] at e;cases e
   | some ds'=>rw[h] at e;cases e;exact .cons r (asDs_ok t h)
  | _=>cases e
end
section
variable {α β γ δ:Type} {G:G3} {B:Addr→Prop} {R:S3→α→β→Prop} {R':S3→γ→δ→Prop} {E:XK} {s:S3} {Q:δ→Hp→Prop}
theorem Post.of_chk {c:Prop} [Decidable c] {f:M γ} {st:Store} (h:Post G B R' E s Q (M.bind (M.chk c) (fun _=>f) st)):c∧Post G B R' E s Q (f st):=by
 by_cases hc:c
 ·refine⟨hc,?_⟩
  have e:M.bind (M.chk c) (fun _=>f) st=f st:=by unfold M.bind M.chk;rw[if_pos hc]
  rw[e] at h;exact h
 ·have e:M.bind (M.chk c) (fun _=>f) st=.bad:=by unfold M.bind M.chk;rw[if_neg hc]
  rw[e] at h;exact h.elim
theorem Post.of_of {a:Option α} {f:α→M γ} {st:Store} (h:Post G B R' E s Q (M.bind (M.of a) f st)):∃x,a=some x∧Post G B R' E s Q (f x st):=by
 cases a with
 | none=>exact h.elim
 | some x=>exact⟨x,rfl,h⟩
end
section
variable {G:G3} {B:Addr→Prop} {E:XK} {s:S3} {Q:VK}
theorem PostF.of_of {α:Type} {a:Option α} {f:α→M (List D)} {st:Store} (h:PostF G B E s Q (M.bind (M.of a) f st)):∃x,a=some x∧PostF G B E s Q (f x st):=by
 cases a with
 | none=>exact h.elim
 | some x=>exact⟨x,rfl,h⟩
end
def eVar (i:Nat):EM:=fun u st=>match u[i]? with
 | some (some w)=>.ok w st
 | _=>.bad
def eC (d:D):EM:=fun _=>M.pure (.val d)
section
variable {P:P3} {pos p pos':Pos}
theorem me_var (i:Nat) {x:Str} (hN:P.X.N[i]?=some x:=by rfl) (hv:Vis P.X.env.scope x:=by first | exact Or.inl rfl | exact Or.inr (Or.inl rfl) | exact Or.inr (Or.inr rfl)) (hd:(x == ("__debug__" : Str))=false:=by decide)
  (hcd:(x == ("__classdict__" : Str))=false:=by decide):ME P (.Name x pos) (eVar i):=by
 refine ME.mk' (pe_var hN hv hd hcd) fun B0 B s st u z Q wd sl h=>?_
 unfold eVar at h
 cases e:u[i]? with
 | none=>rw[e] at h;exact h.elim
 | some o=>
  cases o with
  | none=>rw[e] at h;exact h.elim
  | some w=>
   rw[e] at h
   obtain⟨v,e1,r⟩:=sl.get e
   exact⟨v,e1,h.pure wd r⟩
theorem me_c {e:Expr} {d:D} {v:V} (h:PE P.X e (tC v)) (r:∀F io,Rep P.G.R F io d v):ME P e (eC d):=
 ME.mk' h fun B0 B s st u z Q wd sl h=>h.pure wd (show Rep P.G.R s.F s.io d v from r _ _)
theorem me_int {i j}:ME P (.Constant (.int i) j pos) (eC (.int i)):=me_c pe_int fun _ _=>.int
theorem me_bl {b j}:ME P (.Constant (.bool b) j pos) (eC (.bl b)):=me_c pe_bl fun _ _=>.bl
theorem me_non {j}:ME P (.Constant .none j pos) (eC .non):=me_c pe_non fun _ _=>.non
theorem me_str {x j}:ME P (.Constant (.str x) j pos) (eC (.str x)):=me_c pe_str fun _ _=>.str
theorem me_glob {x:Str} {d:D} {v:V} {u:Value} (hg:Gl P.X x) (hm:P.X.mg x=some u) (rv:RelV v u) (r:∀F io,Rep P.G.R F io d v) (hd:(x == ("__debug__" : Str))=false:=by decide):ME P (.Name x pos) (eC d):=
 me_c (pe_glob hg hm rv hd) r
theorem me_ty {x:Str} {T:String} (hg:Gl P.X x) (hm:P.X.mg x=none) (hv:bootBuiltins x=some (.type T)) (hn:x≠"__name__":=by decide) (hd:(x == ("__debug__" : Str))=false:=by decide):ME P (.Name x pos) (eC (.ty T)):=
 me_c (pe_bltn (v:=.ty T) hg hm hv rfl hn hd) fun _ _=>.ty
def aNil:AM:=fun _=>M.pure []
def aCons (m:EM) (ms:AM):AM:=fun u=>M.bind (m u) fun w=>M.bind (ms u) fun ws=>M.pure (w :: ws)
theorem ma_nil:MA P [] aNil:=MA.mk' pa_nil fun B0 B s st u z Q wd sl h=>h.pure wd .nil
theorem ma_cons {e:Expr} {es:List Expr} {m:EM} {ms:AM} (he:ME P e m) (hs:MA P es ms) (hst:starEach (e :: es) P.X.env=(false,eval e P.X.env) :: starEach es P.X.env:=by rfl):MA P (e :: es) (aCons m ms):=by
 obtain⟨t,pt,ht⟩:=he.out
 obtain⟨r,pr,hr⟩:=hs.out
 refine MA.mk' (pa_cons pt pr hst) fun B0 B s st u z Q wd sl h=>ht B0 B s st u z _ wd sl (Post.bind h fun w st1 s1 v l1 wd1 r1 h1=>?_)
 refine hr B0 B s1 st1 u z _ wd1 (sl.mono l1) (Post.bind h1 fun ws st2 s2 vs l2 wd2 r2 h2=>?_)
 exact h2.pure wd2 (.cons (r1.mono l2) r2)
def eTup (m:AM):EM:=fun u=>M.bind (m u) fun ws=>M.bind (M.of (asDs ws)) fun ds=>M.bind (M.chk (ds.length≤1000000)) fun _=>M.pure (.val (.tup ds))
theorem me_tup {es:List Expr} {m:AM} {x1} (hs:MA P es m):ME P (.Tuple es x1 pos) (eTup m):=by
 obtain⟨t,pt,ht⟩:=hs.out
 refine ME.mk' (pe_tupZ pt) fun B0 B s st u z Q wd sl h=>ht B0 B s st u z _ wd sl (Post.bind h fun ws st1 s1 vs l1 wd1 r1 h1=>?_)
 obtain⟨ds,e,h1⟩:=Post.of_of h1
 have rl:=asDs_ok r1 e
 obtain⟨hz,h1⟩:=Post.of_chk h1
 exact⟨by rw[←rl.length];exact szL hz,wd1.newT rl fun s' v l w r=>h1 s' v l w r⟩
def fLst (m:AM):FM:=fun u=>M.bind (m u) fun ws=>M.bind (M.of (asDs ws)) fun ds=>M.bind (M.chk (ds.length≤1000000)) fun _=>M.pure ds
theorem mf_lst {es:List Expr} {m:AM} (hs:MA P es m):MF P (.List es pos) (fLst m):=by
 obtain⟨t,pt,ht⟩:=hs.out
 refine MF.mk' (pe_lst pt) fun B0 B s st u z Q wd sl h=>ht B0 B s st u z _ wd sl (PostF.bind h fun ws st1 s1 vs l1 wd1 r1 h1=>?_)
 obtain⟨ds,e,h1⟩:=PostF.of_of h1
 have rl:=asDs_ok r1 e
 obtain⟨hz,h1⟩:=PostF.of_chk h1
 exact⟨by rw[←rl.length];exact szL hz,fun p hp=>PostF.fresh h1 wd1 rl hp⟩
def eF (m:FM):EM:=fun u=>M.bind (m u) fun xs=>M.pure (.val (.lst xs))
theorem me_f {e:Expr} {m:FM} (h:MF P e m):ME P e (eF m):=by
 obtain⟨t,pt,ht⟩:=h.out
 refine ME.mk' pt fun B0 B s st u z Q wd sl h=>ht B0 B s st u z _ wd sl ?_
 unfold eF M.bind at h
 cases e:m u st with
 | ok xs st'=>
  rw[e] at h
  exact fun s' p vs l w nb hp r=>h ⟨s'.io,upd s'.F p (.lst vs),s'.H⟩ (.ref p) (l.trans (freeze_le w)) (freeze_wd w nb hp) (.lst upd_same (r.mono (freeze_le w).fr (freeze_le w).io))
 | err c x st'=>rw[e] at h;exact h
 | bad=>rw[e] at h;exact h
end
end M3
namespace M3
open PySem PySem.Spec PyProof.Rows L2
def OpM (P:P3) (f:Value→Value→Sem Value) (g:W→W→Option W):Prop:=∃r,OpR P.X f r∧∀(B:Addr→Prop) (s:S3) (st:Store) (w1 w2 w:W) (v1 v2:V) (Q:VK),Wd P.G B st s→RepW P.G P.hx B s w1 v1→RepW P.G P.hx B s w2 v2→
 g w1 w2=some w→(∀(s':S3) (v:V),Le B s s'→Wd P.G B st s'→RepW P.G P.hx B s' w v→Q v s'.H)→r v1 v2 s.H Q
def eBin (g:W→W→Option W) (a b:EM):EM:=fun u=>M.bind (a u) fun x=>M.bind (b u) fun y=>M.of (g x y)
section
variable {P:P3} {pos:Pos} {a b c:Expr} {ma mb mc:EM} {g g':W→W→Option W}
theorem op_use {R:R2} (h:OpM P f g) {B0 B:Addr→Prop} {s:S3} {st:Store} {u:Sl3} {z:L2.St} {Q:VK} {ta tb:TE}
  (ha:∀(B0 B:Addr→Prop) (s:S3) (st:Store) (u:Sl3) (z:L2.St) (Q:VK),Wd P.G B st s→Slo P.G P.hx B0 B s u z→Post P.G B (RepW P.G P.hx B) (fun c d H=>P.wx c d z H) s Q (ma u st)→ta z s.H Q)
  (hb:∀(B0 B:Addr→Prop) (s:S3) (st:Store) (u:Sl3) (z:L2.St) (Q:VK),Wd P.G B st s→Slo P.G P.hx B0 B s u z→Post P.G B (RepW P.G P.hx B) (fun c d H=>P.wx c d z H) s Q (mb u st)→tb z s.H Q)
  (hr:∀(B:Addr→Prop) (s:S3) (st:Store) (w1 w2 w:W) (v1 v2:V) (Q:VK),Wd P.G B st s→RepW P.G P.hx B s w1 v1→RepW P.G P.hx B s w2 v2→
   g w1 w2=some w→(∀(s':S3) (v:V),Le B s s'→Wd P.G B st s'→RepW P.G P.hx B s' w v→Q v s'.H)→R v1 v2 s.H Q)
  (wd:Wd P.G B st s) (sl:Slo P.G P.hx B0 B s u z) (hp:Post P.G B (RepW P.G P.hx B) (fun c d H=>P.wx c d z H) s Q (eBin g ma mb u st)):tOp R ta tb z s.H Q:=by
 refine ha B0 B s st u z _ wd sl (Post.bind hp fun w1 st1 s1 v1 l1 wd1 r1 h1=>?_)
 refine hb B0 B s1 st1 u z _ wd1 (sl.mono l1) (Post.bind h1 fun w2 st2 s2 v2 l2 wd2 r2 h2=>?_)
 cases e:g w1 w2 with
 | none=>rw[e] at h2;exact h2.elim
 | some w=>rw[e] at h2;exact hr B s2 st2 w1 w2 w v1 v2 Q wd2 (r1.mono l2) r2 e fun s' v l w' r=>h2 s' v l w' r
theorem me_bin {op:Operator} (h:OpM P (binaryOp op) g) (ha:ME P a ma) (hb:ME P b mb):ME P (.BinOp a op b pos) (eBin g ma mb):=by
 obtain⟨ta,pa,ha⟩:=ha.out
 obtain⟨tb,pb,hb⟩:=hb.out
 obtain⟨r,hr,hq⟩:=id h
 exact ME.mk' (pe_op hr pa pb) fun B0 B s st u z Q wd sl hp=>op_use h ha hb hq wd sl hp
theorem me_cmp {op:CmpOp} (h:OpM P (compareOp op) g) (ha:ME P a ma) (hb:ME P b mb) (hm:behindInMarks op b=false):ME P (.Compare a [op] [b] pos) (eBin g ma mb):=by
 obtain⟨ta,pa,ha⟩:=ha.out
 obtain⟨tb,pb,hb⟩:=hb.out
 obtain⟨r,hr,hq⟩:=id h
 exact ME.mk' (pe_cmpR hr pa pb hm) fun B0 B s st u z Q wd sl hp=>op_use h ha hb hq wd sl hp
def W.bool:W→Option Bool
 | .val (.bl b)=>some b
 | _=>none
theorem bool_inv {w:M3.W} {k:Bool} (e:w.bool=some k):w=.val (.bl k):=by
 unfold W.bool at e
 split at e
 ·cases e;rfl
 ·cases e
def tOf (m:EM):TM:=fun u=>M.bind (m u) fun w=>M.of w.bool
theorem mt_cmp {op:CmpOp} (h:OpM P (compareOp op) g) (ha:ME P a ma) (hb:ME P b mb) (hm:behindInMarks op b=false):MT P (.Compare a [op] [b] pos) (tOf (eBin g ma mb)):=by
 obtain⟨ta,pa,ha⟩:=ha.out
 obtain⟨tb,pb,hb⟩:=hb.out
 obtain⟨r,hr,hq⟩:=id h
 refine MT.mk' (pt_cmpR hr pa pb hm) fun B0 B s st u z Q wd sl hp=>?_
 refine op_use h ha hb hq wd sl (Post.bind hp fun w st1 s1 v l1 wd1 r1 h1=>?_)
 obtain⟨k,e,h1⟩:∃k,w.bool=some k∧Post P.G B (fun _ a b=>a=b) (fun c d H=>P.wx c d z H) s1 Q (.ok k st1):=by
  cases e:w.bool with
  | none=>rw[e] at h1;exact h1.elim
  | some k=>rw[e] at h1;exact⟨k,rfl,h1⟩
 obtain rfl:=bool_inv e
 cases r1
 exact⟨k,rfl,h1.pure wd1 rfl⟩
end
def W.ls:W→Option (List D)
 | .val (.lst xs)=>some xs
 | .bor xs=>some xs
 | _=>none
def addF:W→W→Option W
 | .val (.int i),.val (.int j)=>some (.val (.int (i+j)))
 | .val (.str a),.val (.str b)=>if a.length+b.length≤1000000 then some (.val (.str (a++b))) else none
 | .val (.tup xs),.val (.tup ys)=>if xs.length+ys.length≤1000000 then some (.val (.tup (xs++ys))) else none
 | x,y=>match x.ls,y.ls with
  | some xs,some ys=>if xs.length+ys.length≤1000000 then some (.val (.lst (xs++ys))) else none
  | _,_=>none
theorem ls_ok {G:G3} {X:Hex} {B:Addr→Prop} {s:S3} {st:Store} {w:W} {v:V} {xs:List D} (wd:Wd G B st s) (r:RepW G X B s w v) (e:w.ls=some xs):∃p vs,v=.ref p∧s.H p=some (.lst vs)∧RepL G.R s.F s.io xs vs:=by
 cases w with
 | val d=>
  cases d with
  | lst ys=>cases e;cases r with | lst h r=>exact⟨_,_,rfl,wd.sub _ _ h,r⟩
  | _=>cases e
 | bor ys=>cases e;obtain⟨p,vs,rfl,b,h,r⟩:=r;exact⟨p,vs,rfl,h,r⟩
 | _=>cases e
section
variable {P:P3}
theorem om_add:OpM P (binaryOp .Add) addF:=by
 refine⟨_,op_add.or (op_add_str.or (op_catZ.or op_cat)),fun B s st w1 w2 w v1 v2 Q wd r1 r2 e k=>?_⟩
 unfold addF at e
 split at e
 ·cases e;cases r1;cases r2;exact .inl ⟨_,_,rfl,rfl,k s _ (Le.refl _) wd .int⟩
 ·split at e
  ·rename_i hz
   cases e;cases r1;cases r2
   exact .inr (.inl ⟨_,_,rfl,rfl,szL hz,k s _ (Le.refl _) wd .str⟩)
  ·cases e
 ·split at e
  ·rename_i xs ys hz
   cases e
   cases r1 with
   | tup s1 q1=>
    cases r2 with
    | tup s2 q2=>
     have hs:=wd.sub
     refine .inr (.inr (.inl ⟨_,_,_,_,rfl,rfl,(s1.mono hs).sq,(s2.mono hs).sq,by rw[←q1.length,←q2.length];exact szL hz,fun z=>?_,fun z1 z2=>?_,fun z1 z2=>?_⟩))
     ·subst z
      cases q1
      exact k s _ (Le.refl _) wd (.tup s2 q2)
     ·subst z2
      cases q2
      rw[List.append_nil] at k
      exact k s _ (Le.refl _) wd (.tup s1 q1)
     ·exact wd.newT (q1.append q2) fun s' v l w r=>k s' v l w r
  ·cases e
 ·split at e
  ·rename_i e1 e2
   obtain⟨p,vs,rfl,hp,rp⟩:=ls_ok wd r1 e1
   obtain⟨q,us,rfl,hq,rq⟩:=ls_ok wd r2 e2
   split at e
   ·rename_i hz
    cases e
    refine Or.inr (Or.inr (Or.inr ⟨p,q,vs,us,rfl,rfl,hp,hq,by rw[←rp.length,←rq.length];exact szL hz,fun l hl=>?_⟩))
    obtain⟨wd2,l2⟩:=wd.froz hl (.lst (vs++us))
    exact k _ _ l2 wd2 (.lst upd_same ((rp.append rq).mono l2.fr l2.io))
   ·cases e
  ·cases e
def intF (C:Int→Int→Bool) (f:Int→Int→D):W→W→Option W
 | .val (.int i),.val (.int j)=>if C i j=true then some (.val (f i j)) else none
 | _,_=>none
theorem om_int {f:Value→Value→Sem Value} {C:Int→Int→Prop} {Cb:Int→Int→Bool} {g:Int→Int→V} {gd:Int→Int→D} (h:OpR P.X f (rI C g)) (hC:∀i j,Cb i j=true→C i j) (hg:∀i j K F io,Rep K F io (gd i j) (g i j)):OpM P f (intF Cb gd):=by
 refine⟨_,h,fun B s st w1 w2 w v1 v2 Q wd r1 r2 e k=>?_⟩
 unfold intF at e
 split at e
 ·split at e
  ·rename_i hc
   cases e;cases r1;cases r2
   exact⟨_,_,rfl,rfl,hC _ _ hc,k s _ (Le.refl _) wd (hg _ _ _ _ _)⟩
  ·cases e
 ·cases e
theorem om_int0 {f:Value→Value→Sem Value} {g:Int→Int→V} {gd:Int→Int→D} (h:OpR P.X f (rI0 g)) (hg:∀i j K F io,Rep K F io (gd i j) (g i j)):OpM P f (intF (fun _ _=>true) gd):=by
 refine⟨_,h,fun B s st w1 w2 w v1 v2 Q wd r1 r2 e k=>?_⟩
 unfold intF at e
 split at e
 ·rw[if_pos rfl] at e
  cases e;cases r1;cases r2
  exact⟨_,_,rfl,rfl,k s _ (Le.refl _) wd (hg _ _ _ _ _)⟩
 ·cases e
def subF:W→W→Option W:=intF (fun _ _=>true) fun i j=>.int (i - j)
def modF:W→W→Option W:=intF (fun _ j=>decide (0<j)) fun i j=>.int (i % j)
def divF:W→W→Option W:=intF (fun _ j=>decide (0<j∧j<1073741824)) fun i j=>.int (i / j)
def powF:W→W→Option W:=intF (fun i j=>decide (0≤j∧j≤1000∧i.natAbs<1000000)) fun i j=>.int (i ^ j.toNat)
def ltF:W→W→Option W:=intF (fun _ _=>true) fun i j=>.bl (decide (i<j))
def leF:W→W→Option W:=intF (fun _ _=>true) fun i j=>.bl (decide (i≤j))
def gtF:W→W→Option W:=intF (fun _ _=>true) fun i j=>.bl (decide (j<i))
def geF:W→W→Option W:=intF (fun _ _=>true) fun i j=>.bl (decide (j≤i))
theorem om_sub:OpM P (binaryOp .Sub) subF:=om_int0 op_sub fun _ _ _ _ _=>.int
theorem om_mod:OpM P (binaryOp .Mod) modF:=om_int op_mod (fun i j h=>of_decide_eq_true h) fun _ _ _ _ _=>.int
theorem om_div:OpM P (binaryOp .FloorDiv) divF:=om_int op_fdiv (fun i j h=>of_decide_eq_true (p:=0<j∧j<1073741824) h) fun _ _ _ _ _=>.int
theorem om_pow:OpM P (binaryOp .Pow) powF:=om_int op_pow (fun i j h=>by have:=of_decide_eq_true (p:=0≤j∧j≤1000∧i.natAbs<1000000) h;exact⟨this.1,by omega,by omega⟩) fun _ _ _ _ _=>.int
theorem om_lt:OpM P (compareOp .Lt) ltF:=om_int0 op_lt fun _ _ _ _ _=>.bl
theorem om_le:OpM P (compareOp .LtE) leF:=om_int0 op_le fun _ _ _ _ _=>.bl
theorem om_gt:OpM P (compareOp .Gt) gtF:=om_int0 op_gt fun _ _ _ _ _=>.bl
theorem om_ge:OpM P (compareOp .GtE) geF:=om_int0 op_ge fun _ _ _ _ _=>.bl
def mulC (i j:Int):Bool:=decide (i.natAbs.log2+j.natAbs.log2<100000000)
def MulS (x:Str) (n:Int):Bool:=decide (0≤n∧n≤1000∧x.length≤1000)
def mulF:W→W→Option W
 | .val (.int i),.val (.int j)=>if mulC i j=true then some (.val (.int (i * j))) else none
 | .val (.str x),.val (.int j)=>if MulS x j=true then some (.val (.str (Txt.mul x j))) else none
 | _,_=>none
theorem bits_log (x:Int):Builtin.Int.intBits x≤x.natAbs.log2+1:=by simp only[Builtin.Int.intBits];split <;> omega
theorem line_bits:bitsLine=2 ^ 27:=by decide
theorem mulC_ok {i j:Int} (h:mulC i j=true):IntMulOk i j:=fun big=>by
 have few:i.natAbs.log2+j.natAbs.log2<100000000:=of_decide_eq_true h
 have far:=of_decide_eq_true (show decide _=true from((Bool.and_eq_true _ _).mp big).2)
 have li:=bits_log i
 have lj:=bits_log j
 simp only[line_bits] at far
 omega
theorem MulS_ok {x:Str} {n:Int} (h:MulS x n=true):MulOk x n:=by
 obtain⟨h0,h1,h2⟩:=of_decide_eq_true h
 refine⟨?_,fun hn _=>?_,fun hn _=>?_⟩
 ·rw[Bool.or_eq_false_iff]
  exact⟨decide_eq_false (by omega),decide_eq_false (by omega)⟩
 ·intro z
  have:(1000:Int)≤(2 ^ 63 - 1) / n:=by
   rw[Int.le_ediv_iff_mul_le (by omega)]
   omega
  omega
 ·have long:x.length * n.toNat≤1000 * 1000:=Nat.mul_le_mul h2 (by omega)
  have line:=szL (n:=1000 * 1000) (by decide)
  unfold Builtin.Str.tooLong
  exact decide_eq_false fun q=>by omega
theorem om_mul:OpM P (binaryOp .Mult) mulF:=by
 have hI:OpR P.X (binaryOp .Mult) (rI (fun i j=>IntMulOk i j) fun i j=>.int (i * j)):=opI fun _ _ _ _ _ _ _ hc q=>mul_int q hc
 have hS:OpR P.X (binaryOp .Mult) (fun x y H Q=>∃a n,x=.str a∧y=.int n∧MulOk a n∧Q (.str (Txt.mul a n)) H):=by
  intro pins s z H x y v u Q I rx ry h
  obtain⟨a,n,rfl,rfl,hm,q⟩:=h
  obtain⟨t,rfl⟩:=rx
  obtain⟨t2,rfl⟩:=ry
  exact SB.mul hm fun t' k=>⟨.str (Txt.mul a n),H,I.tok _,⟨_,rfl⟩,q⟩
 refine⟨_,hI.or hS,fun B s st w1 w2 w v1 v2 Q wd r1 r2 e k=>?_⟩
 unfold mulF at e
 split at e
 ·split at e
  ·rename_i hc
   cases e;cases r1;cases r2
   exact .inl ⟨_,_,rfl,rfl,mulC_ok hc,k s _ (Le.refl _) wd .int⟩
  ·cases e
 ·split at e
  ·rename_i hc
   cases e;cases r1;cases r2
   exact .inr ⟨_,_,rfl,rfl,MulS_ok hc,k s _ (Le.refl _) wd .str⟩
  ·cases e
 ·cases e
mutual
def D.py:D→Option PyData
 | .non=>some .none
 | .bl b=>some (.bool b)
 | .int i=>some (.int i)
 | .str x=>some (.str x)
 | .tup xs=>(D.pys xs).map .tuple
 | .lst xs=>(D.pys xs).map .list
 | .ro xs=>(D.pys xs).map .list
 | .ctup xs=>(D.pys xs).map .tuple
 | .ty _=>none
 | .ref _=>none
 | .dict _ _=>none
 | .dd _ _=>none
 | .fn _ _=>none
def D.pys:List D→Option (List PyData)
 | []=>some []
 | d :: ds=>match D.py d,D.pys ds with
  | some x,some xs=>some (x :: xs)
  | _,_=>none
end
section
variable {K:KW} {F:Hp} {io:Io}
mutual
theorem py_ok:∀{d:D} {v:V} {x:PyData},Rep K F io d v→d.py=some x→Dp K.K F v x
 | _,_,_,.non,e=>by rw[D.py] at e;cases e;exact .non
 | _,_,_,.bl,e=>by rw[D.py] at e;cases e;exact .bl _
 | _,_,_,.int,e=>by rw[D.py] at e;cases e;exact .int _
 | _,_,_,.str,e=>by rw[D.py] at e;cases e;exact .str _
 | _,_,_,.ty,e=>by rw[D.py] at e;cases e
 | _,_,_,.ref _,e=>by rw[D.py] at e;cases e
 | _,_,_,.dict _ _ _,e=>by rw[D.py] at e;cases e
 | _,_,_,.dd _ _ _ _ _,e=>by rw[D.py] at e;cases e
 | _,_,_,.fn _ _ _ _ _,e=>by rw[D.py] at e;cases e
 | .tup xs,_,x,.tup s r,e=>by
  rw[D.py] at e
  cases h:D.pys xs with
  | none=>rw[h] at e;cases e
  | some ys=>rw[h] at e;cases e;exact .tup s.sq (pys_ok r h)
 | .ctup xs,_,x,.ctup s r,e=>by
  rw[D.py] at e
  cases h:D.pys xs with
  | none=>rw[h] at e;cases e
  | some ys=>rw[h] at e;cases e;exact .tup s (pys_ok r h)
 | .lst xs,_,x,.lst s r,e=>by
  rw[D.py] at e
  cases h:D.pys xs with
  | none=>rw[h] at e;cases e
  | some ys=>rw[h] at e;cases e;exact .lst (.inl (.inl s)) (pys_ok r h)
 | .ro xs,_,x,.ro s r,e=>by
  rw[D.py] at e
  cases h:D.pys xs with
  | none=>rw[h] at e;cases e
  | some ys=>rw[h] at e;cases e;exact .lst s (pys_ok r h)
theorem pys_ok:∀{ds:List D} {vs:List V} {xs:List PyData},RepL K F io ds vs→D.pys ds=some xs→DpAll K.K F vs xs
 | _,_,_,.nil,e=>by rw[D.pys] at e;cases e;exact .nil
 | d :: ds,_,xs,.cons r t,e=>by
  rw[D.pys] at e
  cases h:D.py d with
  | none=>rw[h] at e;cases e
  | some x=>
   cases h2:D.pys ds with
   | none=>rw[h,h2] at e;cases e
   | some ys=>rw[h,h2] at e;cases e;exact .cons (py_ok r h) (pys_ok t h2)
end
end
def D.eqv? (a b:D):Option Bool:=match a.py,b.py with
 | some x,some y=>if SeqAt.shaped x=true∧SeqAt.shaped y=true then some (PyData.eqv x y) else none
 | _,_=>none
def eqF (neg:Bool) (x y:W):Option W:=match x.rd,y.rd with
 | some a,some b=>(a.eqv? b).map fun k=>.val (.bl (if neg then !k else k))
 | _,_=>none
theorem eqv_of {a b:D} {k:Bool} (h:a.eqv? b=some k):∃x y,a.py=some x∧b.py=some y∧SeqAt.shaped x=true∧SeqAt.shaped y=true∧k=PyData.eqv x y:=by
 unfold D.eqv? at h
 split at h
 ·rename_i x y e1 e2
  split at h
  ·rename_i hs
   cases h
   exact⟨x,y,e1,e2,hs.1,hs.2,rfl⟩
  ·cases h
 ·cases h
theorem eqF_ok {B:Addr→Prop} {s:S3} {st:Store} {w1 w2 w:W} {v1 v2:V} {neg:Bool} (wd:Wd P.G B st s) (r1:RepW P.G P.hx B s w1 v1) (r2:RepW P.G P.hx B s w2 v2) (e:eqF neg w1 w2=some w) :
  ∃x y,Dp P.X.K s.H v1 x∧Dp P.X.K s.H v2 y∧SeqAt.shaped x=true∧SeqAt.shaped y=true∧w=.val (.bl (if neg then !PyData.eqv x y else PyData.eqv x y)):=by
 unfold eqF at e
 split at e
 ·rename_i a b e1 e2
  cases h:a.eqv? b with
  | none=>rw[h] at e;cases e
  | some k=>
   rw[h] at e
   cases e
   obtain⟨x,y,p1,p2,q1,q2,rfl⟩:=eqv_of h
   rw[P.hK]
   exact⟨x,y,py_ok (rd_ok wd r1 e1) p1,py_ok (rd_ok wd r2 e2) p2,q1,q2,rfl⟩
 ·cases e
theorem om_eq (hu:P.X.A.units+64<cLine):OpM P (compareOp .Eq) (eqF false):=by
 refine⟨_,op_eqD hu,fun B s st w1 w2 w v1 v2 Q wd r1 r2 e k=>?_⟩
 obtain⟨x,y,h1,h2,s1,s2,rfl⟩:=eqF_ok wd r1 r2 e
 exact⟨x,y,h1,h2,s1,s2,k s _ (Le.refl _) wd .bl⟩
theorem om_ne (hu:P.X.A.units+64<cLine):OpM P (compareOp .NotEq) (eqF true):=by
 refine⟨_,op_neD hu,fun B s st w1 w2 w v1 v2 Q wd r1 r2 e k=>?_⟩
 obtain⟨x,y,h1,h2,s1,s2,rfl⟩:=eqF_ok wd r1 r2 e
 exact⟨x,y,h1,h2,s1,s2,k s _ (Le.refl _) wd .bl⟩
def isNF (neg:Bool):W→W→Option W
 | .val d,.val .non=>some (.val (.bl (match d with | .non=>!neg | _=>neg)))
 | .bor _,.val .non=>some (.val (.bl neg))
 | .exn _ _,.val .non=>some (.val (.bl neg))
 | _,_=>none
theorem isNF_ok {B:Addr→Prop} {s:S3} {w1 w2 w:W} {v1 v2:V} {neg:Bool} (r1:RepW P.G P.hx B s w1 v1) (r2:RepW P.G P.hx B s w2 v2) (e:isNF neg w1 w2=some w):v2=.non∧w=.val (.bl (if neg then !decide (v1=.non) else decide (v1=.non))):=by
 unfold isNF at e
 split at e
 ·cases e
  cases r2
  refine⟨rfl,?_⟩
  rename_i d
  cases r1 <;> cases neg <;> simp
 ·cases e
  cases r2
  refine⟨rfl,?_⟩
  obtain⟨p,vs,rfl,_⟩:=r1
  cases neg <;> simp
 ·cases e
  cases r2
  refine⟨rfl,?_⟩
  obtain⟨a,_,_,rfl,_⟩:=r1
  cases neg <;> simp
 ·cases e
theorem om_is:OpM P (compareOp .Is) (isNF false):=by
 refine⟨_,op_isN,fun B s st w1 w2 w v1 v2 Q wd r1 r2 e k=>?_⟩
 obtain⟨h1,rfl⟩:=isNF_ok r1 r2 e
 exact⟨h1,k s _ (Le.refl _) wd .bl⟩
theorem om_isnot:OpM P (compareOp .IsNot) (isNF true):=by
 refine⟨_,op_notN,fun B s st w1 w2 w v1 v2 Q wd r1 r2 e k=>?_⟩
 obtain⟨h1,rfl⟩:=isNF_ok r1 r2 e
 exact⟨h1,k s _ (Le.refl _) wd .bl⟩
end
end M3
namespace M3
open PySem PySem.Spec PyProof.Rows L2
def D.tru:D→Option Bool
 | .non=>some false
 | .bl b=>some b
 | .int i=>some (i != 0)
 | .str y=>if y.length≤1000000 then some (y.length != 0) else none
 | .tup xs=>some (!xs.isEmpty)
 | .ctup xs=>some (!xs.isEmpty)
 | .lst xs=>some (!xs.isEmpty)
 | .ro xs=>some (!xs.isEmpty)
 | _=>none
def W.tru (w:W):Option Bool:=w.rd.bind D.tru
theorem isEmpty_repL {K:KW} {F:Hp} {io:Io} {xs:List D} {vs:List V} (r:RepL K F io xs vs):xs.isEmpty=vs.isEmpty:=by cases r <;> rfl
theorem tru_rep {K:KW} {F:Hp} {io:Io} {d:D} {v:V} {k:Bool} (r:Rep K F io d v) (e:d.tru=some k):TruV K.K v F k:=by
 cases r with
 | non=>cases e;rfl
 | bl=>cases e;rfl
 | int=>cases e;rfl
 | @str x=>
  have e:(if x.length≤1000000 then some (x.length != 0) else none)=some k:=e
  split at e
  ·rename_i hl
   cases e
   refine⟨szL hl,?_⟩
   cases hx:x.length with
   | zero=>rfl
   | succ n=>rfl
  ·cases e
 | ty=>cases e
 | tup s q=>cases e;exact .inr (.inl ⟨_,s.sq,by rw[isEmpty_repL q]⟩)
 | ctup s q=>cases e;exact .inr (.inl ⟨_,s,by rw[isEmpty_repL q]⟩)
 | lst s q=>cases e;exact .inl ⟨_,.inl (.inl s),by rw[isEmpty_repL q]⟩
 | ro s q=>cases e;exact .inl ⟨_,s,by rw[isEmpty_repL q]⟩
 | _=>cases e
theorem tru_ok3 {P:P3} {B:Addr→Prop} {s:S3} {st:Store} {w:W} {v:V} {k:Bool} (wd:Wd P.G B st s) (r:RepW P.G P.hx B s w v) (e:w.tru=some k):TruV P.X.K v s.H k:=by
 unfold W.tru at e
 cases h:w.rd with
 | none=>rw[h] at e;cases e
 | some d=>rw[h] at e;rw[P.hK];exact tru_rep (rd_ok wd r h) e
def tTru (m:EM):TM:=fun u=>M.bind (m u) fun w=>M.of w.tru
section
variable {P:P3} {pos:Pos} {a b c:Expr} {rest:List Expr} {ma mb mc:EM}
theorem of_eq {α:Type} {o:Option α} {st:Store} {G:G3} {B:Addr→Prop} {β:Type} {R:S3→α→β→Prop} {E:XK} {s:S3} {Q:β→Hp→Prop} (h:Post G B R E s Q (M.of o st)):∃x,o=some x∧Post G B R E s Q (.ok x st):=by
 cases o with
 | none=>exact h.elim
 | some x=>exact⟨x,rfl,h⟩
theorem mt_tru (ha:ME P a ma) (he:∀whole,isTrue a P.X.env whole=(do let v ← whole;standAt a.pos;holding [v] (truthy v)):=by intro _;rfl):MT P a (tTru ma):=by
 obtain⟨ta,pa,ha⟩:=ha.out
 refine MT.mk' (pt_truth pa he) fun B0 B s st u z Q wd sl hp=>ha B0 B s st u z _ wd sl (Post.bind hp fun w st1 s1 v l1 wd1 r1 h1=>?_)
 obtain⟨k,e,h1⟩:=of_eq h1
 exact⟨k,tru_ok3 wd1 r1 e,h1.pure wd1 rfl⟩
def eAnd (a b:EM):EM:=fun u=>M.bind (a u) fun w=>M.bind (M.of w.tru) fun k=>if k=true then b u else M.pure w
def eOr (a b:EM):EM:=fun u=>M.bind (a u) fun w=>M.bind (M.of w.tru) fun k=>if k=true then M.pure w else b u
def eNot (a:EM):EM:=fun u=>M.bind (a u) fun w=>M.bind (M.of w.tru) fun k=>M.pure (.val (.bl (!k)))
theorem me_one {op} (ha:ME P a ma):ME P (.BoolOp op [a] pos) ma:=⟨pe_one ha.pe⟩
theorem me_and (ha:ME P a ma) (hb:ME P (.BoolOp .And (b :: rest) pos) mb):ME P (.BoolOp .And (a :: b :: rest) pos) (eAnd ma mb):=by
 obtain⟨ta,pa,ha⟩:=ha.out
 obtain⟨tb,pb,hb⟩:=hb.out
 refine ME.mk' (pe_andT pa pb) fun B0 B s st u z Q wd sl hp=>ha B0 B s st u z _ wd sl (Post.bind hp fun w st1 s1 v l1 wd1 r1 h1=>?_)
 obtain⟨k,e,h1⟩:=Post.of_of h1
 refine⟨k,tru_ok3 wd1 r1 e,?_⟩
 cases k with
 | true=>exact hb B0 B s1 st1 u z Q wd1 (sl.mono l1) h1
 | false=>exact h1.pure wd1 r1
theorem me_or (ha:ME P a ma) (hb:ME P (.BoolOp .Or (b :: rest) pos) mb):ME P (.BoolOp .Or (a :: b :: rest) pos) (eOr ma mb):=by
 obtain⟨ta,pa,ha⟩:=ha.out
 obtain⟨tb,pb,hb⟩:=hb.out
 refine ME.mk' (pe_orT pa pb) fun B0 B s st u z Q wd sl hp=>ha B0 B s st u z _ wd sl (Post.bind hp fun w st1 s1 v l1 wd1 r1 h1=>?_)
 obtain⟨k,e,h1⟩:=Post.of_of h1
 refine⟨k,tru_ok3 wd1 r1 e,?_⟩
 cases k with
 | true=>exact h1.pure wd1 r1
 | false=>exact hb B0 B s1 st1 u z Q wd1 (sl.mono l1) h1
def tAnd3 (a b:TM):TM:=fun u=>M.bind (a u) fun k=>if k=true then b u else M.pure false
def tOr3 (a b:TM):TM:=fun u=>M.bind (a u) fun k=>if k=true then M.pure true else b u
def tNot3 (a:TM):TM:=fun u=>M.bind (a u) fun k=>M.pure (!k)
variable {na nb:TM}
theorem mw_and1 (ha:MT P a na):MW P (.BoolOp .And [a] pos) na:=⟨pw_and1 ha.pt⟩
theorem mw_or1 (ha:MT P a na):MW P (.BoolOp .Or [a] pos) na:=⟨pw_or1 ha.pt⟩
theorem mw_and (ha:MT P a na) (hb:MW P (.BoolOp .And (b :: rest) pos) nb):MW P (.BoolOp .And (a :: b :: rest) pos) (tAnd3 na nb):=by
 obtain⟨ta,pa,ha⟩:=ha.out
 obtain⟨tb,pb,hb⟩:=hb.out
 refine MW.mk' (pw_and pa pb) fun B0 B s st u z Q wd sl hp=>ha B0 B s st u z _ wd sl (Post.bind hp fun k st1 s1 k' l1 wd1 r1 h1=>?_)
 subst r1
 cases k with
 | true=>exact hb B0 B s1 st1 u z Q wd1 (sl.mono l1) h1
 | false=>exact h1.pure wd1 rfl
theorem mw_or (ha:MT P a na) (hb:MW P (.BoolOp .Or (b :: rest) pos) nb):MW P (.BoolOp .Or (a :: b :: rest) pos) (tOr3 na nb):=by
 obtain⟨ta,pa,ha⟩:=ha.out
 obtain⟨tb,pb,hb⟩:=hb.out
 refine MW.mk' (pw_or pa pb) fun B0 B s st u z Q wd sl hp=>ha B0 B s st u z _ wd sl (Post.bind hp fun k st1 s1 k' l1 wd1 r1 h1=>?_)
 subst r1
 cases k with
 | true=>exact h1.pure wd1 rfl
 | false=>exact hb B0 B s1 st1 u z Q wd1 (sl.mono l1) h1
theorem mt_w (h:MW P a na):MT P a na:=⟨h.pw.pt⟩
theorem mt_not (ha:MT P a na):MT P (.UnaryOp .Not a pos) (tNot3 na):=by
 obtain⟨ta,pa,ha⟩:=ha.out
 refine MT.mk' (pt_not pa) fun B0 B s st u z Q wd sl hp=>ha B0 B s st u z _ wd sl (Post.bind hp fun k st1 s1 k' l1 wd1 r1 h1=>?_)
 subst r1
 exact h1.pure wd1 rfl
def eChain (g g':W→W→Option W) (a b c:EM):EM:=fun u=>M.bind (a u) fun x=>M.bind (b u) fun y=>M.bind (M.of (g x y)) fun k=>M.bind (M.of k.bool) fun k=>if k=true then M.bind (c u) fun w=>M.of (g' y w) else M.pure (.val (.bl false))
theorem bool_ok {G:G3} {X:Hex} {B:Addr→Prop} {s:S3} {w:W} {v:V} {k:Bool} (r:RepW G X B s w v) (e:w.bool=some k):v=.bl k:=by
 obtain rfl:=bool_inv e
 cases r
 rfl
theorem me_chain {op op':CmpOp} {g g':W→W→Option W} (h:OpM P (compareOp op) g) (h':OpM P (compareOp op') g') (ha:ME P a ma) (hb:ME P b mb) (hc:ME P c mc)
  (hm:lastMarks [op,op'] [b,c]=false:=by with_unfolding_all rfl):ME P (.Compare a [op,op'] [b,c] pos) (eChain g g' ma mb mc):=by
 obtain⟨ta,pa,ha⟩:=ha.out
 obtain⟨tb,pb,hb⟩:=hb.out
 obtain⟨tc,pc,hc⟩:=hc.out
 obtain⟨r,hr,hq⟩:=h
 obtain⟨r',hr',hq'⟩:=h'
 refine ME.mk' (pe_chain hr hr' pa pb pc hm) fun B0 B s st u z Q wd sl hp=>ha B0 B s st u z _ wd sl (Post.bind hp fun w1 st1 s1 v1 l1 wd1 r1 h1=>?_)
 refine hb B0 B s1 st1 u z _ wd1 (sl.mono l1) (Post.bind h1 fun w2 st2 s2 v2 l2 wd2 r2 h2=>?_)
 obtain⟨w,e,h2⟩:=Post.of_of h2
 refine hq B s2 st2 w1 w2 w v1 v2 _ wd2 (r1.mono l2) r2 e fun s3 v l3 wd3 r3=>?_
 obtain⟨k,e2,h3⟩:=Post.of_of h2
 refine⟨k,bool_ok r3 e2,?_⟩
 cases k with
 | true=>
  rw[if_pos rfl]
  refine hc B0 B s3 st2 u z _ wd3 (sl.mono ((l1.trans l2).trans l3)) (Post.bind (Post.mono l3 h3) fun w4 st4 s4 v4 l4 wd4 r4 h4=>?_)
  obtain⟨w5,e5,h4⟩:=of_eq h4
  exact hq' B s4 st4 w2 w4 w5 v2 v4 Q wd4 ((r2.mono l3).mono l4) r4 e5 fun s5 v5 l5 wd5 r5=>h4 s5 v5 l5 wd5 r5
 | false=>
  rw[if_neg Bool.false_ne_true]
  exact(Post.mono l3 h3).pure wd3 .bl
def eIf (t:TM) (a b:EM):EM:=fun u=>M.bind (t u) fun k=>if k=true then a u else b u
end
def D.items:D→Option (List D)
 | .tup xs=>some xs
 | .ctup xs=>some xs
 | .lst xs=>some xs
 | .ro xs=>some xs
 | _=>none
def ixF (x y:W):Option W:=match x,y with
 | .val (.str z),.val (.int i)=>if z.length≤1000000 then (atI z.cps.toList i).map fun c=>.val (.str ⟨#[c]⟩) else none
 | x,.val (.int i)=>(x.rd.bind D.items).bind fun xs=>(atI xs i).map .val
 | _,_=>none
theorem atI_rep {K:KW} {F:Hp} {io:Io} {xs:List D} {vs:List V} {i:Int} {d:D} (r:RepL K F io xs vs) (e:atI xs i=some d):∃v,atI vs i=some v∧Rep K F io d v:=by
 unfold atI at e⊢
 rw[r.length] at e
 cases h:ixN vs.length i with
 | none=>rw[h] at e;cases e
 | some j=>rw[h] at e;exact r.get e
section
variable {P:P3} {pos:Pos} {a b:Expr} {ma mb:EM}
theorem items_ok {B:Addr→Prop} {s:S3} {st:Store} {w:W} {v:V} {d:D} {xs:List D} (wd:Wd P.G B st s) (r:RepW P.G P.hx B s w v) (e:w.rd=some d) (e2:d.items=some xs) :
  ∃p vs,v=.ref p∧(SqL P.X.K s.H p vs∨SqT P.X.K s.H p vs)∧RepL P.G.R s.F s.io xs vs:=by
 rw[P.hK]
 cases w with
 | val d'=>
  cases e
  cases r with
  | tup h q=>cases e2;exact⟨_,_,rfl,.inr (h.mono wd.sub).sq,q⟩
  | ctup h q=>cases e2;exact⟨_,_,rfl,.inr (same_sqT wd.sub h),q⟩
  | lst h q=>cases e2;exact⟨_,_,rfl,.inl (.inl (.inl (wd.sub _ _ h))),q⟩
  | ro h q=>cases e2;exact⟨_,_,rfl,.inl (same_sqL wd.sub h),q⟩
  | _=>cases e2
 | bor ys=>cases e;cases e2;obtain⟨p,vs,rfl,b,h,r⟩:=r;exact⟨p,vs,rfl,.inl (.inl (.inl h)),r⟩
 | bod ks us=>cases e
 | bdd ks us=>cases e
 | exn c x=>cases e
 | len ys=>cases e;cases e2;obtain⟨p,vs,o,rfl,b,h,r⟩:=r;exact⟨p,vs,rfl,.inl (.inl (.inr ⟨o,h⟩)),r⟩
theorem me_ix (ha:ME P a ma) (hb:ME P b mb) (hs:PlainIx b:=by first | exact fun _ _=>rfl | (intro _ _;rfl)):ME P (.Subscript a b pos) (eBin ixF ma mb):=by
 obtain⟨ta,pa,ha⟩:=ha.out
 obtain⟨tb,pb,hb⟩:=hb.out
 refine ME.mk' (pe_ix ix_seq pa pb hs) fun B0 B s st u z Q wd sl hp=>ha B0 B s st u z _ wd sl (Post.bind hp fun w1 st1 s1 v1 l1 wd1 r1 h1=>?_)
 refine hb B0 B s1 st1 u z _ wd1 (sl.mono l1) (Post.bind h1 fun w2 st2 s2 v2 l2 wd2 r2 h2=>?_)
 obtain⟨w,e,h2⟩:=of_eq h2
 have r1:=r1.mono l2
 unfold ixF at e
 split at e
 ·split at e
  ·rename_i hz
   cases r1;cases r2
   rename_i zs i
   cases h:atI zs.cps.toList i with
   | none=>rw[h] at e;cases e
   | some c=>rw[h] at e;cases e;exact .inr (.inr ⟨zs,i,c,rfl,rfl,szL hz,h,h2.pure wd2 .str⟩)
  ·cases e
 ·rename_i i _
  cases r2
  cases h3:w1.rd with
  | none=>rw[h3] at e;cases e
  | some d=>
   rw[h3] at e
   cases h4:d.items with
   | none=>rw[Option.bind_some,h4] at e;cases e
   | some xs=>
    rw[Option.bind_some,h4,Option.bind_some] at e
    cases h5:atI xs i with
    | none=>rw[h5] at e;cases e
    | some d'=>
     rw[h5] at e
     cases e
     obtain⟨p,vs,rfl,hq,rl⟩:=items_ok wd2 r1 h3 h4
     obtain⟨v,e6,rv⟩:=atI_rep rl h5
     rcases hq with hq | hq
     ·exact .inl ⟨p,vs,i,v,rfl,rfl,hq,e6,h2.pure wd2 rv⟩
     ·exact .inr (.inl ⟨p,vs,i,v,rfl,rfl,hq,e6,h2.pure wd2 rv⟩)
 ·cases e
end
end M3
namespace M3
open PySem PySem.Spec PyProof.Rows L2
section
variable {G:G3} {X:Hex} {B0 B:Addr→Prop} {s:S3} {u:Sl3} {z:L2.St}
theorem get_set {α:Type} {l:List (Option α)} {i j:Nat} {w w':α} (h:(l.set i (some w))[j]?=some (some w')):(i=j∧w'=w)∨(i≠j∧l[j]?=some (some w')):=by
 by_cases e:i=j
 ·subst e
  by_cases hl:i<l.length
  ·rw[List.getElem?_set_self hl] at h;cases h;exact .inl ⟨rfl,rfl⟩
  ·rw[List.getElem?_eq_none (by simpa using hl)] at h;cases h
 ·rw[List.getElem?_set_ne e] at h;exact .inr ⟨e,h⟩
theorem Slo.set {d:D} {v:V} (h:Slo G X B0 B s u z) (r:Rep G.R s.F s.io d v) (i:Nat):Slo G X B0 B s (u.set i (some (.val d))) (z.set i (some v)):=by
 obtain⟨hl,ow,h1,h2⟩:=h
 refine⟨by simpa using hl,ow,fun j w e=>?_,fun j k w w' o1 o2 e1 e2 e=>?_⟩
 ·rcases get_set e with⟨rfl,rfl⟩ | ⟨ne,e⟩
  ·have hi:i<u.length:=by
    rcases Nat.lt_or_ge i u.length with q | q
    ·exact q
    ·rw[List.getElem?_eq_none (by simpa using q)] at e;cases e
   exact⟨v,by rw[List.getElem?_set_self (by omega)],r,fun q=>by cases q⟩
  ·obtain⟨v',e1,r',q⟩:=h1 j w e
   exact⟨v',by rw[List.getElem?_set_ne ne];exact e1,r',q⟩
 ·rcases get_set e1 with⟨_,q⟩ | ⟨_,e1⟩
  ·subst q;cases o1
  ·rcases get_set e2 with⟨_,q⟩ | ⟨_,e2⟩
   ·subst q;cases o2
   ·exact h2 j k w w' o1 o2 e1 e2 e
theorem Slo.del (h:Slo G X B0 B s u z) (i:Nat) (o:Option V):Slo G X B0 B s (u.set i none) (z.set i o):=by
 obtain⟨hl,ow,h1,h2⟩:=h
 have old:∀{j:Nat} {w:M3.W},(u.set i none)[j]?=some (some w)→i≠j∧u[j]?=some (some w):=fun {j w} e=>by
  by_cases q:i=j
  ·subst q
   by_cases hl:i<u.length
   ·rw[List.getElem?_set_self hl] at e;cases e
   ·rw[List.getElem?_eq_none (by simpa using hl)] at e;cases e
  ·rw[List.getElem?_set_ne q] at e;exact⟨q,e⟩
 refine⟨by simpa using hl,ow,fun j w e=>?_,fun j k w w' o1 o2 e1 e2 e=>h2 j k w w' o1 o2 (old e1).2 (old e2).2 e⟩
 obtain⟨ne,e⟩:=old e
 obtain⟨v',e1,r',q⟩:=h1 j w e
 exact⟨v',by rw[List.getElem?_set_ne ne];exact e1,r',q⟩
theorem RepW.wider {B':Addr→Prop} (hb:∀a,B a→B' a) {w:M3.W} {v:V} (r:RepW G X B s w v):RepW G X B' s w v:=by
 cases w with
 | val d=>exact r
 | bor xs=>obtain⟨p,vs,e,b,h,r⟩:=r;exact⟨p,vs,e,hb p b,h,r⟩
 | bod ks us=>obtain⟨p,vs,e,b,h,r⟩:=r;exact⟨p,vs,e,hb p b,h,r⟩
 | bdd ks us=>obtain⟨p,vs,e,b,h,r⟩:=r;exact⟨p,vs,e,hb p b,h,r⟩
 | exn c x=>exact r
 | len xs=>obtain⟨p,vs,o,e,b,h,r⟩:=r;exact⟨p,vs,o,e,hb p b,h,r⟩
theorem own_ref {w:M3.W} {v:V} (o:w.own=true) (r:RepW G X B s w v):∃p,v=.ref p∧B p:=by
 cases w with
 | val d=>cases o
 | bor xs=>obtain⟨p,vs,e,b,h,r⟩:=r;exact⟨p,e,b⟩
 | bod ks us=>obtain⟨p,vs,e,b,h,r⟩:=r;exact⟨p,e,b⟩
 | bdd ks us=>obtain⟨p,vs,e,b,h,r⟩:=r;exact⟨p,e,b⟩
 | exn c x=>cases o
 | len xs=>cases o
theorem Slo.ownW {p:Addr} {w0:M3.W} (h:Slo G X B0 B s u z) (nb:¬B p) (nb0:¬B0 p) (r:RepW G X (plus B p) s w0 (.ref p)) (i:Nat) :
  Slo G X B0 (plus B p) s (u.set i (some w0)) (z.set i (some (.ref p))):=by
 obtain⟨hl,ow,h1,h2⟩:=h
 have at_:∀{j:Nat} {w:M3.W},w.own=true→u[j]?=some (some w)→ow j≠p:=fun {j w} o e q=>by
  obtain⟨v,e1,r,q'⟩:=h1 j _ e
  obtain⟨p',e2,b⟩:=own_ref o r
  obtain⟨e3,_⟩:=q' o
  rw[e2] at e3;cases e3
  exact nb (q▸b)
 refine⟨by simpa using hl,fun j=>if j=i then p else ow j,fun j w e=>?_,fun j k w w' o1 o2 e1 e2 e=>?_⟩
 ·rcases get_set e with⟨rfl,rfl⟩ | ⟨ne,e⟩
  ·have hi:i<u.length:=by
    rcases Nat.lt_or_ge i u.length with q | q
    ·exact q
    ·rw[List.getElem?_eq_none (by simpa using q)] at e;cases e
   exact⟨.ref p,by rw[List.getElem?_set_self (by omega)],r,fun q=>⟨by simp,by simpa using nb0⟩⟩
  ·obtain⟨v',e1,r',q⟩:=h1 j w e
   exact⟨v',by rw[List.getElem?_set_ne ne];exact e1,r'.wider fun a b=>.inl b,fun q'=>by simp only[Ne.symm ne,if_false];exact q q'⟩
 ·rcases get_set e1 with⟨rfl,q⟩ | ⟨n1,e1⟩
  ·rcases get_set e2 with⟨rfl,q⟩ | ⟨n2,e2⟩
   ·rfl
   ·simp only[if_true,Ne.symm n2,if_false] at e
    exact absurd e.symm (at_ o2 e2)
  ·rcases get_set e2 with⟨rfl,q⟩ | ⟨n2,e2⟩
   ·simp only[if_true,Ne.symm n1,if_false] at e
    exact absurd e (at_ o1 e1)
   ·simp only[Ne.symm n1,Ne.symm n2,if_false] at e
    exact h2 j k w w' o1 o2 e1 e2 e
theorem Slo.own {p:Addr} {xs:List D} {vs:List V} (h:Slo G X B0 B s u z) (nb:¬B p) (nb0:¬B0 p) (hp:s.H p=some (.lst vs)) (r:RepL G.R s.F s.io xs vs) (i:Nat) :
  Slo G X B0 (plus B p) s (u.set i (some (.bor xs))) (z.set i (some (.ref p))):=h.ownW (w0:=.bor xs) nb nb0 ⟨p,vs,rfl,.inr rfl,hp,r⟩ i
end
def sNext:SM:=fun u st=>.nx u st
def sSeq (a b:SM):SM:=fun u st=>match a u st with
 | .nx u' st'=>b u' st'
 | r=>r
def sBreak:SM:=fun u st=>.bk u st
def sCont:SM:=fun u st=>.ct u st
def sDrop (m:EM):SM:=fun u st=>match m u st with
 | .ok _ st'=>.nx u st'
 | .err c x st'=>.err c x u st'
 | .bad=>.bad
def sRetN:SM:=fun _ st=>.rt (.val .non) st
def sSet (i:Nat) (m:EM):SM:=fun u st=>match m u st with
 | .ok (.val d) st'=>.nx (u.set i (some (.val d))) st'
 | .ok _ _=>.bad
 | .err c x st'=>.err c x u st'
 | .bad=>.bad
def sOwn (i:Nat) (m:FM):SM:=fun u st=>match m u st with
 | .ok xs st'=>.nx (u.set i (some (.bor xs))) st'
 | .err c x st'=>.err c x u st'
 | .bad=>.bad
def sIf (c:TM) (a b:SM):SM:=fun u st=>match c u st with
 | .ok true st'=>a u st'
 | .ok false st'=>b u st'
 | .err c x st'=>.err c x u st'
 | .bad=>.bad
section
variable {P:P3} {pos:Pos} {e:Expr} {m:EM}
theorem Slo.mono' {G:G3} {X:Hex} {B0 B:Addr→Prop} {s s':S3} {u:Sl3} {z:L2.St} (h:Slo G X B0 B s u z) (l:Le B s s'):Slo G X B0 B s' u z:=Slo.mono l h
theorem mss_nil:MSs P [] sNext:=MSs.mk' pss_nil fun B0 B s o u z D b wd sl h=>h B s z b (Le.refl _) wd sl
theorem seq_post {G:G3} {hx:Hex} {wx:WX} {B0:Addr→Prop} {s:S3} {D:Ends} {a b:SM} {u:Sl3} {o:Store} (h:PostS G hx wx B0 s D (sSeq a b u o)) :
  PostS G hx wx B0 s { D with nx:=fun z H=>∃(B:Addr→Prop) (s':S3) (o':Store) (u':Sl3),s'.H=H∧(∀a,B0 a→B a)∧Le B0 s s'∧Wd G B o' s'∧Slo G hx B0 B s' u' z∧PostS G hx wx B0 s' D (b u' o') } (a u o):=by
 unfold sSeq at h
 cases e:a u o with
 | nx u' o'=>rw[e] at h;exact fun B' s' z' hb l w sl=>⟨B',s',o',u',rfl,hb,l,w,sl,PostS.mono l h⟩
 | rt w o'=>rw[e] at h;exact h
 | bk u' o'=>rw[e] at h;exact h
 | ct u' o'=>rw[e] at h;exact h
 | err c x u' o'=>rw[e] at h;exact h
 | bad=>rw[e] at h;exact h
theorem mss_cons {st:Stmt} {rest:List Stmt} {a b:SM} (h1:MS P st a) (h2:MSs P rest b):MSs P (st :: rest) (sSeq a b):=by
 obtain⟨ta,pa,ha⟩:=h1.out
 obtain⟨tb,pb,hb⟩:=h2.out
 refine MSs.mk' (pss_cons pa pb) fun B0 B s o u z D b0 wd sl h=>?_
 have q:=ha B0 B s o u z _ b0 wd sl (seq_post h)
 show ta { D with nx:=tb D } z s.H
 refine ha B0 B s o u z { D with nx:=tb D } b0 wd sl ?_
 have h':=seq_post h
 cases e:a u o with
 | nx u' o'=>
  rw[e] at h'
  intro B' s' z' hb' l w sl'
  obtain⟨B2,s2,o2,u2,e2,b2,l2,w2,sl2,p2⟩:=h' B' s' z' hb' l w sl'
  rw[←e2]
  exact hb B0 B2 s2 o2 u2 z' D b2 w2 sl2 p2
 | rt w o'=>rw[e] at h';exact h'
 | bk u' o'=>rw[e] at h';exact h'
 | ct u' o'=>rw[e] at h';exact h'
 | err c x u' o'=>rw[e] at h';exact h'
 | bad=>rw[e] at h';exact h'
theorem mss_one {st:Stmt} {a:SM} (h1:MS P st a):MSs P [st] a:=by
 obtain⟨ta,pa,ha⟩:=h1.out
 exact MSs.mk' (pss_one pa) fun B0 B s o u z D b0 wd sl h=>ha B0 B s o u z D b0 wd sl h
theorem ms_drop (he:ME P e m) (hs:swapsWith e none pos.line P.X.env=pure false:=by rfl):MS P (.Expr e pos) (sDrop m):=by
 obtain⟨t,pt,ht⟩:=he.out
 refine MS.mk' (ps_expr pt hs) fun B0 B s o u z D b0 wd sl h=>ht B0 B s o u z _ wd sl ?_
 unfold sDrop at h
 cases e:m u o with
 | ok w st'=>rw[e] at h;exact fun s' v l w r=>h B s' z b0 (l.less b0) w (sl.mono' l)
 | err c x st'=>rw[e] at h;exact fun s' cv dd l w q=>h B s' z cv dd b0 (l.less b0) w (sl.mono' l) q
 | bad=>rw[e] at h;exact h
theorem RepW.ret {G:G3} {X:Hex} {B0 B:Addr→Prop} {s:S3} {d:D} {v:V} (r:RepW G X B s (.val d) v):PostS.RepR G B0 B s (.val d) v:=r
def sRetV (m:EM):SM:=fun u st=>match m u st with
 | .ok (.val d) st'=>.rt (.val d) st'
 | .ok _ _=>.bad
 | .err c x st'=>.err c x u st'
 | .bad=>.bad
theorem ms_ret (he:ME P e m):MS P (.Return (some e) pos) (sRetV m):=by
 obtain⟨t,pt,ht⟩:=he.out
 refine MS.mk' (ps_ret pt) fun B0 B s o u z D b0 wd sl h=>ht B0 B s o u z _ wd sl ?_
 unfold sRetV at h
 cases e:m u o with
 | ok w st'=>
  rw[e] at h
  cases w with
  | val d=>exact fun s' v l w r=>h B s' v b0 (l.less b0) w r
  | _=>exact h.elim
 | err c x st'=>rw[e] at h;exact fun s' cv dd l w q=>h B s' z cv dd b0 (l.less b0) w (sl.mono' l) q
 | bad=>rw[e] at h;exact h
def sRetO (i:Nat):SM:=fun u st=>match u[i]? with
 | some (some (.bor xs))=>.rt (.bor xs) st
 | _=>.bad
theorem ms_retO (i:Nat) {x:Str} {p:Pos} (hN:P.X.N[i]?=some x:=by rfl) (hv:Vis P.X.env.scope x:=by first | exact Or.inl rfl | exact Or.inr (Or.inl rfl) | exact Or.inr (Or.inr rfl)) (hd:(x == ("__debug__" : Str))=false:=by decide)
  (hcd:(x == ("__classdict__" : Str))=false:=by decide):MS P (.Return (some (.Name x p)) pos) (sRetO i):=by
 refine MS.mk' (ps_ret (pe_var hN hv hd hcd)) fun B0 B s o u z D b0 wd sl h=>?_
 unfold sRetO at h
 split at h
 ·rename_i xs e
  obtain⟨hl,ow,h1,h2⟩:=sl
  obtain⟨v,e1,⟨p',vs,e2,b,hp,r⟩,q⟩:=h1 i _ e
  obtain⟨e3,nb⟩:=q rfl
  subst e2
  cases e3
  exact⟨_,e1,h B s _ b0 (Le.refl _) wd ⟨_,vs,rfl,b,nb,hp,r⟩⟩
 ·exact h.elim
theorem ms_set (i:Nat) {x:Str} {p:Pos} (hN:P.X.N.Nodup) (he:ME P e m) (hi:P.X.N[i]?=some x:=by rfl) (hx:Loc P.X.env.scope x:=by first | exact Or.inl rfl | exact Or.inr rfl) (hs:swapsWith e (some (.Name x p)) pos.line P.X.env=pure false:=by rfl)
  (hf:P.X.fn x=true∨P.X.env.scope.names.lookup x=some .local:=by first | exact .inl rfl | exact .inr rfl | assumption):MS P (.Assign [.Name x p] e pos) (sSet i m):=by
 obtain⟨t,pt,ht⟩:=he.out
 refine MS.mk' (ps_set hN hi hx pt hs hf) fun B0 B s o u z D b0 wd sl h=>ht B0 B s o u z _ wd sl ?_
 unfold sSet at h
 cases e:m u o with
 | ok w st'=>
  rw[e] at h
  cases w with
  | val d=>exact fun s' v l w r=>h B s' _ b0 (l.less b0) w ((sl.mono' l).set r i)
  | _=>exact h.elim
 | err c x st'=>rw[e] at h;exact fun s' cv dd l w q=>h B s' z cv dd b0 (l.less b0) w (sl.mono' l) q
 | bad=>rw[e] at h;exact h
theorem ms_own (i:Nat) {x:Str} {p:Pos} {m:FM} (hN:P.X.N.Nodup) (he:MF P e m) (hi:P.X.N[i]?=some x:=by rfl) (hx:Loc P.X.env.scope x:=by first | exact Or.inl rfl | exact Or.inr rfl) (hs:swapsWith e (some (.Name x p)) pos.line P.X.env=pure false:=by rfl)
  (hf:P.X.fn x=true∨P.X.env.scope.names.lookup x=some .local:=by first | exact .inl rfl | exact .inr rfl | assumption):MS P (.Assign [.Name x p] e pos) (sOwn i m):=by
 obtain⟨t,pt,ht⟩:=he.out
 refine MS.mk' (ps_set hN hi hx pt hs hf) fun B0 B s o u z D b0 wd sl h=>ht B0 B s o u z _ wd sl ?_
 unfold sOwn at h
 cases e:m u o with
 | ok xs st'=>
  rw[e] at h
  exact fun s' p vs l w nb hp r=>h (plus B p) s' _ (fun a q=>.inl (b0 a q)) (l.less b0) w ((sl.mono' l).own nb (fun q=>nb (b0 p q)) hp r i)
 | err c x st'=>rw[e] at h;exact fun s' cv dd l w q=>h B s' z cv dd b0 (l.less b0) w (sl.mono' l) q
 | bad=>rw[e] at h;exact h
theorem ms_if {c:Expr} {a b:List Stmt} {mc:TM} {ma mb:SM} (hc:MT P c mc) (ha:MSs P a ma) (hb:MSs P b mb):MS P (.If c a b pos) (sIf mc ma mb):=by
 obtain⟨tc,pc,hc⟩:=hc.out
 obtain⟨ta,pa,ha⟩:=ha.out
 obtain⟨tb,pb,hb⟩:=hb.out
 refine MS.mk' (ps_if pc pa pb) fun B0 B s o u z D b0 wd sl h=>hc B0 B s o u z _ wd sl ?_
 unfold sIf at h
 cases e:mc u o with
 | ok k st'=>
  rw[e] at h
  intro s' k' l w r
  subst r
  cases k with
  | true=>exact ha B0 B s' st' u z D b0 w (sl.mono' l) (PostS.mono (l.less b0) h)
  | false=>exact hb B0 B s' st' u z D b0 w (sl.mono' l) (PostS.mono (l.less b0) h)
 | err c x st'=>rw[e] at h;exact fun s' cv dd l w q=>h B s' z cv dd b0 (l.less b0) w (sl.mono' l) q
 | bad=>rw[e] at h;exact h
end
end M3
namespace M3
open PySem PySem.Spec PyProof.Rows L2
def CoolAt (A:Around) (h:Heap):Prop:=A.handled=none∨∃x,HotX.HotAt A x h
structure OldS (s0:Shared) (H0:Hp) (fs ex:List Addr) (p:Addr×Obj):Prop where
 get:s0.heap.get? p.1=some p.2
 free:H0 p.1=none
 nofs:p.1∉fs
 noex:p.1∉ex
 nocell:∀v,p.2.data≠.cell v
abbrev Old (X:Cx) (p:Addr×Obj):Prop:=OldS X.s_0 X.H_0 X.fs X.ex p
def CoolS (A:Around) (s0:Shared) (H0:Hp) (fs ex:List Addr):Prop:=A.handled=none∨∃p:Addr×Obj,L2H.Hot1 A p∧OldS s0 H0 fs ex p
def Cool (X:Cx):Prop:=X.A.handled=none∨∃p:Addr×Obj,L2H.Hot1 X.A p∧(p∈X.pn∨Old X p)
theorem CoolS.cool {X:Cx} (c:CoolS X.A X.s_0 X.H_0 X.fs X.ex):Cool X:=c.imp id fun ⟨p,h,o⟩=>⟨p,h,.inr o⟩
structure Now (X:Cx) (pins:List (Addr×Obj)) (H:Hp) (s:Shared) (p:Addr×Obj):Prop where
 get:s.heap.get? p.1=some p.2
 free:H p.1=none
 nofr:p.1∉frs X.stack
 nofp:∀b,FpOk X pins H b→p.1≠b
 nocell:∀v,p.2.data≠.cell v
section
variable {X:Cx} {pins:List (Addr×Obj)} {z:L2.St} {H:Hp} {s:Shared}
theorem now_of {p:Addr×Obj} (I:Inv X pins z H s) (h:p∈X.pn∨Old X p):Now X pins H s p:=by
 have away:p.1≠X.env.locals→p.1∉X.fs→p.1∉frs X.stack:=fun h1 h2 hm=>(List.mem_cons.mp (I.stkSub p.1 hm)).elim h1 h2
 rcases h with h | o
 ·obtain⟨g,f,l,n,c⟩:=I.pin p (List.mem_append_left _ h)
  exact⟨g,f,away l n,fun b q=>q.2.2.2.2.2 p (List.mem_append_left _ h),c⟩
 ·have lt:=Heap.lt_size o.get
  refine⟨I.base.keep p.1 p.2 o.get o.free o.nofs o.noex,I.base.free p.1 p.2 o.get o.free o.noex,away (Nat.ne_of_lt (Nat.lt_of_lt_of_le lt I.ok.above)) o.nofs,fun b q e=>?_,o.nocell⟩
  rcases q.2.2.2.1 with y | y
  ·exact o.noex (e▸y)
  ·exact absurd (Nat.lt_of_lt_of_le lt (e▸y)) (Nat.lt_irrefl _)
theorem Cool.at (c:Cool X) (I:Inv X pins z H s):CoolAt X.A s.heap:=by
 rcases c with c | ⟨p,⟨hh,vs,e,n⟩,h⟩
 ·exact .inl c
 ·exact .inr ⟨p.1,hh,p.2,vs,(now_of I h).get,e,n⟩
theorem Cool.blk {fp:List Addr} (c:Cool X) (I:Inv X pins z H s) (hf:∀b∈fp,FpOk X pins H b):CoolS X.A s H (frs X.stack) fp:=by
 rcases c with c | ⟨p,h1,h⟩
 ·exact .inl c
 ·have n:=now_of I h
  exact .inr ⟨p,h1,n.get,n.free,n.nofr,fun hb=>n.nofp _ (hf _ hb) rfl,n.nocell⟩
end
def CoolBut (A:Around) (h:Heap) (it:Addr):Prop:=A.handled=none∨∃x,x≠it∧HotX.HotAt A x h
theorem Cool.but {X:Cx} {pins:List (Addr×Obj)} {z:L2.St} {H:Hp} {s:Shared} {it:Addr} (c:Cool X) (I:Inv X pins z H s) (f:FpOk X pins H it):CoolBut X.A s.heap it:=by
 rcases c with c | ⟨p,⟨hh,vs,e,n⟩,h⟩
 ·exact .inl c
 ·exact .inr ⟨p.1,(now_of I h).nofp _ f,hh,p.2,vs,(now_of I h).get,e,n⟩
theorem CoolBut.put {A:Around} {h h':Heap} {it:Addr} (c:CoolBut A h it) (k:Heap.ExtBut it h h'):CoolAt A h':=by
 rcases c with c | ⟨x,ne,hh,o,vs,g,d,n⟩
 ·exact .inl c
 ·exact .inr ⟨x,hh,o,vs,k x o ne g,d,n⟩
section
variable {prog:Program} {w:World} {A:Around} {E:Value→Shared→Prop} {s:Shared}
theorem stop_cool {α:Type} {Q:α→Shared→Prop} (c:CoolAt A s.heap)
  (hE:∀a h',(∀b o,s.heap.get? b=some o→h'.get? b=some o)→(∃o,h'.get? a=some o∧o.cls=.type "StopIteration")→E (.ref a) { s with heap:=h' }) :
  wpAny (model prog w) A (newExc (.type "StopIteration") [] >>= fun e=>(raiseNew e:Sem α)) Q E s:=by
 refine wpAny_bind ?_
 unfold newExc newTuple
 refine wpAny_bind (wpAny_newObj_type ?_ (by size_fits))
 refine wpAny_bind (m:=firstArgMember _ _) (wpAny_of_eq (a:=Value.none) (by first | rfl | (unfold firstArgMember;rfl)) (wpAny_newObj_type ?_ (by size_fits)))
 have old:∀{o1 o2:Obj},∀b o,s.heap.get? b=some o→((s.heap.push o1).push o2).get? b=some o:=fun b o e=>Heap.get?_push_of_some _ (Heap.get?_push_of_some _ e)
 rcases c with c | ⟨x,hh,o,vs,g,d,n⟩
 ·unfold raiseNew
  refine wpAny_bind (wpAny_handled ?_)
  rw[c]
  exact wpAny_bind (wpAny_pure (wpAny_throw (hE _ _ old ⟨_,Heap.get?_push_size _ rfl,rfl⟩)))
 ·refine HotX.raiseNew_hot ⟨hh,o,vs,old _ _ g,d,n⟩ (Nat.ne_of_lt (Heap.lt_size (Heap.get?_push_of_some _ g))) (Heap.get?_push_size _ rfl) rfl (by first | (simp;done) | (simp;omega)) (hE _ _ (fun b o e=>?_) ⟨_,Heap.get?_update_self _ (Heap.get?_push_size _ rfl) rfl,rfl⟩)
  rw[Heap.get?_update_other _ _ (Nat.ne_of_gt (Heap.lt_size (Heap.get?_push_of_some _ e)))]
  exact old b o e
variable {it l:Addr} {i:Nat} {items:Array Value} {Q:Option Value→Shared→Prop}
theorem CoolBut.over {α:Type} {Q':α→Shared→Prop} {h1:Heap} (c:CoolBut A s.heap it) (k:Heap.ExtBut it s.heap h1)
  (hE:∀a h',Heap.ExtBut it s.heap h'→(∃o,h'.get? a=some o∧o.cls=.type "StopIteration")→E (.ref a) { s with heap:=h' }) :
  wpAny (model prog w) A (newExc (.type "StopIteration") [] >>= fun e=>(raiseNew e:Sem α)) Q' E { s with heap:=h1 }:=
 stop_cool (s:={ s with heap:=h1 }) (c.put k) fun a h' keep o=>hE a h' (fun b o' ne e=>keep b o' (k b o' ne e)) o
theorem listStop (c:CoolBut A s.heap it) (hit:s.heap.IsListIter it l i) (hl:s.heap.IsList l items) (hx:items[i]?=none) (hQ:∀h',Heap.ExtBut it s.heap h'→Q none { s with heap:=h' }) :
  wpAny (model prog w) A (pyNext (.ref it)) Q E s:=by
 obtain⟨oi,gi,ci,di⟩:=id hit
 obtain⟨ol,gl,_,_,dl⟩:=hl
 unfold pyNext
 refine wpAny_bind (wpAny_attempt (wpAny_callSpecial?_slot (name:=Str.ofString "__next__") hit.typeIs slot_listiter_next (wpAny_call_entry slot_listiter_next hit.typeIs entry_listiter_next ?_ (args_listiter_next _))))
 refine(show wpAny _ _ (field (.ref it) 0 >>= _) _ _ s from wpAny_bind (wpAny_field gi di (x:=.ref l) rfl ?_))
 refine(show wpAny _ _ (if (Value.ref l == Value.none)=true then _ else _) _ _ s from ?_)
 rw[if_neg (by intro z;cases z)]
 refine(show wpAny _ _ (field (.ref it) 1 >>= _) _ _ s from wpAny_bind (wpAny_field gi di (x:=.int i 0) rfl ?_))
 refine(show wpAny _ _ (seqItems? (.ref l) >>= _) _ _ s from wpAny_bind (wpAny_seqItems gl dl ?_))
 simp only[Int.toNat_natCast,hx]
 refine wpAny_bind (wpAny_rule (wpAny_bind (wpAny_setField gi di (by simp) ?_)))
 refine(show CoolBut A.in1 s.heap it from c).over (Heap.SameBut.update ..).extBut fun a h' k ⟨o,e,cl⟩=>?_
 exact wpAny_bind (wpAny_isInstance (T:="StopIteration") (b:=true) ⟨o,e,cl⟩ isSubtype_stop (wpAny_pure (hQ h' k)))
theorem tupleStop (c:CoolBut A s.heap it) (hit:s.heap.IsTupleIter it l i) (hl:s.heap.IsTuple l items) (hx:items[i]?=none) (hQ:∀h',Heap.ExtBut it s.heap h'→Q none { s with heap:=h' }) :
  wpAny (model prog w) A (pyNext (.ref it)) Q E s:=by
 obtain⟨oi,gi,ci,di⟩:=id hit
 obtain⟨ol,gl,_,_,dl⟩:=hl
 unfold pyNext
 refine wpAny_bind (wpAny_attempt (wpAny_callSpecial?_slot (name:=Str.ofString "__next__") hit.typeIs F.slot_tuple_iterator_next (wpAny_call_entry F.slot_tuple_iterator_next hit.typeIs F.entry_tuple_iterator_next ?_ (F.args_tuple_iterator_next_1 _))))
 refine(show wpAny _ _ (field (.ref it) 0 >>= _) _ _ s from wpAny_bind (wpAny_field gi di (x:=.ref l) rfl ?_))
 refine(show wpAny _ _ (if (Value.ref l == Value.none)=true then _ else _) _ _ s from ?_)
 rw[if_neg (by intro z;cases z)]
 refine(show wpAny _ _ (field (.ref it) 1 >>= _) _ _ s from wpAny_bind (wpAny_field gi di (x:=.int i 0) rfl ?_))
 refine(show wpAny _ _ (seqItems? (.ref l) >>= _) _ _ s from wpAny_bind (wpAny_seqItems gl dl ?_))
 simp only[Int.toNat_natCast,hx]
 refine wpAny_bind (wpAny_rule (wpAny_bind (wpAny_setField gi di (by simp) ?_)))
 refine(show CoolBut A.in1 s.heap it from c).over (Heap.SameBut.update ..).extBut fun a h' k ⟨o,e,cl⟩=>?_
 exact wpAny_bind (wpAny_isInstance (T:="StopIteration") (b:=true) ⟨o,e,cl⟩ isSubtype_stop (wpAny_pure (hQ h' k)))
theorem asciiStop {x:Str} {t:Tok} (c:CoolBut A s.heap it) (hit:s.heap.IsStrIter it "str_ascii_iterator" x t i) (hx:x.cps[i]?=none) (hQ:∀h',Heap.ExtBut it s.heap h'→Q none { s with heap:=h' }):wpAny (model prog w) A (pyNext (.ref it)) Q E s:=by
 obtain⟨oi,gi,ci,di⟩:=id hit
 unfold pyNext
 refine wpAny_bind (wpAny_attempt (wpAny_callSpecial?_slot (name:=Str.ofString "__next__") hit.typeIs F.slot_str_ascii_iterator_next (wpAny_call_entry F.slot_str_ascii_iterator_next hit.typeIs F.entry_str_ascii_iterator_next ?_ (F.args_str_ascii_iterator_next_1 _))))
 refine(show wpAny _ _ (field (.ref it) 0 >>= _) _ _ s from wpAny_bind (wpAny_field gi di (x:=.str x t) rfl ?_))
 refine(show wpAny _ _ (field (.ref it) 1 >>= _) _ _ s from wpAny_bind (wpAny_field gi di (x:=.int i 0) rfl ?_))
 simp only[Int.toNat_natCast,hx]
 refine wpAny_bind (wpAny_rule (wpAny_bind (wpAny_setField gi di (by simp) (wpAny_bind (wpAny_letGo ?_)))))
 refine(show CoolBut A.in1 s.heap it from c).over (Heap.SameBut.update ..).extBut fun a h' k ⟨o,e,cl⟩=>?_
 exact wpAny_bind (wpAny_isInstance (T:="StopIteration") (b:=true) ⟨o,e,cl⟩ isSubtype_stop (wpAny_pure (hQ h' k)))
theorem wideStop {x:Str} {t:Tok} (c:CoolBut A s.heap it) (hit:s.heap.IsStrIter it "str_iterator" x t i) (hx:x.cps[i]?=none) (hQ:∀h',Heap.ExtBut it s.heap h'→Q none { s with heap:=h' }):wpAny (model prog w) A (pyNext (.ref it)) Q E s:=by
 obtain⟨oi,gi,ci,di⟩:=id hit
 unfold pyNext
 refine wpAny_bind (wpAny_attempt (wpAny_callSpecial?_slot (name:=Str.ofString "__next__") hit.typeIs F.slot_str_iterator_next (wpAny_call_entry F.slot_str_iterator_next hit.typeIs F.entry_str_iterator_next ?_ (F.args_str_iterator_next_1 _))))
 refine(show wpAny _ _ (field (.ref it) 0 >>= _) _ _ s from wpAny_bind (wpAny_field gi di (x:=.str x t) rfl ?_))
 refine(show wpAny _ _ (field (.ref it) 1 >>= _) _ _ s from wpAny_bind (wpAny_field gi di (x:=.int i 0) rfl ?_))
 simp only[Int.toNat_natCast,hx]
 refine wpAny_bind (wpAny_rule (wpAny_bind (wpAny_setField gi di (by simp) (wpAny_bind (wpAny_letGo ?_)))))
 refine(show CoolBut A.in1 s.heap it from c).over (Heap.SameBut.update ..).extBut fun a h' k ⟨o,e,cl⟩=>?_
 exact wpAny_bind (wpAny_isInstance (T:="StopIteration") (b:=true) ⟨o,e,cl⟩ isSubtype_stop (wpAny_pure (hQ h' k)))
theorem rangeStop {x left step:Int} (c:CoolBut A s.heap it) (hit:IsRangeIter s.heap it x left step) (hl:left≤0) (hQ:∀h',Heap.ExtBut it s.heap h'→Q none { s with heap:=h' }):wpAny (model prog w) A (pyNext (.ref it)) Q E s:=by
 rcases c with c | ⟨y,_,hot⟩
 ·exact wpAny_pyNext_range_end c hit hl hQ
 ·exact HotX.pyNext_range_end_hot hot hit hl fun h' k=>hQ h' fun b o _ e=>k b o e
theorem keyStop {d:Addr} {n ep:Nat} {od:Obj} {es:Array DictEntry} (c:CoolBut A s.heap it) (hit:s.heap.IsKeyIter it d i n ep) (hod:s.heap.get? d=some od) (hdd:od.data=.dict es ep) (hsz:es.size=n) (hge:n≤i)
  (hQ:∀h',Heap.ExtBut it s.heap h'→Q none { s with heap:=h' }):wpAny (model prog w) A (pyNext (.ref it)) Q E s:=by
 obtain⟨oi,gi,ci,di⟩:=id hit
 have out:es[i]?=none:=Array.getElem?_eq_none (by rw[hsz];exact hge)
 unfold pyNext
 refine wpAny_bind (wpAny_attempt (wpAny_callSpecial?_slot (name:=Str.ofString "__next__") hit.typeIs F.slot_dict_keyiterator_next (wpAny_call_entry F.slot_dict_keyiterator_next hit.typeIs F.entry_dict_keyiterator_next ?_ (F.args_dict_keyiterator_next_1 _))))
 refine wpAny_bind (wpAny_pure (wpAny_bind (wpAny_bind ?_)))
 first | refine wpAny_bind (wpAny_typeNameOfWhole_keyiter hit.typeIs (wpAny_pure ?_)) | refine wpAny_bind (wpAny_typeNameOf_keyiter hit.typeIs (wpAny_pure ?_))
 refine wpAny_bind (wpAny_fieldsOf gi di ?_)
 simp only[show Builtin.Dict_items.ownsTuple "dict_keyiterator" = false from by decide,Bool.false_eq_true,if_false]
 refine(show wpAny _ _ (if (Value.ref d == Value.none)=true then _ else _) _ _ s from ?_)
 rw[if_neg (by intro z;cases z)]
 refine wpAny_bind (wpAny_pure (wpAny_bind (wpAny_dictEntries hod hdd ?_)))
 rw[if_neg (by rw[hsz];simp)]
 refine wpAny_bind (wpAny_pure (wpAny_bind (wpAny_dictEpoch hod hdd ?_)))
 rw[if_neg (by simp)]
 refine wpAny_pure ?_
 simp only[show ¬((i:Int)<0) from by omega,if_false,Int.toNat_natCast,out]
 refine wpAny_bind ?_
 first | refine wpAny_bind (wpAny_typeNameOfWhole_keyiter hit.typeIs (wpAny_pure ?_)) | refine wpAny_bind (wpAny_typeNameOf_keyiter hit.typeIs (wpAny_pure ?_))
 refine(show wpAny _ _ (setField (.ref it) 0 .none >>= _) _ _ s from wpAny_bind (wpAny_setField gi di (by simp) ?_))
 refine(show CoolBut A.in1 s.heap it from c).over (Heap.SameBut.update ..).extBut fun a h' k ⟨o,e,cl⟩=>?_
 exact wpAny_bind (wpAny_isInstance (T:="StopIteration") (b:=true) ⟨o,e,cl⟩ isSubtype_stop (wpAny_pure (hQ h' k)))
end
end M3
namespace M3
open PySem PySem.Spec PyProof.Rows L2
structure Turn (P:Program) (w:World) (K:PySem.W.Frag) (tg:Expr) (J:It) (fp:List Addr) (it:Addr) (tn:Nat→Heap→Prop):Prop where
 mem:it∈fp
 obj:∀i h,tn i h→∀b∈fp,∃o,h.get? b=some o∧∀v,o.data≠.cell v
 keep:∀i h h',tn i h→(∀b∈fp,∀o,h.get? b=some o→h'.get? b=some o)→tn i h'
 item:∀(X:Cx),X.prog=P→X.w=w→X.K=K→Cool X→∀(i:Nat) (pins:List (Addr×Obj)) (s:Shared) (z:L2.St) (H:Hp) (E:Value→Shared→Prop),Inv X pins z H s→(∀b∈fp,FpOk X pins H b)→tn i s.heap→J.go i H→
  wpAny (model P w) X.A (pyNext (.ref it)) (fun r s1=>∃u,r=some u∧wpAny (model P w) X.A (letOwnedTupleGo tg (.ref it) u) (fun _ s2=>∃x H',Inv X pins z H' s2∧RelV x u∧J.yld i H x H'∧tn (i+1) s2.heap∧∀b∈fp,H' b=none) E s1) E s
 done:∀(X:Cx),X.prog=P→X.w=w→X.K=K→Cool X→∀(i:Nat) (pins:List (Addr×Obj)) (s:Shared) (z:L2.St) (H:Hp) (E:Value→Shared→Prop),Inv X pins z H s→(∀b∈fp,FpOk X pins H b)→tn i s.heap→J.stop i H→
  wpAny (model P w) X.A (pyNext (.ref it)) (fun r s1=>r=none∧Inv X pins z H s1) E s
 self:∀(A:Around) (i:Nat) (s:Shared) (Q:Value→Shared→Prop) (E:Value→Shared→Prop),tn i s.heap→Q (.ref it) s→wpAny (model P w) A (pyIter (.ref it)) Q E s
def plainIt (n:String):Prop:=["enumerate","zip","dict_itemiterator","dict_reverseitemiterator","odict_iterator","itertools.zip_longest","itertools.pairwise"].contains n=false
theorem turn_one {P:Program} {w:World} {K:PySem.W.Frag} {tg:Expr} {J:It} {it:Addr} {tn:Nat→Heap→Prop} {n:String} (hn:plainIt n)
  (data:∀i h,tn i h→∃o vs,h.get? it=some o∧o.cls=.type n∧o.data=.fields vs)
  (keep:∀i h h',tn i h→(∀o,h.get? it=some o→h'.get? it=some o)→tn i h')
  (item:∀(X:Cx),X.prog=P→X.w=w→X.K=K→∀(pins:List (Addr×Obj)) (s:Shared) (z:L2.St) (H:Hp),Inv X pins z H s→∀i,tn i s.heap→J.go i H→∀(Q:Option Value→Shared→Prop) (E:Value→Shared→Prop),
   (∀u x h' tk,Heap.ExtBut it s.heap h'→tn (i+1) h'→RelV x u→J.yld i H x H→Q (some u) { s with heap:=h',toks:=tk })→wpAny (model P w) X.A (pyNext (.ref it)) Q E s)
  (done:∀(X:Cx),X.prog=P→X.w=w→X.K=K→∀(pins:List (Addr×Obj)) (s:Shared) (z:L2.St) (H:Hp),Inv X pins z H s→∀i,CoolBut X.A s.heap it→tn i s.heap→J.stop i H→∀(Q:Option Value→Shared→Prop) (E:Value→Shared→Prop),
   (∀h',Heap.ExtBut it s.heap h'→Q none { s with heap:=h' })→wpAny (model P w) X.A (pyNext (.ref it)) Q E s)
  (self:∀(A:Around) (i:Nat) (s:Shared) (Q:Value→Shared→Prop) (E:Value→Shared→Prop),tn i s.heap→Q (.ref it) s→wpAny (model P w) A (pyIter (.ref it)) Q E s):Turn P w K tg J [it] it tn:=by
 have only:∀{b:Addr},b∈[it]→b=it:=List.mem_singleton.mp
 refine⟨List.mem_cons_self,fun i h st b hb=>?_,fun i h h' st k=>keep i h h' st (k it List.mem_cons_self),fun X e1 e2 e3 c i pins s z H E I f st g=>?_,fun X e1 e2 e3 c i pins s z H E I f st g=>?_,self⟩
 ·obtain⟨o,vs,e,_,d⟩:=data i h st
  rw[only hb]
  exact⟨o,e,fun v y=>by rw[d] at y;cases y⟩
 ·have fi:=f it List.mem_cons_self
  refine item X e1 e2 e3 pins s z H I i st g _ _ fun u x h' tk k st' r y=>⟨u,rfl,?_⟩
  have I':Inv X pins z H { s with heap:=h',toks:=tk }:=I.turned (fun b o hb e=>k b o hb e) fi.1 fi.2.1 fi.2.2.2.1 fi.2.2.2.2.1 fi.2.2.2.2.2
  obtain⟨o,vs,e,cl,d⟩:=data _ _ st'
  exact go_of (s:={ s with heap:=h',toks:=tk }) e cl d hn ⟨x,H,I',r,y,st',fun b hb=>(f b hb).1⟩
 ·have fi:=f it List.mem_cons_self
  exact done X e1 e2 e3 pins s z H I i (c.but I fi) st g _ _ fun h' k=>⟨rfl,I.turned (t':=s.toks) (fun b o hb e=>k b o hb e) fi.1 fi.2.1 fi.2.2.2.1 fi.2.2.2.2.1 fi.2.2.2.2.2⟩
section
variable {P:Program} {w:World} {K:PySem.W.Frag} {tg:Expr}
theorem turn_list (a it:Addr):Turn P w K tg (Itl K a) [it] it (fun i h=>h.IsListIter it a i):=by
 refine turn_one (n:="list_iterator") (by unfold plainIt;decide) (fun i h ⟨o,e,c,d⟩=>⟨o,_,e,c,d⟩) (fun i h h' st k=>st.at fun o e=>k o e) (fun X e1 e2 e3 pins s z H I i st ⟨xs,x,hq,hx⟩ Q E hQ=>?_) (fun X e1 e2 e3 pins s z H I i c st ⟨xs,hq,hx⟩ Q E hQ=>?_) (fun _ _ _ _ _ st h=>wpAny_pyIter_listiter st h)
 ·subst e1 e2 e3
  obtain⟨its,rv,p,_⟩:=I.list hq
  obtain⟨u,hu,ru⟩:=rv.get hx
  exact wpAny_pyNext_list_item st p.isList (x:=u) (by simpa using hu) fun h' st' sb=>hQ u x h' s.toks sb.extBut st' ru ⟨rfl,fun ys hy=>by rw[I.list_inj hy hq];exact hx⟩
 ·subst e1 e2 e3
  obtain⟨its,rv,p,_⟩:=I.list hq
  have hl:=rv.length
  exact listStop c st p.isList (by simp;omega) hQ
theorem turn_tuple (a it:Addr):Turn P w K tg (Itt K a) [it] it (fun i h=>h.IsTupleIter it a i):=by
 refine turn_one (n:="tuple_iterator") (by unfold plainIt;decide) (fun i h ⟨o,e,c,d⟩=>⟨o,_,e,c,d⟩) (fun i h h' st k=>st.at fun o e=>k o e) (fun X e1 e2 e3 pins s z H I i st ⟨xs,x,hq,hx⟩ Q E hQ=>?_) (fun X e1 e2 e3 pins s z H I i c st ⟨xs,hq,hx⟩ Q E hQ=>?_) (fun _ _ _ _ _ st h=>wpAny_pyIter_tupleiter st h)
 ·subst e1 e2 e3
  obtain⟨its,rv,p,_⟩:=I.tuple hq
  obtain⟨u,hu,ru⟩:=rv.get hx
  exact wpAny_pyNext_tuple_item st (show s.heap.IsTuple a its.toArray from p) (x:=u) (by simpa using hu) fun h' st' sb=>hQ u x h' s.toks sb.extBut st' ru ⟨rfl,fun ys hy=>by rw[I.tuple_inj hy hq];exact hx⟩
 ·subst e1 e2 e3
  obtain⟨its,rv,p,_⟩:=I.tuple hq
  have hl:=rv.length
  exact tupleStop c st (show s.heap.IsTuple a its.toArray from p) (by simp;omega) hQ
theorem turn_range (it:Addr) (lo:Int) (n:Nat):Turn P w K tg (Itr lo n) [it] it (fun i h=>IsRangeIter h it (lo+(i:Nat) * 1) ((n:Int) - (i:Nat)) 1):=by
 refine turn_one (n:="range_iterator") (by unfold plainIt;decide) (fun i h st=>⟨_,_,st,rfl,rfl⟩) (fun i h h' st k=>k _ st) (fun X e1 e2 e3 pins s z H I i st g Q E hQ=>?_) (fun X e1 e2 e3 pins s z H I i c st g Q E hQ=>?_) (fun _ _ _ _ _ st h=>wpAny_pyIter_rangeiter st h)
 ·have lt:i<n:=g
  refine wpAny_pyNext_range_item st (by omega) fun h' st' sb=>hQ _ (.int (lo+i)) h' _ sb.extBut ?_ ⟨s.toks,by rw[Int.mul_one]⟩ ⟨rfl,rfl⟩
  have e1:lo+((i:Nat):Int) * 1+1=lo+((i+1:Nat):Int) * 1:=by omega
  have e2:(n:Int) - ((i:Nat):Int) - 1=(n:Int) - ((i+1:Nat):Int):=by omega
  exact e1▸e2▸st'
 ·have le:n≤i:=g
  exact rangeStop c st (by omega) hQ
theorem turn_str (it:Addr) (x:Str) (t:Tok) (ty:String) (hty:ty="str_ascii_iterator"∨ty="str_iterator"):Turn P w K tg (Its x) [it] it (fun i h=>h.IsStrIter it ty x t i):=by
 refine turn_one (n:=ty) (by unfold plainIt;rcases hty with rfl | rfl <;> decide) (fun i h ⟨o,e,c,d⟩=>⟨o,_,e,c,d⟩) (fun i h h' ⟨o,e,r⟩ k=>⟨o,k o e,r⟩) (fun X e1 e2 e3 pins s z H I i st g Q E hQ=>?_) (fun X e1 e2 e3 pins s z H I i c st g Q E hQ=>?_) (fun A i s Q E st h=>?_)
 ·have lt:i<x.cps.size:=g
  have hx:x.cps[i]?=some x.cps[i]:=Array.getElem?_eq_getElem lt
  rcases hty with rfl | rfl
  ·exact wpAny_pyNext_ascii_item st hx fun h' st' sb=>hQ _ (.str ⟨#[x.cps[i]]⟩) h' _ sb.extBut st' ⟨s.toks,rfl⟩ ⟨rfl,_,hx,rfl⟩
  ·exact wpAny_pyNext_wide_item st hx fun h' st' sb=>hQ _ (.str ⟨#[x.cps[i]]⟩) h' _ sb.extBut st' ⟨s.toks,rfl⟩ ⟨rfl,_,hx,rfl⟩
 ·have hx:x.cps[i]?=none:=Array.getElem?_eq_none g
  rcases hty with rfl | rfl
  ·exact asciiStop c st hx hQ
  ·exact wideStop c st hx hQ
 ·rcases hty with rfl | rfl
  ·exact wpAny_pyIter_striter_ascii st h
  ·exact wpAny_pyIter_striter_wide st h
end
end M3
namespace M3
open PySem PySem.Spec PyProof.Rows L2
section
variable {prog:Program} {w:World} {A:Around} {E:Value→Shared→Prop} {s:Shared}
theorem unpackTup {env:Env} {elts:List Expr} {k} {pos:Pos} {t:Addr} {its:Array Value} {Q:Unit→Shared→Prop} (c:CoolAt A s.heap) (ht:IsTup s.heap t its)
  (hn:(assignEach elts env).length=its.size) (hst:(assignEach elts env).findIdx? (·.1)=none)
  (h:∀h',Heap.ExtBut s.heap.objs.size s.heap h'→wpAny (model prog w) A (assignInOrder ((assignEach elts env).map (·.2)) its.toList) Q E { s with heap:=h' }):wpAny (model prog w) A (assign (.Tuple elts k pos) env (.ref t)) Q E s:=by
 have ne:t≠s.heap.objs.size:=let ⟨o,e,_⟩:=ht;Nat.ne_of_lt (Heap.lt_size e)
 rw[assign_Tuple]
 refine wpAny_bind (wpAny_standAt ?_)
 unfold unpack
 rw[hn,hst]
 refine wpAny_bind (wpAny_holding ?_)
 unfold unpackItems
 refine wpAny_bind ?_
 unfold notIterableAtAll
 refine wpAny_bind (wpAny_specialOf ht.typeIs slot_tuple_iter.lookup (wpAny_pure ?_))
 simp only[Bool.false_eq_true,if_false]
 refine wpAny_bind (wpAny_holding (iter_tuple ht (wpAny_bind (wpAny_holding (draw_tuple ne its.size 0 _ _ ⟨_,Heap.get?_push_size _ rfl,rfl,rfl⟩ (ht.push _) (by omega) fun h1 it1 sb=>?_)))))
 have all:List.take its.size (List.drop 0 its.toList)=its.toList:=List.take_of_length_le (by simp)
 rw[all,if_neg (by simp)]
 have old:∀b o,s.heap.get? b=some o→h1.get? b=some o:=fun b o e=>sb.extBut b o (Nat.ne_of_lt (Heap.lt_size e)) (Heap.get?_push_of_some _ e)
 have cb:CoolBut A h1 s.heap.objs.size:=c.imp id fun ⟨x,hh,o,vs,g,d,n⟩=>⟨x,Nat.ne_of_lt (Heap.lt_size g),hh,o,vs,old x o g,d,n⟩
 refine wpAny_bind (wpAny_holding (tupleStop (s:={ s with heap:=h1 }) cb it1 (ht.keeps old) (by simp) fun h2 k=>?_))
 simp only[Option.isSome_none,Bool.false_eq_true,if_false]
 exact wpAny_pure (h h2 fun b o hb e=>k b o hb (old b o e))
end
section
variable {X:Cx} {tg:Expr}
theorem pg_tup {pos:Pos} {es:List Expr} {k:Nat} {t:TGs} {n:Nat} (c:Cool X) (h:PGs X es t) (hn:(assignEach es X.env).length=n:=by rfl) (hst:(assignEach es X.env).findIdx? (·.1)=none:=by rfl):PG X (.Tuple es k pos) (gTup X.K n t):=by
 constructor
 rintro pins s z H v u Q I r ⟨a,xs,rfl,hq,hl,hw⟩
 obtain rfl:u=Value.ref a:=r
 obtain⟨its,rv,ht,_⟩:=I.tuple hq
 refine unpackTup (c.at I) ht (by rw[hn,←hl,rv.length];simp) hst fun h' k=>?_
 exact h.run pins _ z H xs _ Q (I.kept (t':=s.toks) fun b o e=>k b o (Nat.ne_of_lt (Heap.lt_size e)) e) (by simpa using rv) hw
def PIE (X:Cx) (pins:List (Addr×Obj)) (z:L2.St) (tg:Expr) (R:It→Hp→Prop) (v:Value) (s2:Shared):Prop:=
 ∃(it:Addr) (fp:List Addr) (tn:Nat→Heap→Prop) (J:It) (H':Hp),v=.ref it∧Inv X pins z H' s2∧Turn X.prog X.w X.K tg J fp it tn∧tn 0 s2.heap∧(∀b∈fp,FpOk X pins H' b)∧R J H'
structure PI (X:Cx) (tg iter:Expr) (wi:TI):Prop where
 run:∀(pins:List (Addr×Obj)) (s:Shared) (z:L2.St) (H:Hp) (R:It→Hp→Prop),Inv X pins z H s→wi z H R→
  wpAny (model X.prog X.w) X.A (eval iter X.env) (fun v s1=>wpAny (model X.prog X.w) X.A (pyIter v) (PIE X pins z tg R) X.xe s1) X.xe s
theorem pi_one {pins:List (Addr×Obj)} {z:L2.St} {H:Hp} {s:Shared} {R:It→Hp→Prop} {J:It} {tn:Nat→Heap→Prop} {tk:Nat} (I:Inv X pins z H s) (o:Obj)
  (T:Turn X.prog X.w X.K tg J [s.heap.objs.size] s.heap.objs.size tn) (st:tn 0 (s.heap.push o)) (q:R J H):PIE X pins z tg R (.ref s.heap.objs.size) { s with heap:=s.heap.push o,toks:=tk }:=
 ⟨_,_,tn,J,H,rfl,I.kept fun b ob e=>Heap.get?_push_of_some _ e,T,st,fun b hb=>by rw[List.mem_singleton.mp hb];exact I.fpOk (Nat.le_refl _) (I.hok.fresh (Nat.le_refl _)),q⟩
theorem range_it {pins:List (Addr×Obj)} {z:L2.St} {H:Hp} {s:Shared} {R:It→Hp→Prop} {E:Value→Shared→Prop} {lo hi:Int} {t u v:Tok} {tk:Nat} (I:Inv X pins z H s) (b:(-(2 ^ 62)≤lo∧lo<2 ^ 62)∧-(2 ^ 62)≤hi∧hi<2 ^ 62)
  (q:R (Itr lo (hi - lo).toNat) H):wpAny (model X.prog X.w) X.A (pyIter (.ref s.heap.objs.size)) (PIE X pins z tg R) E { s with heap:=s.heap.push { cls:=.type "range",data:=.fields #[.int lo t,.int hi u,.int 1 v] },toks:=tk }:=by
 have I1:Inv X pins z H { s with heap:=s.heap.push { cls:=.type "range",data:=.fields #[.int lo t,.int hi u,.int 1 v] },toks:=tk }:=I.kept fun b o e=>Heap.get?_push_of_some _ e
 refine wpAny_pyIter_range (IsRange.new ..) (small_one b.1.1 b.1.2 b.2.1 b.2.2) (pi_one I1 _ (turn_range _ lo (hi - lo).toNat) ?_ q)
 have e1:lo+((0:Nat):Int) * 1=lo:=by simp
 have e2:(((hi - lo).toNat:Nat):Int) - ((0:Nat):Int)=Builtin.Range.rangeSize lo hi 1:=by rw[rangeSize_one];split <;> omega
 show IsRangeIter _ _ (lo+((0:Nat):Int) * 1) ((((hi - lo).toNat:Nat):Int) - ((0:Nat):Int)) 1
 rw[e1,e2]
 exact Heap.get?_push_size _ rfl
theorem pi_range1 {a:Expr} {ta:TA} {p pos:Pos} (hg:Gl X "range") (hm:X.mg "range" = none) (ha:PA X [a] ta) (hs:starEach [a] X.env=[(false,eval a X.env)]:=by rfl):PI X tg (.Call (.Name "range" p) [a] [] pos) (iRng1 ta):=by
 constructor
 intro pins s z H R I h
 refine Call_ (ld_blt I hg hm boot_range (PyProof.Rows.callWith_type1 (thn (ha.run pos pins s z H _ I h) ?_) hs rfl))
 rintro us s1 ⟨vs,H1,I1,r1,j,rfl,q1,q2,q⟩
 obtain⟨_,rfl,t,rfl⟩:=vals1 r1
 exact call_range_1 (range_it I1 ⟨by omega,by omega⟩ (by simpa using q))
theorem fp_at {pins:List (Addr×Obj)} {fp:List Addr} {H H':Hp} (f:∀b∈fp,FpOk X pins H b) (n:∀b∈fp,H' b=none):∀b∈fp,FpOk X pins H' b:=fun b hb=>⟨n b hb,(f b hb).2⟩
theorem Turn.after {tg:Expr} {J:It} {fp:List Addr} {it:Addr} {tn:Nat→Heap→Prop} (T:Turn X.prog X.w X.K tg J fp it tn) {pins:List (Addr×Obj)} {z:L2.St} {H:Hp} {s s':Shared} {i:Nat} (st:tn i s.heap)
  (I:Inv X (pins++pinsAt fp s.heap) z H s'):Inv X pins z H s'∧tn i s'.heap∧∀b∈fp,H b=none:=by
 have p:∀b∈fp,∀o,s.heap.get? b=some o→s'.heap.get? b=some o∧H b=none:=fun b hb o e=>
  have q:=I.pin (b,o) (List.mem_append_right _ (List.mem_append_right _ (mem_pinsAt hb e)))
  ⟨q.1,q.2.1⟩
 refine⟨I.unpinned,T.keep _ _ _ st fun b hb o e=>(p b hb o e).1,fun b hb=>?_⟩
 obtain⟨o,e,_⟩:=T.obj _ _ st b hb
 exact(p b hb o e).2
theorem ps_for {iter:Expr} {body:List Stmt} {wi:TI} {g:TG} {tb:TS} {pos:Pos} (hp:PassesOwn (model X.prog X.w) X.A X.env X.xe) (c:Cool X) (hi:PI X tg iter wi) (hg:PG X tg g) (hb:PSs X body tb)
  (hs:∀x,foldedSetIterable iter X.env x=pure x:=by intro _;rfl):PS X (.For tg iter body [] pos) (tFor wi g tb):=by
 constructor
 intro pins s z H D I h
 refine wpAny_For (thn (hi.run pins s z H _ I h) fun v s1 h1=>thn h1 ?_) hs
 rintro _ s2 ⟨it,fp,tn,J,H2,rfl,I2,T,st2,f2,W,⟨m0,w0⟩,turn⟩
 refine codeAny_forLoop_any (fun n now=>∃i z' H',(Inv X pins z' H' now∧tn i now.heap∧∀b∈fp,H' b=none)∧W i n z' H') (fun n s3=>?_) m0 ⟨0,z,H2,⟨I2,st2,fun b hb=>(f2 b hb).1⟩,w0⟩
 rintro⟨i,z3,H3,⟨I3,st3,n3⟩,w3⟩
 rcases turn i n z3 H3 w3 with⟨stop,qn⟩ | ⟨go,N,hN,step⟩
 ·refine wpAny_passesOwn hp (thn (T.done X rfl rfl rfl c i pins s3 z3 H3 X.xe I3 (fp_at f2 n3) st3 stop) ?_)
  rintro _ s4 ⟨rfl,I4⟩
  exact wpAny_execs_nil ⟨z3,H3,I4,qn⟩
 ·refine wpAny_passesOwn hp (thn (T.item X rfl rfl rfl c i pins s3 z3 H3 X.xe I3 (fp_at f2 n3) st3 go) ?_)
  rintro _ s4 ⟨u,rfl,h4⟩
  refine wpAny_passesOwn hp (thn h4 fun _ s5 ⟨x,H5,I5,r5,y5,st5,n5⟩=>?_)
  refine wpAny_passesOwn hp (thn (hg.run _ s5 z3 H5 x u _ (I5.pinned (fp_at f2 n5) (T.obj _ _ st5)) r5 (step x H5 y5)) fun _ s6 ⟨z6,H6,I6,q6⟩=>?_)
  refine wpAny_passesOwn hp (thn (hb.run _ s6 z6 H6 _ I6 q6) fun f s7 q7=>?_)
  have go:∀{z7:L2.St} {H7:Hp},Inv X (pins++pinsAt fp s5.heap) z7 H7 s7→N z7 H7→∃m,m<n∧∃i z' H',(Inv X pins z' H' s7∧tn i s7.heap∧∀b∈fp,H' b=none)∧W i m z' H':=fun {z7 H7} I7 n7=>
   have ⟨m,hm,w7⟩:=hN z7 H7 n7
   ⟨m,hm,i+1,z7,H7,T.after st5 I7,w7⟩
  cases f with
  | next=>obtain⟨z7,H7,I7,n7⟩:=q7;exact go I7 n7
  | cont=>obtain⟨z7,H7,I7,n7⟩:=q7;exact go I7 n7
  | brk=>obtain⟨z7,H7,I7,y⟩:=q7;exact⟨z7,H7,I7.unpinned,y⟩
  | ret v=>obtain⟨x7,z7,H7,I7,y⟩:=q7;exact⟨x7,z7,H7,I7.unpinned,y⟩
end
end M3
namespace M3
open PySem PySem.Spec PyProof.Rows L2
structure Opened (X:Cx) (pins:List (Addr×Obj)) (z:L2.St) (scope:Scope) (own:List (Str×Nat)) (fp:List Addr) (tn:Nat→Heap→Prop) (start:Shared) (Hd:Hp) (ce:Env) (first:Shared):Prop where
 ins:Inv (X.blk start Hd scope ce fp) [] (wipe z (own.map (·.2))) Hd first
 st:tn 0 first.heap
 clear:∀b∈fp,Hd b=none
 cools:CoolS X.A start Hd (frs X.stack) fp
 foot:∀{t:L2.St} {H':Hp} {s':Shared},Inv (X.blk start Hd scope ce fp) [] t H' s'→(∀b∈fp,H' b=none)→∀b∈fp,FpOk (X.blk start Hd scope ce fp) [] H' b
 back:∀{t:L2.St} {H':Hp} {s':Shared},Inv (X.blk start Hd scope ce fp) [] t H' s'→Inv X pins z H' s'∧(∃m,s'.heap.Ns start.heap.objs.size m)∧FpOk X pins H' start.heap.objs.size
theorem Opened.cool {X:Cx} {pins:List (Addr×Obj)} {z:L2.St} {scope:Scope} {own:List (Str×Nat)} {fp:List Addr} {tn:Nat→Heap→Prop} {start:Shared} {Hd:Hp} {ce:Env} {first:Shared} (O:Opened X pins z scope own fp tn start Hd ce first):Cool (X.blk start Hd scope ce fp):=CoolS.cool (X:=X.blk start Hd scope ce fp) O.cools
section
variable {X:Cx}
abbrev blkEnv (X:Cx) (scope:Scope) (start:Shared):Env:=compEnvC scope (cellsFrom (start.heap.objs.size+1) scope.names (cloFrom X.env.cells scope.names [])) start.heap.objs.size X.env
abbrev blkFirst (scope:Scope) (start:Shared):Shared:={ start with heap:=pushCells (start.heap.push { cls:=.type "dict",data:=.dict #[] }) scope.names }
theorem comp_open {pins:List (Addr×Obj)} {z:L2.St} {H:Hp} {s:Shared} {tg:Expr} {J:It} {fp:List Addr} {it:Addr} {tn:Nat→Heap→Prop} {scope:Scope} {own:List (Str×Nat)} {ho:HO} {ob:Obj} (c:Cool X) (nd:X.N.Nodup) (ok:BlkOk X.N X.env.scope scope own)
  (I:Inv X pins z H s) (T:Turn X.prog X.w X.K tg J fp it tn) (st:tn 0 s.heap) (feet:∀b∈fp,FpOk X pins H b) (hob:∀H',ObjOk X.prog X.w H' (s.heap.push ob) s.heap.objs.size ho) :
  Opened X pins z scope own fp tn { s with heap:=s.heap.push ob } (upd H s.heap.objs.size ho) (blkEnv X scope { s with heap:=s.heap.push ob }) (blkFirst scope { s with heap:=s.heap.push ob }):=by
 have laid:Inv X pins z (upd H s.heap.objs.size ho) { s with heap:=s.heap.push ob }:=I.laid (t':=s.toks) (fun b o e=>Heap.get?_push_of_some _ e) (Nat.le_refl _) (hob _)
 have size:({ s with heap:=s.heap.push ob }:Shared).heap.objs.size=s.heap.objs.size+1:=Heap.size_push ..
 have feet2:∀b∈fp,FpOk X pins (upd H s.heap.objs.size ho) b∧b<({ s with heap:=s.heap.push ob }:Shared).heap.objs.size:=fun b hb=>by
  obtain⟨o,e,_⟩:=T.obj _ _ st b hb
  have lt:=Heap.lt_size e
  exact⟨⟨(upd_ne (Nat.ne_of_lt lt)).trans (feet b hb).1,(feet b hb).2⟩,by rw[size];exact Nat.lt_succ_of_lt lt⟩
 have ins:=block_start laid ok nd feet2
 revert laid feet2 ins
 generalize eS:({ s with heap:=s.heap.push ob }:Shared)=start
 generalize upd H s.heap.objs.size ho=Hd
 intro laid feet2 ins
 refine⟨ins,T.keep _ _ _ st fun b _ o e=>pushCells_keeps _ _ _ _ (Heap.get?_push_of_some _ (by rw[←eS];exact Heap.get?_push_of_some _ e)),fun b hb=>(feet2 b hb).1.1,c.blk laid fun b hb=>(feet2 b hb).1,fun {t H' s'} I' n b hb=>?_,fun {t H' s'} I'=>?_⟩
 ·exact⟨n b hb,(I'.ok.exf b hb).1,I'.ok.exfs b hb,.inl hb,fun x c e=>(I'.ok.exf b hb).2 x c e,fun p hp=>by cases hp⟩
 ·obtain⟨m,hn,_⟩:=I'.loc
  refine⟨laid.call' (ch:=fp) I'.os I'.base I'.hok I'.bare fun b hb=>?_,⟨m,hn⟩,laid.fpOk (Nat.le_refl _) I'.free⟩
  obtain⟨_,f1,_,f3,f4,f5⟩:=(feet2 b hb).1
  exact⟨f3,f1,f4,f5⟩
theorem Turn.next {pins:List (Addr×Obj)} {tg:Expr} {J:It} {fp:List Addr} {it:Addr} {tn:Nat→Heap→Prop} (T:Turn X.prog X.w X.K tg J fp it tn) {t t0:L2.St} {H:Hp} {s s':Shared} {i:Nat} (st:tn i s.heap)
  (I:Inv X (pins++pinsAt fp s.heap) t H s') (hl:t0.length=t.length) (hk:∀(j:Nat) v,t0[j]?=some (some v)→t[j]?=some (some v)):Inv X pins t0 H s'∧tn i s'.heap∧∀b∈fp,H b=none:=
 have ⟨a,b,c⟩:=T.after st I
 ⟨a.weak hl hk,b,c⟩
theorem wiped {t u:L2.St} {own:List Nat} (e:wipe t own=wipe u own):(wipe u own).length=t.length∧∀(j:Nat) v,(wipe u own)[j]?=some (some v)→t[j]?=some (some v):=
 ⟨by rw[←e,wipe_length],fun j v h=>by rw[←e] at h;exact(wipe_some h).1⟩
abbrev InBlk (X:Cx) (scope:Scope) (R:Cx→Prop):Prop:=∀(s:Shared) (H:Hp) (C:Addr) (cl:List (Str×Addr)) (fp:List Addr),CoolS X.A s H (frs X.stack) fp→R (X.blk s H scope (compEnvC scope cl C X.env) fp)
abbrev laidL (s:Shared):Shared:={ s with heap:=s.heap.push { cls:=.type "list",data:=.seq ([]:List Value).toArray } }
theorem InBlk.at {scope:Scope} {R:Cx→Prop} (h:InBlk X scope R) (start:Shared) (Hd:Hp) (fp:List Addr) (c:CoolS X.A start Hd (frs X.stack) fp):R (X.blk start Hd scope (blkEnv X scope start) fp):=h start Hd start.heap.objs.size _ fp c
theorem lc_core {pins:List (Addr×Obj)} {s:Shared} {z:L2.St} {H:Hp} {Q:VK} {elt tg iter:Expr} {ifs:List Expr} {scope:Scope} {own:List (Str×Nat)} {pos pos':Pos} {wi:TI} {g:TG} {tt:TT} {te:TE} {use:Option (Value→Sem Unit)} {Qf:Value→Shared→Prop}
  (c:Cool X) (nd:X.N.Nodup) (I:Inv X pins z H s) (hi:PI X tg iter wi) (ok:BlkOk X.N X.env.scope scope own) (hg:InBlk X scope fun Y=>PG Y tg g) (ht:InBlk X scope fun Y=>PTs Y ifs tt) (he:InBlk X scope fun Y=>PE Y elt te) (hs:∀x,foldedSetIterable iter X.env x=pure x)
  (h:tLc wi g tt te (own.map (·.2)) z H Q)
  (out:∀D C s' m H',Inv X pins z H' s'→Q (.ref D) H'→s'.heap.Ns C m→FpOk X pins H' C→compPost (model X.prog X.w) X.A X.xe use Qf (.ref D) C (.ok .next) s') :
  wpAny (model X.prog X.w) X.A (comprehension (.ListComp elt [⟨tg,iter,ifs,0⟩] scope pos) scope X.env pos' (newList []) false (eval iter X.env) use) Qf X.xe s:=by
 refine wpAny_comprehension_free (use:=use) rfl hs (closure_ok fun y hy e=>I.ok.has _ (ok.free y hy e)) ok.kind (fun y hy e=>(ok.uniq y hy).trans (congrArg some e)) (thn (hi.run pins s z H _ I h) fun _ s1 h1=>thn h1 ?_)
 rintro _ s2 ⟨it,fp,tn,J,H2,rfl,I2,T,st2,f2,q⟩
 refine wpAny_newObj_type (newEnv_comp ?_) (by show 0≤sizeLine;decide)
 obtain⟨W,⟨m0,w0⟩,turn⟩:=q s2.heap.objs.size (I2.hok.fresh (Nat.le_refl _))
 have O:=comp_open (ho:=.lst []) (ob:={ cls:=.type "list",data:=.seq ([]:List Value).toArray }) c nd ok I2 T st2 f2 fun H'=>⟨Nat.zero_le _,[],0,.nil,Heap.get?_push_size _ rfl⟩
 have gG:=InBlk.at hg (laidL s2) (upd H2 s2.heap.objs.size (.lst [])) fp O.cools
 have gT:=InBlk.at ht (laidL s2) (upd H2 s2.heap.objs.size (.lst [])) fp O.cools
 have gE:=InBlk.at he (laidL s2) (upd H2 s2.heap.objs.size (.lst [])) fp O.cools
 refine(show codeAny _ _ (.compStart (.ListComp elt [⟨tg,iter,ifs,0⟩] scope pos) 0 (.ref it) (.ref s2.heap.objs.size) (blkEnv X scope (laidL s2))) (compPost _ _ _ use Qf (.ref s2.heap.objs.size) (laidL s2).heap.objs.size) (blkFirst scope (laidL s2)) from ?_)
 revert O gG gT gE w0 turn
 show (∀i m H,W i m H→_)→W 0 m0 (upd H2 s2.heap.objs.size (.lst []))→Opened X pins z scope own fp tn (laidL s2) (upd H2 s2.heap.objs.size (.lst [])) (blkEnv X scope (laidL s2)) (blkFirst scope (laidL s2))→_
 generalize upd H2 s2.heap.objs.size (.lst [])=Hd
 generalize s2.heap.objs.size=D
 generalize laidL s2=start
 generalize blkEnv X scope start=ce
 generalize blkFirst scope start=first
 intro turn w0 O gG gT gE
 refine(fun loop=>codeAny_compStart_list loop (T.self X.A 0 _ _ _ O.st loop)) ?_
 refine compLoop_any (fun n now=>∃i H',(Inv (X.blk start Hd scope ce fp) [] (wipe z (own.map (·.2))) H' now∧tn i now.heap∧∀b∈fp,H' b=none)∧W i n H') (fun n s5=>?_) m0 ⟨0,Hd,⟨O.ins,O.st,O.clear⟩,w0⟩
 rintro⟨i,H5,⟨I5,st5,n5⟩,w5⟩
 rcases turn i n H5 w5 with⟨stop,qq⟩ | ⟨go,Nx,hNx,step⟩
 ·refine thnF (T.done (X.blk start Hd scope ce fp) rfl rfl rfl O.cool i [] s5 _ H5 (fun _ _=>False) I5 (O.foot I5 n5) st5 stop) ?_
  rintro _ s6 ⟨rfl,I6⟩
  obtain⟨I7,⟨m,hn⟩,fC⟩:=O.back I6
  exact out D start.heap.objs.size s6 m H5 I7 qq hn fC
 ·refine thnF (T.item (X.blk start Hd scope ce fp) rfl rfl rfl O.cool i [] s5 _ H5 (fun _ _=>False) I5 (O.foot I5 n5) st5 go) ?_
  rintro _ s6 ⟨u,rfl,h6⟩
  refine thnF h6 fun _ s7 ⟨x,H7,I7,r7,y7,st7,n7⟩=>?_
  refine thnF (gG.run _ s7 _ H7 x u _ (I7.pinned (O.foot I7 n7) (T.obj _ _ st7)) r7 (step x H7 y7)) fun _ s8 ⟨z8,H8,I8,same,q8⟩=>?_
  have fin:∀{s':Shared} {H':Hp},Inv (X.blk start Hd scope ce fp) ([]++pinsAt fp s7.heap) z8 H' s'→Nx H'→∃m,m<n∧∃i H',(Inv (X.blk start Hd scope ce fp) [] (wipe z (own.map (·.2))) H' s'∧tn i s'.heap∧∀b∈fp,H' b=none)∧W i m H':=fun {s' H'} I' nx=>
   have ⟨m',less,w'⟩:=hNx H' nx
   ⟨m',less,i+1,H',Turn.next (X:=X.blk start Hd scope ce fp) T st7 I' (wiped same).1 (wiped same).2,w'⟩
  refine thnF (gT.run _ s8 z8 H8 _ I8 q8) fun b s9 ⟨H9,I9,q9⟩=>?_
  cases b with
  | false=>rw[if_neg Bool.false_ne_true] at q9⊢;exact fin I9 q9
  | true=>
   rw[if_pos rfl] at q9⊢
   refine thnF (gE.run _ s9 z8 H9 _ I9 q9) fun v s10 ⟨y,H10,I10,r10,acc,hD,hz,nx⟩=>?_
   exact app_ok (X:=X.blk start Hd scope ce fp) I10 hD hz r10 fun s11 I11=>fin I11 nx
theorem out_val {pins:List (Addr×Obj)} {z:L2.St} {Q:VK} {D C:Addr} {s':Shared} {m:Str→Option Value} {H':Hp} (I:Inv X pins z H' s') (q:Q (.ref D) H') (hn:s'.heap.Ns C m) (f:FpOk X pins H' C) :
  compPost (model X.prog X.w) X.A X.xe none (EP X pins z Q) (.ref D) C (.ok .next) s':=
 ⟨m,hn,fun h'' sb=>⟨.ref D,H',I.turned (t':=s'.toks) (fun b o hb e=>(sb.2 b hb).trans e) f.1 f.2.1 f.2.2.2.1 f.2.2.2.2.1 f.2.2.2.2.2,rfl,q⟩⟩
theorem out_set {pins:List (Addr×Obj)} {z:L2.St} {E:Ends} {i:Nat} {y:Str} {py:Pos} {D C:Addr} {s':Shared} {m:Str→Option Value} {H':Hp} (nd:X.N.Nodup) (hy:X.N[i]?=some y) (hyl:X.env.scope.names.lookup y=some .local)
  (I:Inv X pins z H' s') (q:gName i (.ref D) z H' E.nx) (hn:s'.heap.Ns C m) (f:FpOk X pins H' C):compPost (model X.prog X.w) X.A X.xe (some (assign (.Name y py) X.env)) (fun _ s'=>SP X pins E .next s') (.ref D) C (.ok .next) s':=by
 refine wpAny_assign_Name (store_ok2 (v:=V.ref D) I nd hy (.inl hyl) rfl (fun s2 I2 ⟨a,sb,ha⟩=>?_) (.inr hyl))
 have ne:C≠a:=ha.elim (fun e=>e▸f.2.1) fun e=>fun e'=>f.2.2.2.2.1 y a e e'.symm
 exact⟨m,hn.sameBut sb ne,fun h3 sb3=>⟨_,H',I2.turned (t':=s2.toks) (fun b o hb e=>(sb3.2 b hb).trans e) f.1 f.2.1 f.2.2.2.1 f.2.2.2.2.1 f.2.2.2.2.2,q⟩⟩
section
variable {elt tg iter tg1 iter1:Expr} {ifs ifs1:List Expr} {scope:Scope} {own:List (Str×Nat)} {vs1:List Nat} {pos pos' spos py:Pos} {wi wi1:TI} {g g1:TG} {tt tt1:TT} {te:TE} {i:Nat} {y:Str}
theorem pe_lc (c:Cool X) (nd:X.N.Nodup) (hi:PI X tg iter wi) (ok:BlkOk X.N X.env.scope scope own) (hg:InBlk X scope fun Y=>PG Y tg g) (ht:InBlk X scope fun Y=>PTs Y ifs tt) (he:InBlk X scope fun Y=>PE Y elt te)
  (hs:∀x,foldedSetIterable iter X.env x=pure x:=by intro _;rfl):PE X (.ListComp elt [⟨tg,iter,ifs,0⟩] scope pos) (tLc wi g tt te (own.map (·.2))):=
 ⟨fun pins s z H Q I h=>by
  rw[eval_ListComp]
  exact lc_core c nd I hi ok hg ht he hs h fun D C s' m H' I' q hn f=>out_val I' q hn f⟩
theorem ps_setLc (c:Cool X) (nd:X.N.Nodup) (hy:X.N[i]?=some y) (hyl:X.env.scope.names.lookup y=some .local) (hsw:swapsWith (.ListComp elt [⟨tg,iter,ifs,0⟩] scope pos) (some (.Name y py)) spos.line X.env=pure true)
  (hi:PI X tg iter wi) (ok:BlkOk X.N X.env.scope scope own) (hg:InBlk X scope fun Y=>PG Y tg g) (ht:InBlk X scope fun Y=>PTs Y ifs tt) (he:InBlk X scope fun Y=>PE Y elt te) (hs:∀x,foldedSetIterable iter X.env x=pure x:=by intro _;rfl) :
  PS X (.Assign [.Name y py] (.ListComp elt [⟨tg,iter,ifs,0⟩] scope pos) spos) (tAsg (tLc wi g tt te (own.map (·.2))) (gName i)):=
 ⟨fun pins s z H E I h=>by
  rw[exec_Assign_Name_used _ _ _ _ hsw]
  have h:tLc wi g tt te (own.map (·.2)) z H (fun x H1=>gName i x z H1 E.nx):=h
  exact wpAny_bind (wpAny_standAt (wpAny_bind (wpAny_bind (thn (lc_core (Qf:=fun _ s'=>SP X pins E .next s') c nd I hi ok hg ht he hs h fun D C s' m H' I' q hn f=>out_set nd hy hyl I' q hn f) fun _ s' hq=>wpAny_pure (wpAny_pure hq)))))⟩
theorem lc2_core {pins:List (Addr×Obj)} {s:Shared} {z:L2.St} {H:Hp} {Q:VK} {use:Option (Value→Sem Unit)} {Qf:Value→Shared→Prop}
  (c:Cool X) (nd:X.N.Nodup) (I:Inv X pins z H s) (hi:PI X tg iter wi) (ok:BlkOk X.N X.env.scope scope own) (hv:∀i∈vs1,i∈own.map (·.2)) (hg:InBlk X scope fun Y=>PG Y tg g) (ht:InBlk X scope fun Y=>PTs Y ifs tt) (he:InBlk X scope fun Y=>PE Y elt te)
  (hs:∀x,foldedSetIterable iter X.env x=pure x) (hi1:InBlk X scope fun Y=>PI Y tg1 iter1 wi1) (hg1:InBlk X scope fun Y=>PG Y tg1 g1) (ht1:InBlk X scope fun Y=>PTs Y ifs1 tt1) (hs1:∀env x,foldedSetIterable iter1 env x=pure x)
  (h:tLc2 wi g tt wi1 g1 tt1 te (own.map (·.2)) vs1 z H Q)
  (out:∀D C s' m H',Inv X pins z H' s'→Q (.ref D) H'→s'.heap.Ns C m→FpOk X pins H' C→compPost (model X.prog X.w) X.A X.xe use Qf (.ref D) C (.ok .next) s') :
  wpAny (model X.prog X.w) X.A (comprehension (.ListComp elt [⟨tg,iter,ifs,0⟩,⟨tg1,iter1,ifs1,0⟩] scope pos) scope X.env pos' (newList []) false (eval iter X.env) use) Qf X.xe s:=by
 refine wpAny_comprehension_free (use:=use) rfl hs (closure_ok fun y hy e=>I.ok.has _ (ok.free y hy e)) ok.kind (fun y hy e=>(ok.uniq y hy).trans (congrArg some e)) (thn (hi.run pins s z H _ I h) fun _ s1 h1=>thn h1 ?_)
 rintro _ s2 ⟨it,fp,tn,J,H2,rfl,I2,T,st2,f2,q⟩
 refine wpAny_newObj_type (newEnv_comp ?_) (by show 0≤sizeLine;decide)
 obtain⟨W,⟨m0,w0⟩,turn⟩:=q s2.heap.objs.size (I2.hok.fresh (Nat.le_refl _))
 have O:=comp_open (ho:=.lst []) (ob:={ cls:=.type "list",data:=.seq ([]:List Value).toArray }) c nd ok I2 T st2 f2 fun H'=>⟨Nat.zero_le _,[],0,.nil,Heap.get?_push_size _ rfl⟩
 have gG:=InBlk.at hg (laidL s2) (upd H2 s2.heap.objs.size (.lst [])) fp O.cools
 have gT:=InBlk.at ht (laidL s2) (upd H2 s2.heap.objs.size (.lst [])) fp O.cools
 have gE:=InBlk.at he (laidL s2) (upd H2 s2.heap.objs.size (.lst [])) fp O.cools
 have gI1:=InBlk.at hi1 (laidL s2) (upd H2 s2.heap.objs.size (.lst [])) fp O.cools
 have gG1:=InBlk.at hg1 (laidL s2) (upd H2 s2.heap.objs.size (.lst [])) fp O.cools
 have gT1:=InBlk.at ht1 (laidL s2) (upd H2 s2.heap.objs.size (.lst [])) fp O.cools
 refine(show codeAny _ _ (.compStart (.ListComp elt [⟨tg,iter,ifs,0⟩,⟨tg1,iter1,ifs1,0⟩] scope pos) 0 (.ref it) (.ref s2.heap.objs.size) (blkEnv X scope (laidL s2))) (compPost _ _ _ use Qf (.ref s2.heap.objs.size) (laidL s2).heap.objs.size) (blkFirst scope (laidL s2)) from ?_)
 revert O gG gT gE gI1 gG1 gT1 w0 turn
 show (∀i m H,W i m H→_)→W 0 m0 (upd H2 s2.heap.objs.size (.lst []))→Opened X pins z scope own fp tn (laidL s2) (upd H2 s2.heap.objs.size (.lst [])) (blkEnv X scope (laidL s2)) (blkFirst scope (laidL s2))→_
 generalize upd H2 s2.heap.objs.size (.lst [])=Hd
 generalize s2.heap.objs.size=D
 generalize laidL s2=start
 generalize blkEnv X scope start=ce
 generalize blkFirst scope start=first
 intro turn w0 O gG gT gE gI1 gG1 gT1
 refine(fun loop=>codeAny_compStart_list loop (T.self X.A 0 _ _ _ O.st loop)) ?_
 refine compLoop2_out (hs1 ce) (fun n now=>∃i H',(Inv (X.blk start Hd scope ce fp) [] (wipe z (own.map (·.2))) H' now∧tn i now.heap∧∀b∈fp,H' b=none)∧W i n H') (fun n s5=>?_) m0 ⟨0,Hd,⟨O.ins,O.st,O.clear⟩,w0⟩
 rintro⟨i,H5,⟨I5,st5,n5⟩,w5⟩
 rcases turn i n H5 w5 with⟨stop,qq⟩ | ⟨go,Nx,hNx,step⟩
 ·refine thnF (T.done (X.blk start Hd scope ce fp) rfl rfl rfl O.cool i [] s5 _ H5 (fun _ _=>False) I5 (O.foot I5 n5) st5 stop) ?_
  rintro _ s6 ⟨rfl,I6⟩
  obtain⟨I7,⟨m,hn⟩,fC⟩:=O.back I6
  exact out D start.heap.objs.size s6 m H5 I7 qq hn fC
 ·refine thnF (T.item (X.blk start Hd scope ce fp) rfl rfl rfl O.cool i [] s5 _ H5 (fun _ _=>False) I5 (O.foot I5 n5) st5 go) ?_
  rintro _ s6 ⟨u,rfl,h6⟩
  refine thnF h6 fun _ s7 ⟨x,H7,I7,r7,y7,st7,n7⟩=>?_
  refine thnF (gG.run _ s7 _ H7 x u _ (I7.pinned (O.foot I7 n7) (T.obj _ _ st7)) r7 (step x H7 y7)) fun _ s8 ⟨z8,H8,I8,same,q8⟩=>?_
  have fin:∀{t:L2.St} {s':Shared} {H':Hp},Inv (X.blk start Hd scope ce fp) ([]++pinsAt fp s7.heap) t H' s'→((wipe z (own.map (·.2))).length=t.length∧∀(j:Nat) v,(wipe z (own.map (·.2)))[j]?=some (some v)→t[j]?=some (some v))→Nx H'→
    ∃m,m<n∧∃i H',(Inv (X.blk start Hd scope ce fp) [] (wipe z (own.map (·.2))) H' s'∧tn i s'.heap∧∀b∈fp,H' b=none)∧W i m H':=fun {t s' H'} I' k nx=>
   have ⟨m',less,w'⟩:=hNx H' nx
   ⟨m',less,i+1,H',Turn.next (X:=X.blk start Hd scope ce fp) T st7 I' k.1 k.2,w'⟩
  refine thnF (gT.run _ s8 z8 H8 _ I8 q8) fun b s9 ⟨H9,I9,q9⟩=>?_
  cases b with
  | false=>rw[if_neg Bool.false_ne_true] at q9⊢;exact fin I9 (wiped same) q9
  | true=>
   rw[if_pos rfl] at q9⊢
   refine thnF (gI1.run _ s9 z8 H9 _ I9 q9) fun _ s10 h10=>thnF h10 ?_
   rintro _ s11 ⟨it1,fp1,tn1,J1,H11,rfl,I11,T1,st11,f11,W1,⟨m1,w1⟩,turn1⟩
   have inner:codeAny (model X.prog X.w) X.A (.compLoop (.ListComp elt [⟨tg,iter,ifs,0⟩,⟨tg1,iter1,ifs1,0⟩] scope pos) 1 (.ref it1) (.ref D) ce)
     (fun r s'=>match r with
      | .ok _=>∃m,m<n∧∃i H',(Inv (X.blk start Hd scope ce fp) [] (wipe z (own.map (·.2))) H' s'∧tn i s'.heap∧∀b∈fp,H' b=none)∧W i m H'
      | .error _=>False) s11:=by
    refine compLoop2_in (fun k now=>∃j H',(Inv (X.blk start Hd scope ce fp) ([]++pinsAt fp s7.heap) (wipe z8 vs1) H' now∧tn1 j now.heap∧∀b∈fp1,H' b=none)∧W1 j k H') (fun k s12=>?_) m1
     ⟨0,H11,⟨I11.weak (wipe_length _ _) (fun j v e=>(wipe_some e).1),st11,fun b hb=>(f11 b hb).1⟩,w1⟩
    rintro⟨j,H12,⟨I12,st12,n12⟩,w12⟩
    rcases turn1 j k H12 w12 with⟨stop1,nx1⟩ | ⟨go1,Nx1,hNx1,step1⟩
    ·refine thnF (T1.done (X.blk start Hd scope ce fp) rfl rfl rfl O.cool j _ s12 (wipe z8 vs1) H12 (fun _ _=>False) I12 (fp_at f11 n12) st12 stop1) ?_
     rintro _ s13 ⟨rfl,I13⟩
     refine fin I13 ⟨(wiped same).1.trans (wipe_length z8 vs1).symm,fun j v e=>?_⟩ nx1
     have e':=e
     rw[←same] at e'
     rw[wipe_out fun m=>(wipe_some e').2 (hv j m)]
     exact(wipe_some e').1
    ·refine thnF (T1.item (X.blk start Hd scope ce fp) rfl rfl rfl O.cool j _ s12 (wipe z8 vs1) H12 (fun _ _=>False) I12 (fp_at f11 n12) st12 go1) ?_
     rintro _ s13 ⟨u1,rfl,h13⟩
     refine thnF h13 fun _ s14 ⟨x1,H14,I14,r14,y14,st14,n14⟩=>?_
     refine thnF (gG1.run _ s14 (wipe z8 vs1) H14 x1 u1 _ (I14.pinned (fp_at f11 n14) (T1.obj _ _ st14)) r14 (step1 x1 H14 y14)) fun _ s15 ⟨z15,H15,I15,same1,q15⟩=>?_
     have fin1:∀{s':Shared} {H':Hp},Inv (X.blk start Hd scope ce fp) (([]++pinsAt fp s7.heap)++pinsAt fp1 s14.heap) z15 H' s'→Nx1 H'→
       ∃m,m<k∧∃j H',(Inv (X.blk start Hd scope ce fp) ([]++pinsAt fp s7.heap) (wipe z8 vs1) H' s'∧tn1 j s'.heap∧∀b∈fp1,H' b=none)∧W1 j m H':=fun {s' H'} I' nx=>
      have ⟨m',less,w'⟩:=hNx1 H' nx
      ⟨m',less,j+1,H',Turn.next (X:=X.blk start Hd scope ce fp) T1 st14 I' (wiped same1).1 (wiped same1).2,w'⟩
     refine thnF (gT1.run _ s15 z15 H15 _ I15 q15) fun b1 s16 ⟨H16,I16,q16⟩=>?_
     cases b1 with
     | false=>rw[if_neg Bool.false_ne_true] at q16⊢;exact fin1 I16 q16
     | true=>
      rw[if_pos rfl] at q16⊢
      refine thnF (gE.run _ s16 z15 H16 _ I16 q16) fun v s17 ⟨y,H17,I17,r17,acc,hD,hz,nx⟩=>?_
      exact app_ok (X:=X.blk start Hd scope ce fp) I17 hD hz r17 fun s18 I18=>fin1 I18 nx
   exact compStart1_ok inner (T1.self X.A 0 _ _ _ st11 inner)
theorem ps_setLc2 (c:Cool X) (nd:X.N.Nodup) (hy:X.N[i]?=some y) (hyl:X.env.scope.names.lookup y=some .local) (hsw:swapsWith (.ListComp elt [⟨tg,iter,ifs,0⟩,⟨tg1,iter1,ifs1,0⟩] scope pos) (some (.Name y py)) spos.line X.env=pure true)
  (hi:PI X tg iter wi) (ok:BlkOk X.N X.env.scope scope own) (hv:∀i∈vs1,i∈own.map (·.2)) (hg:InBlk X scope fun Y=>PG Y tg g) (ht:InBlk X scope fun Y=>PTs Y ifs tt)
  (hi1:InBlk X scope fun Y=>PI Y tg1 iter1 wi1) (hg1:InBlk X scope fun Y=>PG Y tg1 g1) (ht1:InBlk X scope fun Y=>PTs Y ifs1 tt1) (he:InBlk X scope fun Y=>PE Y elt te) (hs:∀x,foldedSetIterable iter X.env x=pure x:=by intro _;rfl) (hs1:∀env x,foldedSetIterable iter1 env x=pure x:=by intro _ _;rfl) :
  PS X (.Assign [.Name y py] (.ListComp elt [⟨tg,iter,ifs,0⟩,⟨tg1,iter1,ifs1,0⟩] scope pos) spos) (tAsg (tLc2 wi g tt wi1 g1 tt1 te (own.map (·.2)) vs1) (gName i)):=
 ⟨fun pins s z H E I h=>by
  rw[exec_Assign_Name_used _ _ _ _ hsw]
  have h:tLc2 wi g tt wi1 g1 tt1 te (own.map (·.2)) vs1 z H (fun x H1=>gName i x z H1 E.nx):=h
  exact wpAny_bind (wpAny_standAt (wpAny_bind (wpAny_bind (thn (lc2_core (Qf:=fun _ s'=>SP X pins E .next s') c nd I hi ok hv hg ht he hs hi1 hg1 ht1 hs1 h fun D C s' m H' I' q hn f=>out_set nd hy hyl I' q hn f) fun _ s' hq=>wpAny_pure (wpAny_pure hq)))))⟩
end
end
end M3
namespace M3
open PySem PySem.Spec PyProof.Rows L2
abbrev CXH:=Option Value→CXT
def CXq (P:Program) (w:World):CXH:=fun hd outer H s E u s'=>(hd=none∧L2N.CX P w outer H s E u s')∨(hd≠none∧L2.CX P w outer H s E u s')
structure Takes (X:Cx) (W:WX):Prop where
 calm:X.A.handled=none→L2N.Takes X W
 hot:X.A.handled≠none→L2.Takes X W
section
variable {X:Cx} {W W':WX}
theorem Takes.imp (t:Takes X W) (h:∀c d z H,W' c d z H→W c d z H):Takes X W':=⟨fun n=>(t.calm n).imp h,fun n=>(t.hot n).imp h⟩
theorem Takes.call {E:XK} (tk:Takes X W) {z:L2.St} (hW:∀cls d H,E cls d H→W cls d z H):PassesAt (CXq X.prog X.w X.A.handled) X z E:=fun pins H s e s' I c=>by
 rcases c with⟨n,c⟩ | ⟨n,c⟩
 ·exact tk.calm n e s' (L2N.XE.of_call I hW c)
 ·exact tk.hot n e s' (L2.XE.of_call I hW c)
theorem passAt (tk:Takes X W) (z:L2.St):PassesAt (CXq X.prog X.w X.A.handled) X z (WE W z):=tk.call fun _ _ _ h=>h
theorem takes_of {hd:Option Value} {E:XK} (hs:X.stack=X.env :: X.outer) (hf:X.env.frame=some X.env.locals) (hex:X.ex=[]) {E1:Value→Shared→Prop}
  (hx:X.xe=fun e s'=>wpAny (model X.prog X.w) X.A (leaving X.env e) (fun _ s''=>CXq X.prog X.w hd X.outer X.H_0 X.s_0 E e s'') E1 s') (eh:X.A.handled=hd:=by rfl):Takes X (fun cls d _ H=>E cls d H):=by
 refine⟨fun n u s' x=>?_,fun n u s' x=>?_⟩
 ·rw[hx]
  exact wpAny_mono (L2N.XE.leave (W:=fun cls d _ H=>E cls d H) (E:=E) hs hf hex (fun _ _ _ _ h=>h) x) (fun _ _ c=>.inl ⟨eh▸n,c⟩) fun _ _ e=>e
 ·rw[hx]
  exact wpAny_mono (L2.XE.leave (W:=fun cls d _ H=>E cls d H) (E:=E) hs hf hex (fun _ _ _ _ h=>h) x) (fun _ _ c=>.inr ⟨eh▸n,c⟩) fun _ _ e=>e
theorem takes0:Takes X (fun _ _ _ _=>False):=⟨fun _ _ _ x=>by obtain⟨_,_,_,_,_,_,_,_,_,_,_,_,_,_,_,_,z⟩:=x;exact z.elim,fun _ _ _ x=>by obtain⟨_,_,_,_,_,_,_,_,_,_,_,_,_,_,_,_,z⟩:=x;exact z.elim⟩
theorem ps_raise {e:Expr} {t:L2.St→Hp→XK→Prop} {pos:Pos} (c:Cool X) (tk:Takes X W) (he:L2N.PMk X e t):PS X (.Raise (some e) none pos) (fun _ z H=>t z H fun cls d H'=>W cls d z H'):=by
 refine⟨fun pins s z H D I h=>?_⟩
 refine(show wpAny _ _ (do standAt pos;raiseStmt X.env (some (do let v ← eval e X.env;standAt pos;pure v)) none) _ _ _ from wpAny_bind (wpAny_standAt ?_))
 have made:=he pins s z H _ I h
 rcases c with c | ⟨p,⟨hh,v1,e1,c1⟩,hp⟩
 ·refine raise_made c (wpAny_bind (wpAny_mono made (fun u s1 hu=>wpAny_bind (wpAny_standAt (wpAny_pure ?_))) fun _ _ x=>x))
  obtain⟨a,oe,vs,sI,H',cls,d,rfl,J,k,hne,ha,hz,hd,h1,na,os,ag,r,q⟩:=hu
  obtain⟨r1,r2⟩:=r (model X.prog X.w) s1.heap (J.kIn.keeps k)
  exact⟨a,oe,vs,cls,rfl,ha,hz.1,hd,h1,r1,r2,tk.calm c _ _ (L2N.XE.new J k hne ha hz hd h1 na os ag q)⟩
 ·refine HotX.raise_made_hot (x1:=p.1) (wpAny_bind (wpAny_mono made (fun u s1 hu=>wpAny_bind (wpAny_standAt (wpAny_pure ?_))) fun _ _ x=>x))
  obtain⟨a,oe,vs,sI,H',cls,d,rfl,J,k,hne,ha,hz,hd,h1,na,os,ag,r,q⟩:=hu
  obtain⟨r1,r2⟩:=r (model X.prog X.w) s1.heap (J.kIn.keeps k)
  have g:=(now_of J hp).get
  have ne:p.1≠a:=fun y=>by rw[y,hne] at g;cases g
  have lt:2<vs.size:=(Array.getElem?_eq_some_iff.mp (hz.2.2 vs hd)).1
  have first:(vs.setIfInBounds 2 (Value.ref p.1))[1]?=some Value.none:=by
   rw[show (vs.setIfInBounds 2 (Value.ref p.1))[1]?=vs[1]? from by first | exact Array.getElem?_setIfInBounds_ne (by decide) | simp[Array.getElem?_setIfInBounds]]
   exact h1
  have kept:∀b u,sI.heap.get? b=some u→(s1.heap.update a (Obj.mapFields (·.setIfInBounds 2 (.ref p.1)))).get? b=some u:=fun b u y=>by
   rw[Heap.get?_update_other _ _ fun w=>by rw[←w,hne] at y;cases y]
   exact k b u y
  exact⟨a,oe,vs,cls,rfl,ha,hz.1,hd,h1,lt,ne,⟨hh,p.2,v1,k _ _ g,e1,c1⟩,r1,r2,
   tk.hot (by rw[hh];exact fun y=>nomatch y) _ _ (L2.XE.new J kept hne (Heap.get?_update_self _ ha (Obj.isFreed_of_fields (Obj.data_mapFields hd _))) ⟨(Obj.cls_mapFields ..).trans hz.1,(HandSPX.dict_mapFields ..).trans hz.2.1⟩ (Obj.data_mapFields hd _) first na os ag q)⟩
end
def Zq (X:Cx) (cls:Value) (d:Option Addr) (o:Obj):Prop:=Zc cls d o∧(X.A.handled=none→PXN.CtxN o)
theorem Zq.hot {X:Cx} {a:Addr} {o:Obj} {cls:Value} {d:Option Addr} {pn:List (Addr×Obj)} (h:Zq X cls d o) (c:X.A.handled=none) (hf:∃vs,o.data=.fields vs):L2H.HotC (X.suite a ((a,o) :: pn)):=by
 obtain⟨vs,e⟩:=hf
 exact⟨(a,o),⟨rfl,vs,e,h.2 c vs e⟩,List.mem_cons_self⟩
section
variable {X:Cx} {x n:Str} {c:Value} {i:Nat} {body suite:List Stmt} {b0:Stmt} {np pos pos':Pos} {tb:WX→TS} {ts:Addr→Value→Option Addr→TS} {Wout:WX}
inductive HdsOk (X:Cx):List ExceptHandler→List (Value×(Addr→Value→Option Addr→TS))→Prop
 | nil:HdsOk X [] []
 | cons {x:Str} {c:Value} {ts:Addr→Value→Option Addr→TS} {b0:Stmt} {suite:List Stmt} {np pos':Pos} {hds:List ExceptHandler} {l:List (Value×(Addr→Value→Option Addr→TS))} (hc:Names X x c)
   (hsu:∀(a:Addr) (oe:Obj) (cls:Value) (d:Option Addr) (pn:List (Addr×Obj)),Zq X cls d oe→(∃vs,oe.data=.fields vs)→PSs (X.suite a ((a,oe) :: pn)) (b0 :: suite) (ts a cls d)) (r:HdsOk X hds l) :
   HdsOk X (.ExceptHandler (some (.Name x np)) none (b0 :: suite) pos' :: hds) ((c,ts) :: l)
theorem HdsOk.calm {hds:List ExceptHandler} {l:List (Value×(Addr→Value→Option Addr→TS))} (h:HdsOk X hds l):L2N.HdsOk X hds l:=by
 induction h with
 | nil=>exact .nil
 | cons hc hsu _ ih=>exact .cons hc (fun a oe cls d pn hz hv=>hsu a oe cls d pn ⟨hz.zc,fun _=>hz.2.2⟩ hv) ih
theorem HdsOk.hot {hds:List ExceptHandler} {l:List (Value×(Addr→Value→Option Addr→TS))} (n:X.A.handled≠none) (h:HdsOk X hds l):L2.HdsOk X hds l:=by
 induction h with
 | nil=>exact .nil
 | cons hc hsu _ ih=>exact .cons hc (fun a oe cls d pn hz hv=>hsu a oe cls d pn ⟨hz,fun e=>absurd e n⟩ hv) ih
theorem ps_try_many {h0:ExceptHandler} {hds:List ExceptHandler} {l:List (Value×(Addr→Value→Option Addr→TS))} (hs:X.stack=X.env :: X.outer) (hf:X.env.frame=some X.env.locals) (tk:Takes X Wout)
  (hb:∀(W:WX) (pn:List (Addr×Obj)) (xe:Value→Shared→Prop),Takes (X.tr pn xe) W→PassesOwn (model X.prog X.w) X.A X.env xe→PSs (X.tr pn xe) body (tb W))
  (hh:HdsOk X (h0 :: hds) l):PS X (.Try body (h0 :: hds) [] [] pos) (fun D z H=>tb (wMany X.K Wout D l) D z H):=by
 by_cases h:X.A.handled=none
 ·exact L2N.ps_try_many hs hf (tk.calm h) (fun W pn xe t o=>hb W pn xe ⟨fun _=>t,fun n=>absurd h n⟩ o) hh.calm
 ·exact L2.ps_try_many hs hf (tk.hot h) (fun W pn xe t o=>hb W pn xe ⟨fun n=>absurd n h,fun _=>t⟩ o) (hh.hot h)
theorem ps_try_only (hs:X.stack=X.env :: X.outer) (hf:X.env.frame=some X.env.locals) (hc:Names X x c) (tk:Takes X Wout)
  (hb:∀(W:WX) (pn:List (Addr×Obj)) (xe:Value→Shared→Prop),Takes (X.tr pn xe) W→PassesOwn (model X.prog X.w) X.A X.env xe→PSs (X.tr pn xe) body (tb W))
  (hsu:∀(a:Addr) (oe:Obj) (cls:Value) (d:Option Addr) (pn:List (Addr×Obj)),Zq X cls d oe→(∃vs,oe.data=.fields vs)→PSs (X.suite a ((a,oe) :: pn)) (b0 :: suite) (ts a cls d)) :
  PS X (.Try body [.ExceptHandler (some (.Name x np)) none (b0 :: suite) pos'] [] [] pos) (fun D z H=>tb (wOnly X.K c ts Wout D) D z H):=
 ps_try_many (l:=[(c,ts)]) hs hf tk hb (.cons hc hsu .nil)
end
end M3
namespace M3
open PySem PySem.Spec PyProof.Rows L2
structure RoomS (k:Nat) (A:Around) (s0:Shared) (H0:Hp) (fs ex:List Addr):Prop where
 dp:A.depth+3 * k+5<recursionLimit
 un:A.units+16 * k+200<cLine
 cools:CoolS A s0 H0 fs ex
abbrev Room (k:Nat) (X:Cx):Prop:=RoomS k X.A X.s_0 X.H_0 X.fs X.ex
def HotO (A:Around) (outer:List Env) (H:Hp) (s:Shared):Prop:=A.handled=none∨∃p,L2H.Hot1 A p∧L2H.PinOk outer H s p
structure RoomC (k:Nat) (A:Around) (outer:List Env) (H:Hp) (s:Shared):Prop where
 dp:A.depth+3 * k+5<recursionLimit
 un:A.units+16 * k+200<cLine
 hot:HotO A outer H s
section
variable {j k:Nat} {A:Around} {outer:List Env} {H:Hp} {s:Shared} {X:Cx} {pins:List (Addr×Obj)} {z:L2.St}
theorem RoomS.mono {A:Around} {s0:Shared} {H0:Hp} {fs ex:List Addr} (r:RoomS k A s0 H0 fs ex) (h:j≤k):RoomS j A s0 H0 fs ex:=⟨by have:=r.dp;omega,by have:=r.un;omega,r.cools⟩
theorem RoomS.cool (r:Room k X):Cool X:=r.cools.cool
theorem RoomS.depth {A:Around} {s0:Shared} {H0:Hp} {fs ex:List Addr} (r:RoomS k A s0 H0 fs ex):A.depth<recursionLimit:=by have:=r.dp;omega
theorem RoomS.blk {A:Around} {s0 s1:Shared} {H0 H1:Hp} {fs ex fs1 ex1:List Addr} (r:RoomS k A s0 H0 fs ex) (c:CoolS A s1 H1 fs1 ex1):RoomS k A s1 H1 fs1 ex1:=⟨r.dp,r.un,c⟩
theorem RoomC.mono (r:RoomC k A outer H s) (h:j≤k):RoomC j A outer H s:=⟨by have:=r.dp;omega,by have:=r.un;omega,r.hot⟩
theorem RoomC.depth (r:RoomC k A outer H s):A.depth<recursionLimit:=by have:=r.dp;omega
theorem RoomC.of (r:L2.Room k A):RoomC k A outer H s:=⟨r.dp,r.un,.inl r.hd⟩
theorem RoomS.call (r:Room k X) (I:Inv X pins z H s):RoomC k X.A X.stack H s:=by
 refine⟨r.dp,r.un,?_⟩
 rcases r.cool with c | ⟨p,h1,h⟩
 ·exact .inl c
 ·have n:=now_of I h
  exact .inr ⟨p,h1,n.get,n.free,n.nofr,n.nocell⟩
theorem RoomC.in1 (r:RoomC (k+1) A outer H s):RoomC k A.in1 outer H s:=⟨by have:=r.dp;show A.depth+3 * k+5<_;omega,by have:=r.un;show A.units+1+16 * k+200<_;omega,r.hot⟩
theorem handled_make {C:Addr} {us:List Value} {kw:List (Str×Value)}:(A.under (.builtin "type.__call__" ⟨.ref C :: us,kw⟩)).handled=A.handled:=by
 first | rfl | simp[Around.under]
theorem RoomC.make (r:RoomC (k+1) A outer H s) (C:Addr) (us:List Value) (kw:List (Str×Value)):RoomC k (A.under (.builtin "type.__call__" ⟨.ref C :: us,kw⟩)) outer H s:=by
 refine⟨by have:=r.dp;rw[make_depth];omega,by have:=r.un;rw[make_units];omega,?_⟩
 rcases r.hot with c | ⟨p,⟨h1,h2⟩,h3⟩
 ·exact .inl (handled_make.trans c)
 ·exact .inr ⟨p,⟨handled_make.trans h1,h2⟩,h3⟩
theorem RoomC.tok (r:RoomC k A outer H s) (t:Nat):RoomC k A outer H { s with toks:=t }:=⟨r.dp,r.un,r.hot.imp id fun ⟨p,h,q⟩=>⟨p,h,q.get,q.free,q.nofs,q.nocell⟩⟩
end
structure FnOk (P:Program) (w:World) (K:PySem.W.Frag) (mg:Str→Option Value) (base:Heap) (CX:CXH) (k:Nat) (f:Addr) (fd:FuncData) (ps:List Str) (sp:Sp):Prop where
 len:∀vs H Q E,sp vs H Q E→vs.length=ps.length
 run:∀(A:Around) (outer:List Env) (s:Shared) (H:Hp) (args:Args) (us:List Value) (vs:List V) (Q:VK) (E:XK),RoomC k A outer H s→Env0 P w K mg base A outer s H→BindsTo s fd args (ps.zip us)→Vals vs us→sp vs H Q E→
  codeAny (model P w) A (.call (.ref f) args) (CR (CX A.handled) outer P w H s Q E) s
section
variable {P:Program} {w:World} {K:PySem.W.Frag} {mg:Str→Option Value} {base:Heap} {CX:CXH} {j k:Nat} {f:Addr} {fd:FuncData} {ps:List Str} {sp sp':Sp}
theorem FnOk.mono (F:FnOk P w K mg base CX j f fd ps sp) (h:j≤k):FnOk P w K mg base CX k f fd ps sp:=⟨F.len,fun A outer s H args us vs Q E hr=>F.run A outer s H args us vs Q E (hr.mono h)⟩
theorem FnOk.imp (F:FnOk P w K mg base CX k f fd ps sp) (h:∀vs H Q E,sp' vs H Q E→sp vs H Q E):FnOk P w K mg base CX k f fd ps sp':=
 ⟨fun vs H Q E q=>F.len vs H Q E (h _ _ _ _ q),fun A outer s H args us vs Q E hr e b r q=>F.run A outer s H args us vs Q E hr e b r (h _ _ _ _ q)⟩
theorem FnOk.calm (F:FnOk P w K mg base CX k f fd ps sp):L2.FnOk P w K mg base (CX none) k f fd ps sp:=⟨F.len,fun A outer s H args us vs Q E hr e b r q=>by
 have h:=F.run A outer s H args us vs Q E (.of hr) e b r q
 rw[hr.hd] at h
 exact h⟩
theorem CXq.zc {hd:Option Value} {outer:List Env} {H:Hp} {s:Shared} {E:XK} {u:Value} {s':Shared} (c:CXq P w hd outer H s E u s'):L2.CX P w outer H s E u s':=by
 rcases c with⟨_,a,B,H',cls,d,e,⟨f1,f2,f3,oe,vs,T,oT,ts,g,z,r⟩,q⟩ | ⟨_,c⟩
 ·exact⟨a,B,H',cls,d,e,⟨f1,f2,f3,oe,vs,T,oT,ts,g,L2N.Zn.zc z,r⟩,q⟩
 ·exact c
end
abbrev Cx.low (X:Cx):Cx:={ X with calm:=false,pn:=[] }
def cxOf (CX:CXH) (P:Program) (w:World) (K:PySem.W.Frag) (mg:Str→Option Value) (base:Heap) (N:List Str) (qual:Str) (scope:Scope) (f:Addr) (cd:Value) (A:Around) (outer:List Env) (s:Shared) (H:Hp) (E:XK):Cx:=
 { L2.cxOf (CX A.handled) P w K mg base N qual scope f cd A outer s H E with calm:=false }
theorem inv_low {X:Cx} {pins:List (Addr×Obj)} {z:L2.St} {H:Hp} {s:Shared} (I:Inv X pins z H s):Inv (Cx.low X) pins z H s:=
 ⟨⟨I.ok.mod,I.ok.kind,I.ok.glob,I.ok.blt,I.ok.above,I.ok.inj,I.ok.has,I.ok.cab,(fun e=>by cases e),I.ok.frames,I.ok.stk,I.ok.exf,I.ok.bs,I.ok.bsz,I.ok.noex,I.ok.exfs,I.ok.funs,I.ok.frf⟩,
  I.os,I.bare,I.base,I.loc,I.cell,I.free,I.freeC,fun p hp=>I.pin p (List.mem_append_right _ hp),I.hok,I.len⟩
section
variable {CX:CXH} {P:Program} {w:World} {K:PySem.W.Frag} {mg:Str→Option Value} {base:Heap} {N ps:List Str} {qual:Str} {scope:Scope} {f:Addr} {cd:Value} {A:Around} {outer:List Env} {s s1:Shared} {H:Hp} {E:XK} {us:List Value} {vs:List V}
theorem inv_start (S:FnScope N ps scope) (hd:HotO A outer H s) (e0:Env0 P w K mg base A outer s H) (hl:vs.length=ps.length) (r:Vals vs us)
  (x:InCallC s s.heap.objs.size (bindL (envOfC qual scope s.heap.objs.size f cd).kindOf (ps.zip us) fun _=>none) (cellsFrom (s.heap.objs.size+1) scope.names []) (bindC (envOfC qual scope s.heap.objs.size f cd).kindOf (ps.zip us) fun _=>none) s1) :
  Inv (cxOf CX P w K mg base N qual scope f cd A outer s H E) [] (L2.start N vs) H s1:=by
 rcases hd with c | ⟨p,_,hp⟩
 ·exact inv_low (L2.inv_start (CX:=CX A.handled) (E:=E) S c e0 hl r x)
 ·exact inv_low (X:=L2H.cxH (CX A.handled) P w K mg base N qual scope f cd A outer s H E p) (L2H.inv_startH S hp e0 hl r x)
theorem HotO.cools (hd:HotO A outer H s):CoolS A s H (frs outer) []:=hd.imp id fun ⟨p,h,hp⟩=>⟨p,h,hp.get,hp.free,hp.nofs,by simp,hp.nocell⟩
theorem RoomC.inside {k:Nat} (r:RoomC (k+1) A outer H s):Room k (cxOf CX P w K mg base N qual scope f cd A outer s H E):=
 ⟨by have:=r.dp;show A.depth+1+3 * k+5<_;omega,by have:=r.un;show A.units+3+16 * k+200<_;omega,r.hot.cools⟩
end
theorem body_end {CX:CXT} {X:Cx} {outer:List Env} {s s0:Shared} {H:Hp} {Q:VK} {E:XK} {body:List Stmt} {t:TS} {z:L2.St} (ht:PSs X body t) (I:Inv X [] z X.H_0 s) (e1:frs outer=X.fs) (e2:X.ex=[]) (os:X.s_0.os=s0.os) (un:Un (frs outer) [] H X.H_0 s0.heap X.s_0.heap)
  (q:t { nx:=fun _ H'=>Q .non H',rt:=Q } z X.H_0) (hx:∀e s',X.xe e s'→wpAny (model X.prog X.w) X.A (leaving X.env e) (fun _ s''=>CX outer H s0 E e s'') (fun e' s''=>CX outer H s0 E e' s'') s') :
  wpAny (model X.prog X.w) X.A (execs body X.env) (fun fl s'=>CR CX outer X.prog X.w H s0 Q E (.ok (.ret (match fl with | .ret u=>u | _=>.none))) s') (fun e s'=>wpAny (model X.prog X.w) X.A (leaving X.env e) (fun _ s''=>CX outer H s0 E e s'') (fun e' s''=>CX outer H s0 E e' s'') s') s:=by
 have fin:∀{z':L2.St} {H':Hp} {v:V} {u:Value} {s':Shared},Inv X [] z' H' s'→RelV v u→Q v H'→CE outer X.prog X.w H s0 Q u s':=fun {z' H' v u s'} J rv y=>⟨v,H',J.os.trans os,J.bare,un.trans (by have b:=J.base;rw[e2,←e1] at b;exact b),J.hok,rv,y⟩
 refine wpAny_mono (ht.run [] s z X.H_0 _ I q) (fun fl s' hs=>?_) fun e s' hs=>hx e s' hs
 cases fl with
 | ret u=>obtain⟨v,z',H',J,rv,y⟩:=hs;exact fin J rv y
 | next=>obtain⟨z',H',J,y⟩:=hs;exact fin (v:=V.non) (u:=Value.none) J rfl y
 | brk=>obtain⟨_,_,_,y⟩:=hs;exact y.elim
 | cont=>obtain⟨_,_,_,y⟩:=hs;exact y.elim
end M3
namespace M3
open PySem PySem.Spec PyProof.Rows L2
section
variable {CX:CXH} {P:Program} {w:World} {K:PySem.W.Frag} {mg:Str→Option Value} {base:Heap} {k:Nat} {f:Addr} {name qual:Str} {params:Arguments} {body:List Stmt} {scope:Scope} {dV kV doc pm cdv ct oc:Value} {an od:Option Addr}
 {osl:Array (Option Value)} {N ps:List Str} {sp:Sp}
theorem fn_of (lk:K.lookup f=some ⟨oc,od,.func (PySem.W.fnOf name qual params body scope dV kV doc pm an cdv ct),osl⟩) (hcd:PySem.W.codeIn K cdv qual=true) (S:FnScope N ps scope) (len:∀vs H Q E,sp vs H Q E→vs.length=ps.length)
  (hbody:∀(A:Around) (outer:List Env) (s:Shared) (H:Hp) (vs:List V) (Q:VK) (E:XK),Room k (cxOf CX P w K mg base N qual scope f cdv A outer s H E)→sp vs H Q E→
   ∃t,PSs (cxOf CX P w K mg base N qual scope f cdv A outer s H E) body t∧t { nx:=fun _ H'=>Q .non H',rt:=Q } (L2.start N vs) H) :
  FnOk P w K mg base CX (k+1) f (PySem.W.fnOf name qual params body scope dV kV doc pm an cdv ct) ps sp:=by
 refine⟨len,fun A outer s H args us vs Q E hr e0 hb r hsp=>?_⟩
 have KX:K.In s.heap:=e0.mod.kin.keeps fun b o e=>(e0.bs b o e).1
 have slots:∀y∈ps.zip us,scope.names.lookup y.1=some .local∨(scope.names.lookup y.1=some .cell∧((cellsFrom (s.heap.objs.size+1) scope.names []).lookup y.1).isSome=true):=fun y hy=>
  (S.par y.1 (List.of_mem_zip hy).1).imp id fun q=>⟨q,PySem.W.cellsFrom_some _ _ _ (.inl q)⟩
 refine codeAny_call_function hr.depth (KX _ _ lk) rfl S.co S.gen rfl (PySem.W.codeRec_of KX hcd) (hb _ _ _ _ (wpAny_newFunctionEnv_cells S.kind slots ?_))
 rintro env rfl s1 x
 refine⟨(e0.mod.nolimit.keeps fun b o e=>(e0.bs b o e).1).keeps x.toInCall.keep,codeAny_func ?_⟩
 obtain⟨t,ht,q⟩:=hbody A outer s H vs Q E hr.inside hsp
 exact body_end (CX:=CX A.handled) (X:=cxOf CX P w K mg base N qual scope f cdv A outer s H E) (s0:=s) ht (inv_start S hr.hot e0 (len _ _ _ _ hsp) r x) rfl rfl rfl (Un.kept fun _ _ e=>e) q fun e s' h=>h
theorem okX {P:Program} {w:World} {K:PySem.W.Frag} {mg:Str→Option Value} {base:Heap} {x qual:Str} {st:Stmt} {f:Addr} {fd:FuncData} {N ps:List Str} {k:Nat} {sp:Sp} (F:Fun K x qual st f fd) (S:FnScope N ps (defScope st)) (len:∀vs H Q E,sp vs H Q E→vs.length=ps.length)
  (hbody:∀(cdv:Value) (A:Around) (outer:List Env) (s:Shared) (H:Hp) (vs:List V) (Q:VK) (E:XK),Room k (cxOf (CXq P w) P w K mg base N qual (defScope st) f cdv A outer s H E)→sp vs H Q E→
   ∃t,PSs (cxOf (CXq P w) P w K mg base N qual (defScope st) f cdv A outer s H E) (defBody st) t∧t { nx:=fun _ H'=>Q .non H',rt:=Q } (L2.start N vs) H):FnOk P w K mg base (CXq P w) (k+1) f fd ps sp:=by
 obtain⟨oc,od,kV,doc,pm,an,cdv,ct,osl,rfl,lk,hcd⟩:=F.ex
 exact fn_of lk hcd S len (hbody cdv)
end
def FnR (P:Program) (w:World) (K:PySem.W.Frag) (mg:Str→Option Value) (base:Heap) (CX:CXH) (k:Nat) (f:Addr) (sp:Sp):Prop:=
 ∀(A:Around) (outer:List Env) (s:Shared) (H:Hp) (us:List Value) (vs:List V) (Q:VK) (E:XK),RoomC k A outer H s→Env0 P w K mg base A outer s H→Vals vs us→sp vs H Q E→codeAny (model P w) A (.call (.ref f) ⟨us,[]⟩) (CR (CX A.handled) outer P w H s Q E) s
section
variable {P:Program} {w:World} {K:PySem.W.Frag} {mg:Str→Option Value} {base:Heap} {CX:CXH} {j k:Nat} {f:Addr} {sp sp':Sp}
theorem FnR.mono (F:FnR P w K mg base CX j f sp) (h:j≤k):FnR P w K mg base CX k f sp:=fun A outer s H us vs Q E hr=>F A outer s H us vs Q E (hr.mono h)
theorem FnR.imp (F:FnR P w K mg base CX k f sp) (h:∀vs H Q E,sp' vs H Q E→sp vs H Q E):FnR P w K mg base CX k f sp':=fun A outer s H us vs Q E hr e r q=>F A outer s H us vs Q E hr e r (h _ _ _ _ q)
end
section
variable {X:Cx} {CX:CXH} {k:Nat} {f C:Addr} {fd:FuncData} {ps:List Str} {sp:Sp} {dvs:List V} {ds:List Value} {x m:Str} {p pos apos:Pos} {e o:Expr} {es:List Expr} {ta:TE} {t:TA} {pins:List (Addr×Obj)} {z:L2.St} {H:Hp} {s:Shared} {Q:VK} {us:List Value} {vs:List V}
theorem came_call {CX:CXT} {Ez:XK} {a:Value} (hx:PassesAt CX X z Ez) (I:Inv X pins z H s) (h:codeAny (model X.prog X.w) X.A (.call a ⟨us,[]⟩) (CR CX X.stack X.prog X.w H s Q Ez) s):wpAny (model X.prog X.w) X.A (call a us) (EP X pins z Q) X.xe s:=by
 refine wpAny_call (codeAny_mono h fun r s' hq=>?_)
 match r,hq with
 | .error e,h=>exact hx pins H s e s' I h
 | .ok (.ret u),h=>exact I.after h
 | .ok .next,h=>exact h.elim
 | .ok .brk,h=>exact h.elim
 | .ok .cont,h=>exact h.elim
theorem run_fnSD {E:L2.St→XK} (F:FnOk X.prog X.w X.K X.mg X.base CX k f fd ps sp) (hr:Room k X) (hb:Binds X.K fd ps ds) (hd:Vals dvs ds) (hx:PassesAt (CX X.A.handled) X z (E z)) (I:Inv X pins z H s) (r:Vals vs us) (h:sp (vs++dvs) H Q (E z)) :
  wpAny (model X.prog X.w) X.A (call (.ref f) us) (EP X pins z Q) X.xe s:=by
 have r2:=r.append hd
 exact came_call hx I (F.run X.A X.stack s H ⟨us,[]⟩ (us++ds) (vs++dvs) Q (E z) (hr.call I) I.env0 (hb s us I.kIn (by rw[←r2.length];exact F.len _ _ _ _ h)) r2 h)
theorem run_fnS {E:L2.St→XK} (F:FnOk X.prog X.w X.K X.mg X.base CX k f fd ps sp) (hr:Room k X) (hb:Binds X.K fd ps []) (hx:PassesAt (CX X.A.handled) X z (E z)) (I:Inv X pins z H s) (r:Vals vs us) (h:sp vs H Q (E z)) :
  wpAny (model X.prog X.w) X.A (call (.ref f) us) (EP X pins z Q) X.xe s:=run_fnSD (dvs:=[]) F hr hb .nil hx I r (by rw[List.append_nil];exact h)
variable {E:L2.St→XK}
theorem pe_callS (F:FnOk X.prog X.w X.K X.mg X.base CX k f fd ps sp) (hr:Room k X) (hg:Gl X x) (hm:X.mg x=some (.ref f)) (hk:PySem.W.keepIn X.K (.ref f)=true) (hb:Binds X.K fd ps []) (hx:∀z,PassesAt (CX X.A.handled) X z (E z))
  (ha:PA X (e :: es) t) (hdb:(x == ("__debug__" : Str))=false:=by decide) (he:starEach (e :: es) X.env=(false,eval e X.env) :: starEach es X.env:=by rfl) (hpl:(backTo pos (starEach es X.env)).any (·.1)=false:=by rfl):PE X (.Call (.Name x p) (e :: es) [] pos) (tCallS sp E t):=
 ⟨fun pins s z H Q I h=>wpAny_Call_Name_kw (ld_glob I hg hm (PySem.W.callWith_K (h₀:=X.base) I.ok.mod.kin hk (thn (ha.run pos pins s z H _ I h) fun us s1 ⟨vs,H1,I1,r,q⟩=>⟨I1.kIn,run_fnS F hr hb (hx z) I1 r q⟩) he hpl) hdb)⟩
end
end M3
namespace M3
open PySem PySem.Spec PyProof.Rows L2
section
variable {prog:Program} {w:World} {A:Around}
theorem hotAt_keep {x:Addr} {h h':Heap} (c:HotX.HotAt A x h) (k:∀o,h.get? x=some o→h'.get? x=some o):HotX.HotAt A x h':=let ⟨a,o,vs,g,r⟩:=c;⟨a,o,vs,k o g,r⟩
theorem walks_cool {I:Addr} {fp wr:List Addr} {n:Nat} {P:Nat→Value→Prop} {St:Nat→Heap→Prop} {h0:Heap} (c:CoolBut A h0 I) (hw:∀b∈wr,b=I) (st0:St 0 h0) (sub:∀b∈wr,b∈fp)
  (frame:∀i h h',St i h→(∀b∈fp,∀o,h.get? b=some o→h'.get? b=some o)→St i h')
  (item:∀i (s:Shared) (Q:Option Value→Shared→Prop) (E:Value→Shared→Prop),i<n→St i s.heap→(∀v h' tk,P i v→St (i+1) h'→(∀b o,b∉wr→s.heap.get? b=some o→h'.get? b=some o)→Q (some v) { s with heap:=h',toks:=tk })→wpAny (model prog w) A (pyNext (.ref I)) Q E s)
  (done:∀(s:Shared) (Q:Option Value→Shared→Prop) (E:Value→Shared→Prop),CoolBut A s.heap I→St n s.heap→(∀h' tk,(∀b o,b∉wr→s.heap.get? b=some o→h'.get? b=some o)→Q none { s with heap:=h',toks:=tk })→wpAny (model prog w) A (pyNext (.ref I)) Q E s)
  (self:∀i (s:Shared) (Q:Value→Shared→Prop) (E:Value→Shared→Prop),St i s.heap→Q (.ref I) s→wpAny (model prog w) A (pyIter (.ref I)) Q E s) :
  ∃fp' St',Walks prog w A I fp' wr n P St'∧St' 0 h0∧∀b∈fp',b∈fp∨∃o,h0.get? b=some o:=by
 rcases c with c | ⟨x,ne,c⟩
 ·exact⟨fp,St,⟨sub,frame,item,fun s Q E=>done s Q E (.inl c),self⟩,st0,fun b hb=>.inl hb⟩
 ·refine⟨x :: fp,fun i h=>St i h∧HotX.HotAt A x h,⟨fun b hb=>List.mem_cons_of_mem _ (sub b hb),fun i h h' st k=>⟨frame i h h' st.1 fun b hb=>k b (List.mem_cons_of_mem _ hb),hotAt_keep st.2 (k x List.mem_cons_self)⟩,fun i s Q E hi st q=>?_,fun s Q E st=>done s Q E (.inr ⟨x,ne,st.2⟩) st.1,fun i s Q E st=>self i s Q E st.1⟩,⟨st0,c⟩,fun b hb=>?_⟩
  ·exact item i s Q E hi st.1 fun v h' tk p st' k=>q v h' tk p ⟨st',hotAt_keep st.2 fun o e=>k x o (fun m=>ne (hw x m)) e⟩ k
  ·rcases List.mem_cons.mp hb with rfl | hb
   ·obtain⟨_,o,_,g,_⟩:=c
    exact .inr ⟨o,g⟩
   ·exact .inl hb
theorem walks_list {h0:Heap} {I ax:Addr} {items:Array Value} (c:CoolBut A h0 I) (ne:ax≠I) (st:h0.IsListIter I ax 0∧h0.IsList ax items):∃fp St,Walks prog w A I fp [I] items.size (fun i v=>items[i]?=some v) St∧St 0 h0∧∀b∈fp,∃o,h0.get? b=some o:=by
 obtain⟨fp,St,W,s0,f⟩:=walks_cool (prog:=prog) (w:=w) (fp:=[I,ax]) (wr:=[I]) (n:=items.size) (P:=fun i v=>items[i]?=some v) (St:=fun i h=>h.IsListIter I ax i∧h.IsList ax items) c (fun b hb=>List.mem_singleton.mp hb) st
  (fun b hb=>by rw[List.mem_singleton.mp hb];exact List.mem_cons_self) (fun i h h' st k=>⟨st.1.at fun o e=>k I List.mem_cons_self o e,st.2.at fun o e=>k ax (List.mem_cons_of_mem _ List.mem_cons_self) o e⟩)
  (fun i s Q E hi st q=>wpAny_pyNext_list_item st.1 st.2 (x:=items[i]) (by simp[hi]) fun h' it' sb=>q _ h' s.toks (by simp[hi]) ⟨it',st.2.extBut sb.extBut ne⟩ fun b o hb e=>sb.extBut b o (fun z=>hb (List.mem_singleton.mpr z)) e)
  (fun s Q E c st q=>listStop c st.1 st.2 (by simp) fun h' k=>q h' s.toks fun b o hb e=>k b o (fun z=>hb (List.mem_singleton.mpr z)) e) (fun i s Q E st q=>wpAny_pyIter_listiter st.1 q)
 refine⟨fp,St,W,s0,fun b hb=>?_⟩
 rcases f b hb with hb | h
 ·rcases List.mem_cons.mp hb with rfl | hb
  ·exact let ⟨o,e,_⟩:=st.1;⟨o,e⟩
  ·rw[List.mem_singleton.mp hb]
   exact let ⟨o,e,_⟩:=st.2;⟨o,e⟩
 ·exact h
end
theorem CoolAt.fresh {A:Around} {h h':Heap} (c:CoolAt A h) (k:∀b o,h.get? b=some o→h'.get? b=some o):CoolBut A h' h.objs.size:=c.imp id fun ⟨x,hc⟩=>⟨x,let ⟨_,o,_,g,_⟩:=hc;Nat.ne_of_lt (Heap.lt_size g),hotAt_keep hc (k x)⟩
def CoolBut2 (A:Around) (h:Heap) (I S:Addr):Prop:=A.handled=none∨∃x,(x≠I∧x≠S)∧HotX.HotAt A x h
section
variable {A A':Around} {h h':Heap} {I S:Addr}
theorem CoolBut2.but (c:CoolBut2 A h I S):CoolBut A h I:=c.imp id fun ⟨x,n,q⟩=>⟨x,n.1,q⟩
theorem CoolBut2.keep (c:CoolBut2 A h I S) (k:∀b o,b≠I→b≠S→h.get? b=some o→h'.get? b=some o):CoolBut2 A h' I S:=c.imp id fun ⟨x,n,q⟩=>⟨x,n,hotAt_keep q fun o=>k x o n.1 n.2⟩
theorem CoolBut2.around (c:CoolBut2 A h I S) (e:A'.handled=A.handled):CoolBut2 A' h I S:=c.imp e.trans fun ⟨x,n,q⟩=>⟨x,n,e.trans q.1,q.2⟩
theorem CoolAt.but2 (c:CoolAt A h) (hI:h.objs.size≤I) (hS:h.objs.size≤S) (k:∀b o,h.get? b=some o→h'.get? b=some o):CoolBut2 A h' I S:=c.imp id fun ⟨x,q⟩=>
 ⟨x,let ⟨_,o,_,g,_⟩:=q;⟨Nat.ne_of_lt (Nat.lt_of_lt_of_le (Heap.lt_size g) hI),Nat.ne_of_lt (Nat.lt_of_lt_of_le (Heap.lt_size g) hS)⟩,hotAt_keep q (k x)⟩
end
section
variable {X:Cx}
theorem cr_any (hc:Cool X):CallR X (.builtin "any") (rAny X.K):=by
 rintro pins s z H _ us Q I r ⟨a,bs,rfl,hs,q⟩
 obtain⟨its,rv,hl,_⟩:=I.list hs
 rw[Vals.ref1 r]
 have hb:=rv.bls
 refine call_any_walk (iter_any hl.isList ?_)
 rintro _ rfl st ne
 obtain⟨fp,St,W,s0,_⟩:=walks_list (A:=X.A.in1) (prog:=X.prog) (w:=X.w) ((hc.at I).fresh fun b o e=>Heap.get?_push_of_some _ e) ne st
 refine⟨_,_,_,_,_,_,_,rfl,W,s0,truth_bools hb,fun h' tk hk=>⟨.bl _,H,I.kept fun b o eo=>hk b o (fun m=>Nat.lt_irrefl _ (List.mem_singleton.mp m▸Heap.lt_size eo)) (Heap.get?_push_of_some _ eo),?_,q⟩⟩
 show Value.bool _=Value.bool _
 rw[←L2.any_range,hb,List.size_toArray,List.length_map]
theorem cr_all (hc:Cool X):CallR X (.builtin "all") (rAll X.K):=by
 rintro pins s z H _ us Q I r ⟨a,bs,rfl,hs,q⟩
 obtain⟨its,rv,hl,_⟩:=I.list hs
 rw[Vals.ref1 r]
 have hb:=rv.bls
 refine call_all_walk (iter_any hl.isList ?_)
 rintro _ rfl st ne
 obtain⟨fp,St,W,s0,_⟩:=walks_list (A:=X.A.in1) (prog:=X.prog) (w:=X.w) ((hc.at I).fresh fun b o e=>Heap.get?_push_of_some _ e) ne st
 refine⟨_,_,_,_,_,_,_,rfl,W,s0,truth_bools hb,fun h' tk hk=>⟨.bl _,H,I.kept fun b o eo=>hk b o (fun m=>Nat.lt_irrefl _ (List.mem_singleton.mp m▸Heap.lt_size eo)) (Heap.get?_push_of_some _ eo),?_,q⟩⟩
 show Value.bool _=Value.bool _
 rw[←L2.all_range,hb,List.size_toArray,List.length_map]
end
end M3
set_option maxHeartbeats 2000000
namespace M3
open PySem PySem.Spec PyProof.Rows L2
end M3
namespace M3
open PySem PySem.Spec PyProof.Rows L2
structure Alt (X Y:Cx):Prop where
 eq:∃b l,Y={ X with calm:=b,pn:=l }
 fwd:∀{pins:List (Addr×Obj)} {z:L2.St} {H:Hp} {s:Shared},Inv X pins z H s→Inv Y pins z H s
 bwd:∀{pins:List (Addr×Obj)} {z:L2.St} {H:Hp} {s:Shared},Inv Y pins z H s→Inv X pins z H s
section
variable {X Y:Cx}
theorem Alt.pa (a:Alt X Y) {es:List Expr} {t:TA} (h:PA X es t):PA Y es t:=by
 obtain⟨b,l,rfl⟩:=a.eq
 exact⟨fun pos pins s z H Q I q=>thn (h.run pos pins s z H Q (a.bwd I) q) fun us s1 ⟨vs,H1,I1,r⟩=>⟨vs,H1,a.fwd I1,r⟩⟩
theorem Alt.ps (a:Alt X Y) {st:Stmt} {t:TS} (h:PS Y st t):PS X st t:=by
 obtain⟨b,l,rfl⟩:=a.eq
 refine⟨fun pins s z H D I q=>wpAny_mono (h.run pins s z H D (a.fwd I) q) (fun f s1 hs=>?_) fun _ _ e=>e⟩
 cases f with
 | next=>obtain⟨z1,H1,I1,r⟩:=hs;exact⟨z1,H1,a.bwd I1,r⟩
 | cont=>obtain⟨z1,H1,I1,r⟩:=hs;exact⟨z1,H1,a.bwd I1,r⟩
 | brk=>obtain⟨z1,H1,I1,r⟩:=hs;exact⟨z1,H1,a.bwd I1,r⟩
 | ret v=>obtain⟨x,z1,H1,I1,r⟩:=hs;exact⟨x,z1,H1,a.bwd I1,r⟩
theorem Alt.pe (a:Alt X Y) {e:Expr} {t:TE} (h:PE Y e t):PE X e t:=by
 obtain⟨b,l,rfl⟩:=a.eq
 exact⟨fun pins s z H Q I q=>thn (h.run pins s z H Q (a.fwd I) q) fun u s1 ⟨v,H1,I1,r⟩=>⟨v,H1,a.bwd I1,r⟩⟩
end
end M3
namespace M3
open PySem PySem.Spec PyProof.Rows L2
theorem RoomC.deeper {k:Nat} {A:Around} {outer:List Env} {H:Hp} {s:Shared} (r:RoomC (k+1) A outer H s) (env:Env):RoomS k (A.deeper env) s H (frs outer) []:=
 ⟨by have:=r.dp;show A.depth+1+3 * k+5<_;omega,by have:=r.un;show A.units+3+16 * k+200<_;omega,r.hot.cools⟩
structure NOk (P:Program) (w:World) (K:PySem.W.Frag) (mg:Str→Option Value) (base:Heap) (CX:CXH) (k:Nat) (f:Addr) (F:NdefX.NF) (ps fr:List Str) (sp:List (Option V)→Sp):Prop where
 len:∀ws vs H Q E,sp ws vs H Q E→vs.length=ps.length
 run:∀(A:Around) (outer:List Env) (s:Shared) (H:Hp) (us:List Value) (vs:List V) (ws:List (Option V)) (Q:VK) (E:XK),RoomC k A outer H s→Env0 P w K mg base A outer s H→H f=some (NdefX.FnO f F)→H F.c=some (LamX.CodeO F.c F.qual)→
  NdefX.CellsAt F.cl fr ws s.heap H→Vals vs us→sp ws vs H Q E→codeAny (model P w) A (.call (.ref f) ⟨us,[]⟩) (CR (CX A.handled) outer P w H s Q E) s
section
variable {CX:CXH} {P:Program} {w:World} {K:PySem.W.Frag} {mg:Str→Option Value} {base:Heap} {N ps fr:List Str} {F:NdefX.NF} {f:Addr} {k j:Nat} {sp sp':List (Option V)→Sp}
theorem NOk.mono (o:NOk P w K mg base CX j f F ps fr sp) (h:j≤k):NOk P w K mg base CX k f F ps fr sp:=⟨o.len,fun A outer s H us vs ws Q E hr=>o.run A outer s H us vs ws Q E (hr.mono h)⟩
theorem NOk.imp (o:NOk P w K mg base CX k f F ps fr sp) (h:∀ws vs H Q E,sp' ws vs H Q E→sp ws vs H Q E):NOk P w K mg base CX k f F ps fr sp':=
 ⟨fun ws vs H Q E q=>o.len ws vs H Q E (h _ _ _ _ _ q),fun A outer s H us vs ws Q E hr e0 hf hc C r q=>o.run A outer s H us vs ws Q E hr e0 hf hc C r (h _ _ _ _ _ q)⟩
end
end M3
namespace M3
open PySem PySem.Spec PyProof.Rows L2
abbrev GM:=D→Sl3→Option Sl3
abbrev GMs:=List D→Sl3→Option Sl3
structure But (gs:List Nat) (z z':L2.St):Prop where
 len:z'.length=z.length
 out:∀j,j∉gs→z'[j]?=z[j]?
theorem But.refl {gs:List Nat} (z:L2.St):But gs z z:=⟨rfl,fun _ _=>rfl⟩
theorem But.trans {gs gs':List Nat} {a b c:L2.St} (h:But gs a b) (h':But gs' b c):But (gs++gs') a c:=
 ⟨h'.len.trans h.len,fun j hj=>(h'.out j fun m=>hj (List.mem_append_right _ m)).trans (h.out j fun m=>hj (List.mem_append_left _ m))⟩
theorem wipe_in {z:L2.St} {i:Nat}:∀{vs:List Nat},i∈vs→i<z.length→(wipe z vs)[i]?=some none
 | v :: vs,h,hl=>by
  unfold wipe
  by_cases e:v=i
  ·subst e;rw[List.getElem?_set_self (by rw[wipe_length];exact hl)]
  ·rw[List.getElem?_set_ne e]
   rcases List.mem_cons.mp h with q | q
   ·exact absurd q.symm e
   ·exact wipe_in q hl
theorem But.wipe {gs vs:List Nat} {z z':L2.St} (h:But gs z z') (hs:∀i∈gs,i∈vs):L2.wipe z' vs=L2.wipe z vs:=by
 apply List.ext_getElem?
 intro i
 by_cases hi:i∈vs
 ·by_cases hl:i<z.length
  ·rw[wipe_in hi (by rw[h.len];exact hl),wipe_in hi hl]
  ·rw[List.getElem?_eq_none (by rw[wipe_length,h.len];omega),List.getElem?_eq_none (by rw[wipe_length];omega)]
 ·rw[wipe_out hi,wipe_out hi]
  exact h.out i fun m=>hi (hs i m)
def tG (G:G3) (hx:Hex) (g:GM) (gs:List Nat):TG:=fun v z H Q=>∃(B0 B:Addr→Prop) (s:S3) (st:Store) (u:Sl3) (d:D) (u':Sl3),s.H=H∧Wd G B st s∧Slo G hx B0 B s u z∧Rep G.R s.F s.io d v∧g d u=some u'∧
 ∀z',Slo G hx B0 B s u' z'→But gs z z'→Q z' H
def tGs (G:G3) (hx:Hex) (g:GMs) (gs:List Nat):TGs:=fun vs z H Q=>∃(B0 B:Addr→Prop) (s:S3) (st:Store) (u:Sl3) (ds:List D) (u':Sl3),s.H=H∧Wd G B st s∧Slo G hx B0 B s u z∧RepL G.R s.F s.io ds vs∧g ds u=some u'∧
 ∀z',Slo G hx B0 B s u' z'→But gs z z'→Q z' H
structure MG (P:P3) (tg:Expr) (g:GM) (gs:List Nat):Prop where
 pg:PG P.X tg (tG P.G P.hx g gs)
structure MGs (P:P3) (tg:List Expr) (g:GMs) (gs:List Nat):Prop where
 pgs:PGs P.X tg (tGs P.G P.hx g gs)
def gName3 (i:Nat):GM:=fun d u=>some (u.set i (some (.val d)))
def gNil3:GMs:=fun ds u=>match ds with
 | []=>some u
 | _=>none
def gCons3 (g:GM) (gs:GMs):GMs:=fun ds u=>match ds with
 | d :: ds=>(g d u).bind (gs ds)
 | []=>none
def gTup3 (n:Nat) (gs:GMs):GM:=fun d u=>match d with
 | .tup ds=>if ds.length=n then gs ds u else none
 | _=>none
section
variable {P:P3} {pos:Pos}
theorem mg_name (i:Nat) {x:Str} (hN:P.X.N.Nodup) (hi:P.X.N[i]?=some x:=by rfl) (hx:Loc P.X.env.scope x:=by first | exact Or.inl rfl | exact Or.inr rfl)
  (hf:P.X.fn x=true∨P.X.env.scope.names.lookup x=some .local:=by first | exact .inl rfl | exact .inr rfl | assumption):MG P (.Name x pos) (gName3 i) [i]:=by
 refine⟨⟨fun pins s0 z H v w Q I r ⟨B0,B,s,st,u,d,u',e,wd,sl,rd,eg,k⟩=>?_⟩⟩
 cases eg
 refine(pg_name hN hi hx hf).run pins s0 z H v w Q I r (k _ (sl.set rd i) ⟨by simp,fun j hj=>?_⟩)
 rw[List.getElem?_set_ne (fun q=>hj (by simp[q]))]
theorem mgs_nil:MGs P [] gNil3 []:=by
 refine⟨⟨fun pins s0 z H vs us Q I r ⟨B0,B,s,st,u,ds,u',e,wd,sl,rd,eg,k⟩=>?_⟩⟩
 cases rd with
 | nil=>cases eg;exact pgs_nil.run pins s0 z H [] us Q I r ⟨rfl,k z sl (But.refl z)⟩
 | cons _ _=>cases eg
theorem mgs_cons {e:Expr} {es:List Expr} {g:GM} {gs:GMs} {is js:List Nat} (h1:MG P e g is) (h2:MGs P es gs js)
  (hs:(assignEach (e :: es) P.X.env).map (·.2)=assign e P.X.env :: (assignEach es P.X.env).map (·.2):=by rfl):MGs P (e :: es) (gCons3 g gs) (is++js):=by
 refine⟨⟨fun pins s0 z H vs us Q I r ⟨B0,B,s,st,u,ds,u',e,wd,sl,rd,eg,k⟩=>?_⟩⟩
 cases rd with
 | nil=>cases eg
 | @cons d ds v vs rd rds=>
  have eg:(g d u).bind (gs ds)=some u':=eg
  cases e1:g d u with
  | none=>rw[e1] at eg;cases eg
  | some u1=>
   rw[e1] at eg
   refine(pgs_cons h1.pg h2.pgs hs).run pins s0 z H _ us Q I r ⟨v,vs,rfl,B0,B,s,st,u,d,u1,e,wd,sl,rd,e1,fun z1 sl1 b1=>?_⟩
   exact⟨B0,B,s,st,u1,ds,u',e,wd,sl1,rds,eg,fun z2 sl2 b2=>k z2 sl2 (b1.trans b2)⟩
theorem mg_tup {es:List Expr} {k:Nat} {gs:GMs} {is:List Nat} {n:Nat} (hc:Cool P.X) (h:MGs P es gs is)
  (hn:(assignEach es P.X.env).length=n:=by rfl) (hst:(assignEach es P.X.env).findIdx? (·.1)=none:=by rfl):MG P (.Tuple es k pos) (gTup3 n gs) is:=by
 refine⟨⟨fun pins s0 z H v w Q I r ⟨B0,B,s,st,u,d,u',e,wd,sl,rd,eg,k⟩=>?_⟩⟩
 subst e
 unfold gTup3 at eg
 split at eg
 ·rename_i ds
  split at eg
  ·rename_i hl
   cases rd with
   | tup hq rl=>
    refine(pg_tup hc h.pgs hn hst).run pins s0 z s.H _ w Q I r ⟨_,_,rfl,(hq.mono wd.sub).sq,by rw[←rl.length];exact hl,?_⟩
    exact⟨B0,B,s,st,u,_,u',rfl,wd,sl,rl,eg,k⟩
  ·cases eg
 ·cases eg
end
structure Itm (G:G3) (s:S3) (ds:List D) (J:It):Prop where
 go:∀(s':S3),IoLe s.io s'.io→Same s.F s'.F→Same s'.F s'.H→∀i,i<ds.length→J.go i s'.H
 yld:∀(s':S3),IoLe s.io s'.io→Same s.F s'.F→Same s'.F s'.H→∀i x H',i<ds.length→J.yld i s'.H x H'→H'=s'.H∧∃d,ds[i]?=some d∧Rep G.R s'.F s'.io d x
 stop:∀(s':S3),IoLe s.io s'.io→Same s.F s'.F→Same s'.F s'.H→∀i,ds.length≤i→J.stop i s'.H
def tI (G:G3) (hx:Hex) (wx:WX) (m:FM):TI:=fun z H R=>∃(B0 B:Addr→Prop) (s:S3) (st:Store) (u:Sl3),s.H=H∧Wd G B st s∧Slo G hx B0 B s u z∧Post G B (fun s ds J=>Itm G s ds J) (fun c d H=>wx c d z H) s R (m u st)
structure MI (P:P3) (tg iter:Expr) (m:FM):Prop where
 pi:PI P.X tg iter (tI P.G P.hx P.wx m)
theorem MI.mk' {P:P3} {tg iter:Expr} {m:FM} {t:TI} (h:PI P.X tg iter t) (k:∀(B0 B:Addr→Prop) (s:S3) (st:Store) (u:Sl3) (z:L2.St) (R:It→Hp→Prop),Wd P.G B st s→Slo P.G P.hx B0 B s u z→
  Post P.G B (fun s ds J=>Itm P.G s ds J) (fun c d H=>P.wx c d z H) s R (m u st)→t z s.H R):MI P tg iter m:=
 ⟨⟨fun pins s0 z H R I ⟨B0,B,s,st,u,e,wd,sl,p⟩=>by subst e;exact h.run pins s0 z _ R I (k B0 B s st u z R wd sl p)⟩⟩
theorem MI.out {P:P3} {tg iter:Expr} {m:FM} (h:MI P tg iter m):∃t,PI P.X tg iter t∧∀(B0 B:Addr→Prop) (s:S3) (st:Store) (u:Sl3) (z:L2.St) (R:It→Hp→Prop),Wd P.G B st s→Slo P.G P.hx B0 B s u z→
  Post P.G B (fun s ds J=>Itm P.G s ds J) (fun c d H=>P.wx c d z H) s R (m u st)→t z s.H R:=⟨_,h.pi,fun B0 B s st u z R wd sl p=>⟨B0,B,s,st,u,rfl,wd,sl,p⟩⟩
def D.walk:D→Option (List D)
 | .str x=>some (x.cps.toList.map fun c=>.str ⟨#[c]⟩)
 | d=>d.items
def iSeq (m:EM):FM:=fun u=>M.bind (m u) fun w=>match w with
 | .val d=>M.of d.walk
 | _=>M.bad
def iSeqT (K:PySem.W.Frag) (tl:TE):TI:=fun z H R=>tl z H fun x H1=>(∃y,x=.str y∧R (Its y) H1)∨∃a,x=.ref a∧((∃xs,SqL K H1 a xs)∧R (Itl K a) H1∨(∃xs,SqT K H1 a xs)∧R (Itt K a) H1)
section
variable {P:P3} {pos p:Pos} {tg l:Expr} {m:EM}
theorem pi_seq3 {X:Cx} {tl:TE} (hl:PE X l tl):PI X tg l (iSeqT X.K tl):=by
 constructor
 intro pins s z H R I h
 refine thn (hl.run pins s z H _ I h) ?_
 rintro v s1 ⟨x,H1,I1,r1,⟨y,rfl,q⟩ | ⟨a,rfl,q⟩⟩
 ·obtain⟨t,rfl⟩:=r1
  cases ha:y.cps.all (· < 128)
  ·exact wpAny_pyIter_wide ha (pi_one (tk:=s1.toks) I1 _ (turn_str _ y t "str_iterator" (.inr rfl)) ⟨_,Heap.get?_push_size _ rfl,rfl,rfl⟩ q)
  ·exact wpAny_pyIter_ascii ha (pi_one (tk:=s1.toks) I1 _ (turn_str _ y t "str_ascii_iterator" (.inl rfl)) ⟨_,Heap.get?_push_size _ rfl,rfl,rfl⟩ q)
 obtain rfl:v=Value.ref a:=r1
 have nfp:∀b∈[s1.heap.objs.size],FpOk X pins H1 b:=fun b hb=>by
  rw[List.mem_singleton.mp hb]
  exact I1.fpOk (Nat.le_refl _) I1.fresh
 rcases q with⟨⟨xs,hq⟩,q⟩ | ⟨⟨xs,hq⟩,q⟩
 ·obtain⟨its,_,pl,_⟩:=I1.list hq
  exact wpAny_pyIter_list pl.isList ⟨_,[s1.heap.objs.size],_,_,H1,rfl,I1.kept (t':=s1.toks) (fun b o e=>Heap.get?_push_of_some _ e),turn_list a _,⟨_,Heap.get?_push_size _ rfl,rfl,rfl⟩,nfp,q⟩
 ·obtain⟨its,_,pl,_⟩:=I1.tuple hq
  exact wpAny_pyIter_tuple (show s1.heap.IsTuple a its.toArray from pl) ⟨_,[s1.heap.objs.size],_,_,H1,rfl,I1.kept (t':=s1.toks) (fun b o e=>Heap.get?_push_of_some _ e),turn_tuple a _,⟨_,Heap.get?_push_size _ rfl,rfl,rfl⟩,nfp,q⟩
theorem itm_list {G:G3} {s:S3} {xs:List D} {vs:List V} {a:Addr} (h:SqL G.K s.F a vs) (r:RepL G.R s.F s.io xs vs):Itm G s xs (Itl G.K a):=by
 have up:∀(s':S3),Same s.F s'.F→Same s'.F s'.H→SqL G.K s'.H a vs:=fun s' h1 h2=>same_sqL h2 (same_sqL h1 h)
 refine⟨fun s' h1 h2 h3 i hi=>?_,fun s' h1 h2 h3 i x H' hi y=>?_,fun s' h1 h2 h3 i hi=>⟨vs,up s' h2 h3,by rw[←r.length];exact hi⟩⟩
 ·obtain⟨v,e,_⟩:=r.get (List.getElem?_eq_getElem hi)
  exact⟨vs,v,up s' h2 h3,e⟩
 ·obtain⟨e,y⟩:=y
  obtain⟨d,e2,rd⟩:=r.get' (y vs (up s' h2 h3))
  exact⟨e,d,e2,rd.mono h2 h1⟩
theorem itm_tup {G:G3} {s:S3} {xs:List D} {vs:List V} {a:Addr} (h:SqT G.K s.F a vs) (r:RepL G.R s.F s.io xs vs):Itm G s xs (Itt G.K a):=by
 have up:∀(s':S3),Same s.F s'.F→Same s'.F s'.H→SqT G.K s'.H a vs:=fun s' h1 h2=>same_sqT h2 (same_sqT h1 h)
 refine⟨fun s' h1 h2 h3 i hi=>?_,fun s' h1 h2 h3 i x H' hi y=>?_,fun s' h1 h2 h3 i hi=>⟨vs,up s' h2 h3,by rw[←r.length];exact hi⟩⟩
 ·obtain⟨v,e,_⟩:=r.get (List.getElem?_eq_getElem hi)
  exact⟨vs,v,up s' h2 h3,e⟩
 ·obtain⟨e,y⟩:=y
  obtain⟨d,e2,rd⟩:=r.get' (y vs (up s' h2 h3))
  exact⟨e,d,e2,rd.mono h2 h1⟩
theorem itm_str {G:G3} {s:S3} (y:Str):Itm G s (y.cps.toList.map fun c=>.str ⟨#[c]⟩) (Its y):=by
 have hl:(y.cps.toList.map fun c=>D.str ⟨#[c]⟩).length=y.cps.size:=by simp
 refine⟨fun s' h1 h2 h3 i hi=>by rw[hl] at hi;exact hi,fun s' h1 h2 h3 i x H' hi y'=>?_,fun s' h1 h2 h3 i hi=>by rw[hl] at hi;exact hi⟩
 obtain⟨e,c,ec,rfl⟩:=y'
 exact⟨e,.str ⟨#[c]⟩,by rw[List.getElem?_map,Array.getElem?_toList,ec];rfl,.str⟩
theorem mi_seq (h:ME P l m):MI P tg l (iSeq m):=by
 obtain⟨t,pt,ht⟩:=h.out
 refine MI.mk' (pi_seq3 pt) fun B0 B s st u z R wd sl hp=>ht B0 B s st u z _ wd sl (Post.bind hp fun w st1 s1 v l1 wd1 r1 h1=>?_)
 cases w with
 | val d=>
  obtain⟨xs,e,h1⟩:=of_eq h1
  rw[P.hK]
  cases r1 with
  | str=>cases e;exact .inl ⟨_,rfl,h1.pure wd1 (itm_str _)⟩
  | tup hq rl=>cases e;exact .inr ⟨_,rfl,.inr ⟨⟨_,(hq.mono wd1.sub).sq⟩,h1.pure wd1 (itm_tup hq.sq rl)⟩⟩
  | lst hq rl=>cases e;exact .inr ⟨_,rfl,.inl ⟨⟨_,.inl (.inl (wd1.sub _ _ hq))⟩,h1.pure wd1 (itm_list (.inl (.inl hq)) rl)⟩⟩
  | ctup hq rl=>cases e;exact .inr ⟨_,rfl,.inr ⟨⟨_,same_sqT wd1.sub hq⟩,h1.pure wd1 (itm_tup hq rl)⟩⟩
  | ro hq rl=>cases e;exact .inr ⟨_,rfl,.inl ⟨⟨_,same_sqL wd1.sub hq⟩,h1.pure wd1 (itm_list hq rl)⟩⟩
  | _=>cases e
 | _=>exact h1.elim
def rangeD (lo:Int) (n:Nat):List D:=(List.range n).map fun (i:Nat)=>D.int (lo+(i:Int))
def rng1 (ws:List W):Option (List D):=match ws with
 | [.val (.int j)]=>if -1000000≤j∧j≤1000000 then some (rangeD 0 j.toNat) else none
 | _=>none
def rng2 (ws:List W):Option (List D):=match ws with
 | [.val (.int i),.val (.int j)]=>if -1000000≤i∧i≤1000000∧-1000000≤j∧j≤1000000 then some (rangeD i (j - i).toNat) else none
 | _=>none
def iRange1 (m:AM):FM:=fun u=>M.bind (m u) fun ws=>M.of (rng1 ws)
def iRange2 (m:AM):FM:=fun u=>M.bind (m u) fun ws=>M.of (rng2 ws)
theorem itm_range {G:G3} {s:S3} (lo:Int) (n:Nat):Itm G s (rangeD lo n) (Itr lo n):=by
 have hl:(rangeD lo n).length=n:=by simp[rangeD]
 refine⟨fun s' h1 h2 h3 i hi=>by rw[hl] at hi;exact hi,fun s' h1 h2 h3 i x H' hi y=>?_,fun s' h1 h2 h3 i hi=>by rw[hl] at hi;exact hi⟩
 obtain⟨e,rfl⟩:=y
 rw[hl] at hi
 exact⟨e,_,by simp[rangeD,hi],.int⟩
theorem mi_range1 {a:Expr} {ma:AM} (hg:Gl P.X "range") (hm:P.X.mg "range" = none) (ha:MA P [a] ma) (hs:starEach [a] P.X.env=[(false,eval a P.X.env)]:=by rfl):MI P tg (.Call (.Name "range" p) [a] [] pos) (iRange1 ma):=by
 obtain⟨t,pt,ht⟩:=ha.out
 refine MI.mk' (pi_range1 hg hm pt hs) fun B0 B s st u z R wd sl hp=>ht B0 B s st u z _ wd sl (Post.bind hp fun ws st1 s1 v l1 wd1 r1 h1=>?_)
 obtain⟨xs,e,h1⟩:=of_eq h1
 unfold rng1 at e
 split at e
 ·rename_i j
  cases r1 with
  | cons r rr=>
   cases rr
   cases r
   split at e
   ·rename_i hc
    cases e
    exact⟨j,rfl,by omega,by omega,h1.pure wd1 (itm_range 0 _)⟩
   ·cases e
 ·cases e
end
def forL (g:GM) (b:SM):List D→SM
 | [],u,st=>.nx u st
 | d :: ds,u,st=>match g d u with
  | none=>.bad
  | some u1=>match b u1 st with
   | .nx u2 st2=>forL g b ds u2 st2
   | .ct u2 st2=>forL g b ds u2 st2
   | .bk u2 st2=>.nx u2 st2
   | r=>r
def sFor (m:FM) (g:GM) (b:SM):SM:=fun u st=>match m u st with
 | .ok ds st'=>forL g b ds u st'
 | .err c x st'=>.err c x u st'
 | .bad=>.bad
def whileL (c:TM) (b:SM):Nat→SM
 | 0,_,_=>.bad
 | n+1,u,st=>match c u st with
  | .ok true st1=>match b u st1 with
   | .nx u2 st2=>whileL c b n u2 st2
   | .ct u2 st2=>whileL c b n u2 st2
   | .bk u2 st2=>.nx u2 st2
   | r=>r
  | .ok false st1=>.nx u st1
  | .err c x st1=>.err c x u st1
  | .bad=>.bad
section
variable {P:P3} {pos:Pos}
theorem ms_for {tg iter:Expr} {body:List Stmt} {mi:FM} {g:GM} {gs:List Nat} {mb:SM} (hp:PassesOwn (model P.X.prog P.X.w) P.X.A P.X.env P.X.xe) (hc:Cool P.X) (hi:MI P tg iter mi) (hg:MG P tg g gs) (hb:MSs P body mb)
  (hs:∀x,foldedSetIterable iter P.X.env x=pure x:=by intro _;rfl):MS P (.For tg iter body [] pos) (sFor mi g mb):=by
 obtain⟨ti,pi,hti⟩:=hi.out
 obtain⟨tb,pb,htb⟩:=hb.out
 refine MS.mk' (ps_for hp hc pi hg.pg pb hs) fun B0 B s o u z D b0 wd sl h=>hti B0 B s o u z _ wd sl ?_
 unfold sFor at h
 cases e:mi u o with
 | bad=>rw[e] at h;exact h
 | err c x st'=>rw[e] at h;exact fun s' cv dd l w q=>h B s' z cv dd b0 (l.less b0) w (sl.mono' l) q
 | ok ds st'=>
  rw[e] at h
  intro s1 J l1 w1 im
  have h:=PostS.mono (l1.less b0) h
  refine⟨fun i n z' H'=>n=ds.length - i∧i≤ds.length∧∃(B':Addr→Prop) (s':S3) (o':Store) (u':Sl3),s'.H=H'∧(∀a,B0 a→B' a)∧Le B0 s1 s'∧Wd P.G B' o' s'∧Slo P.G P.hx B0 B' s' u' z'∧PostS P.G P.hx P.wx B0 s' D (forL g mb (ds.drop i) u' o'),
   ⟨_,rfl,Nat.zero_le _,B,s1,st',u,rfl,b0,Le.refl _,w1,sl.mono' l1,h⟩,?_⟩
  rintro i n z' H' ⟨rfl,hi,B',s',o',u',rfl,b0',l',w',sl',p⟩
  rcases Nat.lt_or_ge i ds.length with hlt | hge
  ·right
   refine⟨im.go s' l'.io l'.fr w'.sub i hlt,fun z2 H2=>i+1≤ds.length∧∃(B':Addr→Prop) (s':S3) (o':Store) (u':Sl3),s'.H=H2∧(∀a,B0 a→B' a)∧Le B0 s1 s'∧Wd P.G B' o' s'∧Slo P.G P.hx B0 B' s' u' z2∧PostS P.G P.hx P.wx B0 s' D (forL g mb (ds.drop (i+1)) u' o'),
    fun z2 H2 q=>⟨_,by omega,rfl,q.1,q.2⟩,fun x H2 y=>?_⟩
   obtain⟨rfl,d,ed,rd⟩:=im.yld s' l'.io l'.fr w'.sub i x _ hlt y
   rw[List.drop_eq_getElem_cons hlt] at p
   have ed':ds[i]=d:=by rw[List.getElem?_eq_getElem hlt] at ed;cases ed;rfl
   rw[ed'] at p
   unfold forL at p
   cases eg:g d u' with
   | none=>rw[eg] at p;exact p.elim
   | some u1=>
    rw[eg] at p
    refine⟨B0,B',s',o',u',d,u1,rfl,w',sl',rd,eg,fun z2 sl2 _=>?_⟩
    refine htb B0 B' s' o' u1 z2 _ b0' w' sl2 ?_
    dsimp only at p
    cases eb:mb u1 o' with
    | nx u2 st2=>rw[eb] at p;exact fun B2 s2 z3 hb2 l2 w2 sl3=>⟨hlt,B2,s2,st2,u2,rfl,hb2,l'.trans l2,w2,sl3,PostS.mono l2 p⟩
    | ct u2 st2=>rw[eb] at p;exact fun B2 s2 z3 hb2 l2 w2 sl3=>⟨hlt,B2,s2,st2,u2,rfl,hb2,l'.trans l2,w2,sl3,PostS.mono l2 p⟩
    | bk u2 st2=>rw[eb] at p;exact p
    | rt w st2=>rw[eb] at p;exact p
    | err c x u2 st2=>rw[eb] at p;exact p
    | bad=>rw[eb] at p;exact p
  ·left
   have e0:ds.drop i=[]:=List.drop_eq_nil_of_le hge
   rw[e0] at p
   exact⟨im.stop s' l'.io l'.fr w'.sub i hge,p B' s' z' b0' (Le.refl _) w' sl'⟩
theorem ms_while (n:Nat) {c:Expr} {body:List Stmt} {mc:TM} {mb:SM} (hp:PassesOwn (model P.X.prog P.X.w) P.X.A P.X.env P.X.xe) (hc:MT P c mc) (hb:MSs P body mb):MS P (.While c body [] pos) (whileL mc mb n):=by
 obtain⟨tc,pc,htc⟩:=hc.out
 obtain⟨tb,pb,htb⟩:=hb.out
 refine MS.mk' (ps_while hp pc pb) fun B0 B s o u z D b0 wd sl h=>?_
 refine⟨fun m z' H'=>∃(B':Addr→Prop) (s':S3) (o':Store) (u':Sl3),s'.H=H'∧(∀a,B0 a→B' a)∧Wd P.G B' o' s'∧Slo P.G P.hx B0 B' s' u' z'∧PostS P.G P.hx P.wx B0 s' D (whileL mc mb m u' o'),⟨n,B,s,o,u,rfl,b0,wd,sl,h⟩,?_⟩
 rintro m z' H' ⟨B',s',o',u',rfl,b0',w',sl',p⟩
 refine htc B0 B' s' o' u' z' _ w' sl' ?_
 cases m with
 | zero=>exact p.elim
 | succ m=>
  unfold whileL at p
  cases ec:mc u' o' with
  | bad=>rw[ec] at p;exact p
  | err c x st'=>rw[ec] at p;exact fun s2 cv dd l w q=>p B' s2 z' cv dd b0' (l.less b0') w (sl'.mono' l) q
  | ok k st'=>
   rw[ec] at p
   intro s2 k' l2 w2 r
   subst r
   cases k with
   | false=>exact p B' s2 z' b0' (l2.less b0') w2 (sl'.mono' l2)
   | true=>
    have p:=PostS.mono (l2.less b0') p
    rw[if_pos rfl]
    refine⟨fun z3 H3=>∃(B':Addr→Prop) (s':S3) (o':Store) (u':Sl3),s'.H=H3∧(∀a,B0 a→B' a)∧Wd P.G B' o' s'∧Slo P.G P.hx B0 B' s' u' z3∧PostS P.G P.hx P.wx B0 s' D (whileL mc mb m u' o'),fun z3 H3 q=>⟨m,Nat.lt_succ_self _,q⟩,?_⟩
    refine htb B0 B' s2 st' u' z' _ b0' w2 (sl'.mono' l2) ?_
    dsimp only at p
    cases eb:mb u' st' with
    | nx u3 st3=>rw[eb] at p;exact fun B3 s3 z3 hb3 l3 w3 sl3=>⟨B3,s3,st3,u3,rfl,hb3,w3,sl3,PostS.mono l3 p⟩
    | ct u3 st3=>rw[eb] at p;exact fun B3 s3 z3 hb3 l3 w3 sl3=>⟨B3,s3,st3,u3,rfl,hb3,w3,sl3,PostS.mono l3 p⟩
    | bk u3 st3=>rw[eb] at p;exact p
    | rt w st3=>rw[eb] at p;exact p
    | err c x u3 st3=>rw[eb] at p;exact p
    | bad=>rw[eb] at p;exact p
end
end M3
namespace M3
open PySem PySem.Spec PyProof.Rows L2
def wipe3 (u:Sl3):List Nat→Sl3
 | []=>u
 | v :: vs=>(wipe3 u vs).set v none
theorem Slo.wipe {G:G3} {X:Hex} {B0 B:Addr→Prop} {s:S3} {u:Sl3} {z:L2.St} (h:Slo G X B0 B s u z):∀vs:List Nat,Slo G X B0 B s (wipe3 u vs) (L2.wipe z vs)
 | []=>h
 | v :: vs=>(Slo.wipe h vs).del v none
abbrev noW:WX:=fun _ _ _ _=>False
abbrev P3.blk (P:P3) (s:Shared) (H:Hp) (scope:Scope) (C:Addr) (cl:List (Str×Addr)) (fp:List Addr):P3:=⟨P.X.blk s H scope (compEnvC scope cl C P.X.env) fp,P.G,P.hx,noW,P.hK,P.hw⟩
structure MIfs (P:P3) (ifs:List Expr) (m:TM):Prop where
 pts:PTs P.X ifs (tT P.G P.hx P.wx m)
def tYes3:TM:=fun _=>M.pure true
theorem mifs_nil {P:P3}:MIfs P [] tYes3:=
 ⟨⟨fun pins s0 z H Q I ⟨B0,B,s,st,u,e,wd,sl,p⟩=>by subst e;exact pts_nil.run pins s0 z _ Q I (p.pure wd rfl)⟩⟩
theorem mifs_one {P:P3} {c:Expr} {m:TM} (h:MT P c m):MIfs P [c] m:=⟨pts_one h.pt⟩
def lcL (g:GM) (c:TM) (e:EM) (u0:Sl3):List D→List D→M (List D)
 | [],acc=>M.pure acc
 | d :: ds,acc=>M.bind (M.of (g d u0)) fun u1=>M.bind (M.quiet (c u1)) fun k=>
  if k=true then M.bind (M.quiet (e u1)) fun w=>M.bind (M.of w.d) fun x=>M.bind (M.chk (acc.length<1000000)) fun _=>lcL g c e u0 ds (acc++[x])
  else lcL g c e u0 ds acc
def fLc (mi:FM) (g:GM) (c:TM) (e:EM) (own:List Nat):FM:=fun u=>M.bind (mi u) fun ds=>lcL g c e (wipe3 u own) ds []
section
variable {P:P3} {pos:Pos}
theorem of_quiet {α:Type} {m:M α} {f:α→M (List D)} {st:Store} {G:G3} {B:Addr→Prop} {E:XK} {s:S3} {Q:VK} (h:PostF G B E s Q (M.bind (M.quiet m) f st)):∃a st',m st=.ok a st'∧PostF G B E s Q (f a st'):=by
 unfold M.bind M.quiet at h
 cases e:m st with
 | ok a st'=>rw[e] at h;exact⟨a,st',rfl,h⟩
 | err c x st'=>rw[e] at h;exact h.elim
 | bad=>rw[e] at h;exact h.elim
theorem plus_le {B:Addr→Prop} {p:Addr} {s s':S3} (l:Le (plus B p) s s'):Le B s s':=l.less fun a b=>.inl b
theorem grow_wd {G:G3} {B:Addr→Prop} {st:Store} {s:S3} {p:Addr} {vs:List V} {xs:List D} {d:D} {v:V} (w:Wd G (plus B p) st s) (nb:¬B p) (h:s.H p=some (.lst vs)) (o:HO) (nt:OwnH o:=by exact⟨fun _ q=>(by cases q),fun _ _ q=>(by first | exact dkO_code q | exact cellO_code q | (unfold LamX.CodeO at q;cases q))⟩) :
  Wd G (plus B p) st ⟨s.io,s.F,upd s.H p o⟩∧Le B s ⟨s.io,s.F,upd s.H p o⟩:=by
 have hF:=(w.hid p (.inr rfl)).1
 refine⟨⟨fun b u e=>?_,fun a b=>?_,w.ftb,w.dom,w.inj,fun k u e t=>?_,w.untM (IoLe.refl _) (Same.refl _),w.tabM (Same.refl _) (upd_tbl (w.ntbl (.inr rfl)))⟩,IoLe.refl _,Same.refl _,fun a b=>upd_ne fun z=>by subst z;exact nb b⟩
 ·show upd s.H p o b=some u
  rw[upd_ne (fun z=>by subst z;have e:s.F b=some u:=e;rw[hF] at e;cases e)]
  exact w.sub b u e
 ·by_cases q:a=p
  ·subst q;exact⟨hF,o,upd_same,nt⟩
  ·obtain⟨h1,u,h2,h3⟩:=w.hid a b
   exact⟨h1,u,by show upd s.H p o a=some u;rw[upd_ne q];exact h2,h3⟩
 ·obtain⟨a,e1,b1,f1,o1⟩:=w.obj k u e t
  have na:a≠p:=fun z=>b1 (.inr z)
  exact⟨a,e1,b1,f1,ObjR.mono (s:=s) (s':=⟨s.io,s.F,upd s.H p o⟩) (IoLe.refl _) (Same.refl _) (upd_ne na) o1⟩
theorem Slo.more {G:G3} {X:Hex} {B0 B B':Addr→Prop} {s:S3} {u:Sl3} {z:L2.St} (h:Slo G X B0 B s u z) (hb:∀a,B a→B' a):Slo G X B0 B' s u z:=by
 obtain⟨hl,ow,h1,h2⟩:=h
 exact⟨hl,ow,fun i w e=>let ⟨v,e1,r,q⟩:=h1 i w e;⟨v,e1,r.wider hb,q⟩,h2⟩
theorem lc_ok {tgt iter elt:Expr} {ifs:List Expr} {mi:FM} {g:GM} {gs:List Nat} {c:TM} {e:EM} {own:List Nat} {ti:TI} (hgs:∀i∈gs,i∈own)
  (hti:∀(B0 B:Addr→Prop) (s:S3) (st:Store) (u:Sl3) (z:L2.St) (R:It→Hp→Prop),Wd P.G B st s→Slo P.G P.hx B0 B s u z→Post P.G B (fun s ds J=>Itm P.G s ds J) (fun c d H=>P.wx c d z H) s R (mi u st)→ti z s.H R)
  {B0 B:Addr→Prop} {s:S3} {st:Store} {u:Sl3} {z:L2.St} {Q:VK} (wd:Wd P.G B st s) (sl:Slo P.G P.hx B0 B s u z) (h:PostF P.G B (fun c d H=>P.wx c d z H) s Q (fLc mi g c e own u st)) :
  tLc ti (tG P.G P.hx g gs) (tT P.G P.hx noW c) (tE P.G P.hx noW e) own z s.H Q:=by
 refine hti B0 B s st u z _ wd sl (PostF.bind h fun ds st1 s1 J l1 wd1 im h1=>?_)
 intro p hp
 obtain⟨wd2,l2⟩:=own_wd (ho:=.lst []) wd1 hp
 have nb:¬B p:=wd1.freshB hp
 refine⟨fun i n H'=>n=ds.length - i∧i≤ds.length∧∃(s':S3) (st':Store) (acc:List D) (vs:List V),s'.H=H'∧Le B s1 s'∧Wd P.G (plus B p) st' s'∧s'.H p=some (.lst vs)∧RepL P.G.R s'.F s'.io acc vs∧
   PostF P.G B (fun c d H=>P.wx c d z H) s' Q (lcL g c e (wipe3 u own) (ds.drop i) acc st'),
  ⟨_,rfl,Nat.zero_le _,_,st1,[],[],rfl,l2,wd2,upd_same,.nil,PostF.mono l2 h1⟩,?_⟩
 rintro i n H' ⟨rfl,hi,s',st',acc,vs,rfl,l',w',hq,rl,pf⟩
 rcases Nat.lt_or_ge i ds.length with hlt | hge
 ·right
  refine⟨im.go s' l'.io l'.fr w'.sub i hlt,fun H2=>i+1≤ds.length∧∃(s':S3) (st':Store) (acc:List D) (vs:List V),s'.H=H2∧Le B s1 s'∧Wd P.G (plus B p) st' s'∧s'.H p=some (.lst vs)∧RepL P.G.R s'.F s'.io acc vs∧
   PostF P.G B (fun c d H=>P.wx c d z H) s' Q (lcL g c e (wipe3 u own) (ds.drop (i+1)) acc st'),fun H2 q=>⟨_,by omega,rfl,q.1,q.2⟩,fun x H2 y=>?_⟩
  obtain⟨rfl,d,ed,rd⟩:=im.yld s' l'.io l'.fr w'.sub i x _ hlt y
  rw[List.drop_eq_getElem_cons hlt] at pf
  have ed':ds[i]=d:=by rw[List.getElem?_eq_getElem hlt] at ed;cases ed;rfl
  rw[ed'] at pf
  unfold lcL at pf
  obtain⟨u1,eg,pf⟩:=PostF.of_of pf
  have slw:Slo P.G P.hx B0 (plus B p) s' (wipe3 u own) (L2.wipe z own):=((sl.mono' (l1.trans l')).more fun a b=>.inl b).wipe own
  refine⟨B0,plus B p,s',st',wipe3 u own,d,u1,rfl,w',slw,rd,eg,fun z2 sl2 b2=>⟨?_,?_⟩⟩
  ·rw[b2.wipe hgs,wipe_wipe]
  ·obtain⟨k,st3,ek,pf⟩:=of_quiet pf
   refine⟨B0,plus B p,s',st',u1,rfl,w',sl2,?_⟩
   rw[ek]
   intro s3 k' l3 w3 rk
   subst rk
   have hq3:s3.H p=some (.lst vs):=(l3.hid p (.inr rfl)).trans hq
   have rl3:=rl.mono l3.fr l3.io
   have pf:=PostF.mono (plus_le l3) pf
   cases k with
   | false=>exact⟨hlt,s3,st3,acc,vs,rfl,l'.trans (plus_le l3),w3,hq3,rl3,pf⟩
   | true=>
    rw[if_pos rfl] at pf
    obtain⟨w,st4,ew,pf⟩:=of_quiet pf
    rw[if_pos rfl]
    refine⟨B0,plus B p,s3,st3,u1,rfl,w3,sl2.mono' l3,?_⟩
    rw[ew]
    intro s4 v4 l4 w4 r4
    obtain⟨x4,ex,pf⟩:=PostF.of_of pf
    obtain⟨hz,pf⟩:=PostF.of_chk pf
    have hq4:s4.H p=some (.lst vs):=(l4.hid p (.inr rfl)).trans hq3
    have rl4:=rl3.mono l4.fr l4.io
    have rx:Rep P.G.R s4.F s4.io x4 v4:=by
     cases w with
     | val d=>cases ex;exact r4
     | _=>cases ex
    obtain⟨w5,l5⟩:=grow_wd (xs:=[]) (d:=.non) (v:=.non) w4 nb hq4 (.lst (vs++[v4]))
    exact⟨vs,hq4,by rw[←rl4.length];exact szl hz,hlt,_,st4,acc++[x4],vs++[v4],rfl,((l'.trans (plus_le l3)).trans (plus_le l4)).trans l5,w5,upd_same,rl4.append (.cons rx .nil),PostF.mono ((plus_le l4).trans l5) pf⟩
 ·left
  have e0:ds.drop i=[]:=List.drop_eq_nil_of_le hge
  rw[e0] at pf
  exact⟨im.stop s' l'.io l'.fr w'.sub i hge,pf s' p vs (Le.refl _) w' nb hq rl⟩
where
 wipe_wipe {z:L2.St} {vs:List Nat}:L2.wipe (L2.wipe z vs) vs=L2.wipe z vs:=by
  apply List.ext_getElem?
  intro i
  by_cases hi:i∈vs
  ·by_cases hl:i<z.length
   ·rw[wipe_in hi (by rw[wipe_length];exact hl),wipe_in hi hl]
   ·rw[List.getElem?_eq_none (by rw[wipe_length,wipe_length];omega),List.getElem?_eq_none (by rw[wipe_length];omega)]
  ·rw[wipe_out hi]
theorem mf_lc {elt tg iter:Expr} {ifs:List Expr} {scope:Scope} {own:List (Str×Nat)} {mi:FM} {g:GM} {gs:List Nat} {c:TM} {m:EM} (hc:Cool P.X) (hN:P.X.N.Nodup) (hi:MI P tg iter mi) (ok:BlkOk P.X.N P.X.env.scope scope own)
  (hg:∀(s:Shared) (H:Hp) (C:Addr) (cl:List (Str×Addr)) (fp:List Addr),CoolS P.X.A s H (frs P.X.stack) fp→MG (P.blk s H scope C cl fp) tg g gs) (ht:∀(s:Shared) (H:Hp) (C:Addr) (cl:List (Str×Addr)) (fp:List Addr),CoolS P.X.A s H (frs P.X.stack) fp→MIfs (P.blk s H scope C cl fp) ifs c)
  (he:∀(s:Shared) (H:Hp) (C:Addr) (cl:List (Str×Addr)) (fp:List Addr),CoolS P.X.A s H (frs P.X.stack) fp→ME (P.blk s H scope C cl fp) elt m) (hgs:∀i∈gs,i∈own.map (·.2):=by decide) (hs:∀x,foldedSetIterable iter P.X.env x=pure x:=by intro _;rfl) :
  MF P (.ListComp elt [⟨tg,iter,ifs,0⟩] scope pos) (fLc mi g c m (own.map (·.2))):=by
 obtain⟨ti,pi,hti⟩:=hi.out
 refine MF.mk' (pe_lc (own:=own) (g:=tG P.G P.hx g gs) (tt:=tT P.G P.hx noW c) (te:=tE P.G P.hx noW m) hc hN pi ok (fun s H C cl fp co=>(hg s H C cl fp co).pg) (fun s H C cl fp co=>(ht s H C cl fp co).pts) (fun s H C cl fp co=>(he s H C cl fp co).pe) hs) fun B0 B s st u z Q wd sl h=>?_
 exact lc_ok (tgt:=tg) (iter:=iter) (elt:=elt) (ifs:=ifs) hgs hti wd sl h
theorem ms_setLc {i:Nat} {y:Str} {py spos:Pos} {elt tg iter:Expr} {ifs:List Expr} {scope:Scope} {own:List (Str×Nat)} {mi:FM} {g:GM} {gs:List Nat} {c:TM} {m:EM} (hc:Cool P.X) (hN:P.X.N.Nodup) (hi:MI P tg iter mi) (ok:BlkOk P.X.N P.X.env.scope scope own)
  (hg:∀(s:Shared) (H:Hp) (C:Addr) (cl:List (Str×Addr)) (fp:List Addr),CoolS P.X.A s H (frs P.X.stack) fp→MG (P.blk s H scope C cl fp) tg g gs) (ht:∀(s:Shared) (H:Hp) (C:Addr) (cl:List (Str×Addr)) (fp:List Addr),CoolS P.X.A s H (frs P.X.stack) fp→MIfs (P.blk s H scope C cl fp) ifs c)
  (he:∀(s:Shared) (H:Hp) (C:Addr) (cl:List (Str×Addr)) (fp:List Addr),CoolS P.X.A s H (frs P.X.stack) fp→ME (P.blk s H scope C cl fp) elt m)
  (hsw:swapsWith (.ListComp elt [⟨tg,iter,ifs,0⟩] scope pos) (some (.Name y py)) spos.line P.X.env=pure true) (hy:P.X.N[i]?=some y:=by rfl) (hyl:P.X.env.scope.names.lookup y=some .local:=by rfl)
  (hgs:∀i∈gs,i∈own.map (·.2):=by decide) (hs:∀x,foldedSetIterable iter P.X.env x=pure x:=by intro _;rfl) :
  MS P (.Assign [.Name y py] (.ListComp elt [⟨tg,iter,ifs,0⟩] scope pos) spos) (sSet i (eF (fLc mi g c m (own.map (·.2))))):=by
 obtain⟨ti,pi,hti⟩:=hi.out
 refine MS.mk' (ps_setLc (own:=own) (g:=tG P.G P.hx g gs) (tt:=tT P.G P.hx noW c) (te:=tE P.G P.hx noW m) hc hN hy hyl hsw pi ok (fun s H C cl fp co=>(hg s H C cl fp co).pg) (fun s H C cl fp co=>(ht s H C cl fp co).pts) (fun s H C cl fp co=>(he s H C cl fp co).pe) hs) fun B0 B s o u z D b0 wd sl h=>?_
 refine lc_ok (tgt:=tg) (iter:=iter) (elt:=elt) (ifs:=ifs) hgs hti wd sl ?_
 unfold sSet eF M.bind at h
 cases e:fLc mi g c m (own.map (·.2)) u o with
 | ok xs st'=>
  rw[e] at h
  dsimp only[M.pure] at h
  exact fun s' p vs l w nb hp r=>h B ⟨s'.io,upd s'.F p (.lst vs),s'.H⟩ _ b0 ((l.trans (freeze_le w)).less b0) (freeze_wd w nb hp) ((sl.mono' (l.trans (freeze_le w))).set (.lst upd_same (r.mono (freeze_le w).fr (freeze_le w).io)) i)
 | err c x st'=>rw[e] at h;exact fun s' cv dd l w q=>h B s' z cv dd b0 (l.less b0) w (sl.mono' l) q
 | bad=>rw[e] at h;exact h
end
end M3
namespace M3
open PySem PySem.Spec PyProof.Rows L2
def mfn (N:Nat) (mb:SM):List D→M D:=fun ds st=>match mb (ds.map (fun d=>some (.val d))++List.replicate (N - ds.length) none) st with
 | .nx _ st'=>.ok .non st'
 | .rt (.val d) st'=>.ok d st'
 | .rt (.bor xs) st'=>.ok (.lst xs) st'
 | .err c x _ st'=>.err c x st'
 | _=>.bad
def spM (G:G3) (n:Nat) (m:List D→M D):Sp:=fun vs H Q E=>vs.length=n∧∃(B:Addr→Prop) (s:S3) (st:Store) (ds:List D),s.H=H∧Wd G B st s∧RepL G.R s.F s.io ds vs∧
 Post G B (fun s d v=>Rep G.R s.F s.io d v) E s Q (m ds st)
theorem slo_start {G:G3} {X:Hex} {B0 B:Addr→Prop} {s:S3} {N:List Str} {ds:List D} {vs:List V} (r:RepL G.R s.F s.io ds vs) :
  Slo G X B0 B s (ds.map (fun d=>some (.val d))++List.replicate (N.length - ds.length) none) (L2.start N vs):=by
 have hl:=r.length
 have none_:∀{i:Nat} {w:M3.W},(ds.map (fun d=>some (M3.W.val d))++List.replicate (N.length - ds.length) none)[i]?=some (some w)→∃d,ds[i]?=some d∧w=.val d:=fun {i w} e=>by
  by_cases hi:i<ds.length
  ·rw[List.getElem?_append_left (by simpa using hi),List.getElem?_map] at e
   cases h:ds[i]? with
   | none=>rw[h] at e;cases e
   | some d=>rw[h] at e;cases e;exact⟨d,rfl,rfl⟩
  ·rw[List.getElem?_append_right (by simpa using hi),List.getElem?_replicate] at e
   split at e <;> cases e
 refine⟨by unfold L2.start;simp[hl],fun _=>0,fun i w e=>?_,fun i j w w' o1 o2 e1 e2 _=>?_⟩
 ·obtain⟨d,e1,rfl⟩:=none_ e
  obtain⟨v,e2,rv⟩:=r.get e1
  refine⟨v,?_,rv,fun q=>by cases q⟩
  unfold L2.start
  have hi:i<vs.length:=(List.getElem?_eq_some_iff.mp e2).1
  rw[List.getElem?_append_left (by simpa using hi),List.getElem?_map,e2]
  rfl
 ·obtain⟨d,_,q⟩:=none_ e1
  subst q;cases o1
section
variable {P:Program} {w:World} {K:PySem.W.Frag} {mg:Str→Option Value} {base:Heap}
theorem fn_ok {G:G3} (hK:K=G.K) (hw:w=G.w) {x qual:Str} {st:Stmt} {f:Addr} {fd:FuncData} {N ps:List Str} {k:Nat} {mb:SM} (F:Fun K x qual st f fd) (S:FnScope N ps (defScope st))
  (h:∀(cdv:Value) (A:Around) (outer:List Env) (s:Shared) (H:Hp) (E:XK),Room k (cxOf (CXq P w) P w K mg base N qual (defScope st) f cdv A outer s H E)→
   MSs ⟨cxOf (CXq P w) P w K mg base N qual (defScope st) f cdv A outer s H E,G,none,fun cls d _ H=>E cls d H,hK,hw⟩ (defBody st) mb) :
  FnOk P w K mg base (CXq P w) (k+1) f fd ps (spM G ps.length (mfn N.length mb)):=by
 refine okX F S (fun vs H Q E h=>h.1) fun cdv A outer s0 H vs Q E hr ⟨hl,B,s,o,ds,e,wd,rl,hp⟩=>?_
 subst e
 obtain⟨t,pt,ht⟩:=(h cdv A outer s0 s.H E hr).out
 refine⟨t,pt,ht B B s o _ _ _ (fun _ b=>b) wd (slo_start (N:=N) rl) ?_⟩
 unfold mfn at hp
 have hlen:ds.map (fun d=>some (M3.W.val d))++List.replicate (N.length - ds.length) none=ds.map (fun d=>some (M3.W.val d))++List.replicate (N.length - ds.length) none:=rfl
 cases em:mb (ds.map (fun d=>some (.val d))++List.replicate (N.length - ds.length) none) o with
 | nx u' st'=>rw[em] at hp;exact fun B' s' z' b l w sl=>hp s' .non l (w.less b) .non
 | rt w st'=>
  rw[em] at hp
  cases w with
  | val d=>exact fun B' s' v b l w r=>hp s' v l (w.less b) r
  | bor xs=>
   rintro B' s' v b l w ⟨p,vs',rfl,bp,nb,hq,r⟩
   have w':Wd G (plus B p) st' s':=w.less fun a q=>q.elim (b a) fun z=>z▸bp
   exact hp ⟨s'.io,upd s'.F p (.lst vs'),s'.H⟩ (.ref p) (l.trans (freeze_le w')) (freeze_wd w' nb hq) (.lst upd_same (r.mono (freeze_le w').fr (freeze_le w').io))
  | bod ks us=>exact hp.elim
  | bdd ks us=>exact hp.elim
  | exn c x=>exact hp.elim
  | len xs=>exact hp.elim
 | bk u' st'=>rw[em] at hp;exact hp.elim
 | ct u' st'=>rw[em] at hp;exact hp.elim
 | err c x u' st'=>rw[em] at hp;exact fun B' s' z' cv dd b l w sl q=>hp s' cv dd l (w.less b) q
 | bad=>rw[em] at hp;exact hp.elim
end
def eCall (n:Nat) (m:List D→M D) (ma:AM):EM:=fun u=>M.bind (ma u) fun ws=>M.bind (M.of (asDs ws)) fun ds=>M.bind (M.chk (ds.length=n)) fun _=>M.bind (m ds) fun d=>M.pure (.val d)
section
variable {P:P3} {pos p:Pos} {x:Str} {e:Expr} {es:List Expr} {ma:AM} {m:List D→M D} {k j n:Nat} {f:Addr} {fd:FuncData} {ps:List Str}
structure Cal (Pg:Program) (w:World) (K:PySem.W.Frag) (mg:Str→Option Value) (base:Heap) (G:G3) (k:Nat) (x:Str) (n:Nat) (m:List D→M D):Prop where
 ex:∃f fd ps,mg x=some (.ref f)∧PySem.W.keepIn K (.ref f)=true∧Binds K fd ps []∧ps.length=n∧FnOk Pg w K mg base (CXq Pg w) k f fd ps (spM G n m)
theorem me_call (c:Cal P.X.prog P.X.w P.X.K P.X.mg P.X.base P.G k x n m) (hr:Room j P.X) (hk:k≤j) (tk:Takes P.X P.wx) (hg:Gl P.X x) (ha:MA P (e :: es) ma)
  (hdb:(x == ("__debug__" : Str))=false:=by decide) (he:starEach (e :: es) P.X.env=(false,eval e P.X.env) :: starEach es P.X.env:=by rfl) (hpl:(backTo pos (starEach es P.X.env)).any (·.1)=false:=by rfl) :
  ME P (.Call (.Name x p) (e :: es) [] pos) (eCall n m ma):=by
 obtain⟨f,fd,ps,hm,hkp,hb,hn,F⟩:=c.ex
 obtain⟨t,pt,ht⟩:=ha.out
 refine ME.mk' (pe_callS F (hr.mono hk) hg hm hkp hb (fun σ=>passAt tk σ) pt hdb he hpl) fun B0 B s st u z Q wd sl h=>ht B0 B s st u z _ wd sl (Post.bind h fun ws st1 s1 vs l1 wd1 r1 h1=>?_)
 obtain⟨ds,e,h1⟩:=Post.of_of h1
 obtain⟨hl,h1⟩:=Post.of_chk h1
 have rl:=asDs_ok r1 e
 refine⟨by rw[←rl.length];exact hl,B,s1,st1,ds,rfl,wd1,rl,?_⟩
 unfold M.bind at h1
 cases em:m ds st1 with
 | ok d st'=>rw[em] at h1;exact fun s' v l w r=>h1 s' v l w r
 | err c x st'=>rw[em] at h1;exact h1
 | bad=>rw[em] at h1;exact h1
end
def CallM (P:P3) (f:Value) (g:List W→Option W):Prop:=∃r,CallR P.X f r∧∀(B:Addr→Prop) (s:S3) (st:Store) (ws:List W) (w:W) (vs:List V) (Q:VK),Wd P.G B st s→RepWs P.G P.hx B s ws vs→
 g ws=some w→(∀(s':S3) (v:V),Le B s s'→Wd P.G B st s'→RepW P.G P.hx B s' w v→Q v s'.H)→r vs s.H Q
def CallF (P:P3) (f:Value) (g:List W→Option (List D)):Prop:=∃r,CallR P.X f r∧∀(B:Addr→Prop) (s:S3) (st:Store) (ws:List W) (xs:List D) (vs:List V) (Q:VK),Wd P.G B st s→RepWs P.G P.hx B s ws vs→
 g ws=some xs→(∀(us:List V) (p:Addr),RepL P.G.R s.F s.io xs us→s.H p=none→Q (.ref p) (upd s.H p (.lst us)))→r vs s.H Q
def eB (g:List W→Option W) (ma:AM):EM:=fun u=>M.bind (ma u) fun ws=>M.of (g ws)
def fB (g:List W→Option (List D)) (ma:AM):FM:=fun u=>M.bind (ma u) fun ws=>M.of (g ws)
section
variable {P:P3} {pos p:Pos} {x:Str} {e:Expr} {es:List Expr} {ma:AM} {id T:String} {g:List W→Option W} {gf:List W→Option (List D)}
theorem me_callB (hc:CallM P (.builtin id) g) (hg:Gl P.X x) (hm:P.X.mg x=none) (hv:bootBuiltins x=some (.builtin id)) (ha:MA P (e :: es) ma) (hn:x≠"__name__":=by decide) (hdb:(x == ("__debug__" : Str))=false:=by decide)
  (he:starEach (e :: es) P.X.env=(false,eval e P.X.env) :: starEach es P.X.env:=by rfl) (hpl:(backTo pos (starEach es P.X.env)).any (·.1)=false:=by rfl):ME P (.Call (.Name x p) (e :: es) [] pos) (eB g ma):=by
 obtain⟨t,pt,ht⟩:=ha.out
 obtain⟨r,hr,hq⟩:=hc
 refine ME.mk' (pe_callB hr hg hm hv pt hn hdb he hpl) fun B0 B s st u z Q wd sl h=>ht B0 B s st u z _ wd sl (Post.bind h fun ws st1 s1 vs l1 wd1 r1 h1=>?_)
 obtain⟨w,e,h1⟩:=of_eq h1
 exact hq B s1 st1 ws w vs Q wd1 r1 e fun s' v l w' r=>h1 s' v l w' r
theorem me_callTy (hc:CallM P (.type T) g) (hg:Gl P.X x) (hm:P.X.mg x=none) (hv:bootBuiltins x=some (.type T)) (ha:MA P (e :: es) ma) (hn:x≠"__name__":=by decide) (hdb:(x == ("__debug__" : Str))=false:=by decide)
  (he:starEach (e :: es) P.X.env=(false,eval e P.X.env) :: starEach es P.X.env:=by rfl) (hpl:(backTo pos (starEach es P.X.env)).any (·.1)=false:=by rfl):ME P (.Call (.Name x p) (e :: es) [] pos) (eB g ma):=by
 obtain⟨t,pt,ht⟩:=ha.out
 obtain⟨r,hr,hq⟩:=hc
 refine ME.mk' (pe_callTy hr hg hm hv pt hn hdb he hpl) fun B0 B s st u z Q wd sl h=>ht B0 B s st u z _ wd sl (Post.bind h fun ws st1 s1 vs l1 wd1 r1 h1=>?_)
 obtain⟨w,e,h1⟩:=of_eq h1
 exact hq B s1 st1 ws w vs Q wd1 r1 e fun s' v l w' r=>h1 s' v l w' r
theorem mf_callTy (hc:CallF P (.type T) gf) (hg:Gl P.X x) (hm:P.X.mg x=none) (hv:bootBuiltins x=some (.type T)) (ha:MA P (e :: es) ma) (hn:x≠"__name__":=by decide) (hdb:(x == ("__debug__" : Str))=false:=by decide)
  (he:starEach (e :: es) P.X.env=(false,eval e P.X.env) :: starEach es P.X.env:=by rfl) (hpl:(backTo pos (starEach es P.X.env)).any (·.1)=false:=by rfl):MF P (.Call (.Name x p) (e :: es) [] pos) (fB gf ma):=by
 obtain⟨t,pt,ht⟩:=ha.out
 obtain⟨r,hr,hq⟩:=hc
 refine MF.mk' (pe_callTy hr hg hm hv pt hn hdb he hpl) fun B0 B s st u z Q wd sl h=>ht B0 B s st u z _ wd sl (PostF.bind h fun ws st1 s1 vs l1 wd1 r1 h1=>?_)
 cases e:gf ws with
 | none=>rw[e] at h1;exact h1.elim
 | some xs=>rw[e] at h1;exact hq B s1 st1 ws xs vs Q wd1 r1 e fun us p rl hp=>PostF.fresh h1 wd1 rl hp
def lenF:List W→Option W
 | [.val (.str z)]=>if z.length≤1000000 then some (.val (.int z.length)) else none
 | [w]=>(w.rd.bind D.items).map fun xs=>.val (.int xs.length)
 | _=>none
theorem cm_len:CallM P (.builtin "len") lenF:=by
 have hS:CallR P.X (.builtin "len") _:=call_len_str
 have hQ:CallR P.X (.builtin "len") _:=call_len_seq
 refine⟨fun xs H Q=>(∃z,xs=[.str z]∧z.length≤sizeLine∧Q (.int z.length) H)∨∃p ys,xs=[.ref p]∧(SqL P.X.K H p ys∨SqT P.X.K H p ys)∧Q (.int ys.length) H,?_,fun B s st ws w vs Q wd r e k=>?_⟩
 ·intro pins s z H xs us Q I r h
  rcases h with h | h
  ·exact hS pins s z H xs us Q I r h
  ·exact hQ pins s z H xs us Q I r h
 ·unfold lenF at e
  split at e
  ·split at e
   ·rename_i hz
    cases e
    cases r with
    | cons r rr=>cases rr;cases r;exact .inl ⟨_,rfl,szL hz,k s _ (Le.refl _) wd .int⟩
   ·cases e
  ·rename_i w0 _
   cases r with
   | cons r rr=>
    cases rr
    cases h1:w0.rd with
    | none=>rw[h1] at e;cases e
    | some d=>
     rw[h1,Option.bind_some] at e
     cases h2:d.items with
     | none=>rw[h2] at e;cases e
     | some xs=>
      rw[h2] at e
      cases e
      obtain⟨p,us,rfl,hq,rl⟩:=items_ok wd r h1 h2
      exact .inr ⟨p,us,rfl,hq,by rw[←rl.length];exact k s _ (Le.refl _) wd .int⟩
  ·cases e
def intCF:List W→Option W
 | [.val (.int i)]=>some (.val (.int i))
 | [.val (.bl b)]=>some (.val (.int (if b then 1 else 0)))
 | [.val (.str x)]=>if x.length≤640 then (PySem.intText? x).map fun i=>.val (.int i) else none
 | _=>none
theorem cr_int:CallR P.X (.type "int") (fun xs H Q=>((∃i,xs=[.int i]∧Q (.int i) H)∨∃k,xs=[.bl k]∧Q (.int (if k then 1 else 0)) H)∨∃x i,xs=[.str x]∧x.length≤640∧PySem.intText? x=some i∧Q (.int i) H):=by
 have old:CallR P.X (.type "int") _:=call_int1
 intro pins s σ H xs us Q I r h
 rcases h with h | ⟨x,i,rfl,hl,hn,q⟩
 ·exact old pins s σ H xs us Q I r h
 ·obtain⟨u,rfl,t,rfl⟩:=vals1 r
  exact PySem.W.KIN.call_text hn hl ⟨.int i,H,I.tok _,⟨_,rfl⟩,q⟩
theorem cm_int:CallM P (.type "int") intCF:=by
 refine⟨_,cr_int,fun B s st ws w vs Q wd r e k=>?_⟩
 unfold intCF at e
 split at e
 ·cases e
  cases r with
  | cons r rr=>cases rr;cases r;exact .inl (.inl ⟨_,rfl,k s _ (Le.refl _) wd .int⟩)
 ·cases e
  cases r with
  | cons r rr=>cases rr;cases r;exact .inl (.inr ⟨_,rfl,k s _ (Le.refl _) wd .int⟩)
 ·rename_i x
  split at e
  ·rename_i hl
   cases hn:PySem.intText? x with
   | none=>rw[hn] at e;cases e
   | some i=>
    rw[hn] at e
    cases e
    cases r with
    | cons r rr=>cases rr;cases r;exact .inr ⟨x,i,rfl,hl,hn,k s _ (Le.refl _) wd .int⟩
  ·cases e
 ·cases e
def tupCF:List W→Option W
 | [.val (.ctup xs)]=>some (.val (.ctup xs))
 | [w]=>(w.rd.bind D.items).map fun xs=>.val (.tup xs)
 | _=>none
theorem cm_tuple:CallM P (.type "tuple") tupCF:=by
 refine⟨_,call_tupleZ,fun B s st ws w vs Q wd r e k=>?_⟩
 unfold tupCF at e
 split at e
 ·cases e
  cases r with
  | cons r rr=>
   cases rr
   cases r with
   | ctup hq rl=>exact⟨_,_,rfl,.inr ⟨by rw[P.hK];exact same_sqT wd.sub hq,k s _ (Le.refl _) wd (.ctup hq rl)⟩⟩
 ·rename_i w0 nc
  cases r with
  | cons r rr=>
   cases rr
   cases h1:w0.rd with
   | none=>rw[h1] at e;cases e
   | some d=>
    rw[h1,Option.bind_some] at e
    cases h2:d.items with
    | none=>rw[h2] at e;cases e
    | some xs=>
     rw[h2] at e
     cases e
     have fresh:∀{us:List V},RepL P.G.R s.F s.io xs us→NewT us s.H Q:=fun {us} rl=>wd.newT rl fun s' v l w r=>k s' v l w r
     cases w0 with
     | val d'=>
      cases h1
      cases r with
      | tup hq rl=>cases h2;exact⟨_,_,rfl,.inr ⟨(hq.mono wd.sub).sq,k s _ (Le.refl _) wd (.tup hq rl)⟩⟩
      | ctup hq rl=>exact absurd rfl (nc _)
      | lst hq rl=>cases h2;exact⟨_,_,rfl,.inl ⟨.inl (.inl (wd.sub _ _ hq)),fresh rl⟩⟩
      | ro hq rl=>cases h2;exact⟨_,_,rfl,.inl ⟨by rw[P.hK];exact same_sqL wd.sub hq,fresh rl⟩⟩
      | _=>cases h2
     | bor ys=>
      cases h1
      cases h2
      obtain⟨p,us,rfl,_,hq,rl⟩:=r
      exact⟨p,us,rfl,.inl ⟨.inl (.inl hq),fresh rl⟩⟩
     | bod ks us=>cases h1
     | bdd ks us=>cases h1
     | exn c x=>cases h1
     | len ys=>
      cases h1
      cases h2
      obtain⟨p,us,o,rfl,_,hq,rl⟩:=r
      exact⟨p,us,rfl,.inl ⟨.inl (.inr ⟨o,hq⟩),fresh rl⟩⟩
 ·cases e
def lstCF:List W→Option (List D)
 | [w]=>w.rd.bind D.items
 | _=>none
theorem cf_list:CallF P (.type "list") lstCF:=by
 refine⟨_,call_list_of,fun B s st ws xs vs Q wd r e k=>?_⟩
 unfold lstCF at e
 split at e
 ·rename_i w0
  cases r with
  | cons r rr=>
   cases rr
   cases h1:w0.rd with
   | none=>rw[h1] at e;cases e
   | some d=>
    rw[h1,Option.bind_some] at e
    obtain⟨p,us,rfl,hq,rl⟩:=items_ok wd r h1 e
    exact⟨p,us,rfl,hq,fun l hl=>k us l rl hl⟩
 ·cases e
def D.tyn:D→Option String
 | .non=>some "NoneType"
 | .bl _=>some "bool"
 | .int _=>some "int"
 | .str _=>some "str"
 | .tup _=>some "tuple"
 | .ctup _=>some "tuple"
 | .lst _=>some "list"
 | .dict _ _=>some "dict"
 | _=>none
def isiF:List W→Option W
 | [x,.val (.ty T)]=>(x.rd.bind D.tyn).bind fun t=>(kitB t T).map fun b=>.val (.bl b)
 | _=>none
theorem tyn_ok {d:D} {v:V} {t:String} {F:Hp} {io:Io} (r:Rep P.G.R F io d v) (e:d.tyn=some t):TyX P.X.K F v (.type t):=by
 rw[P.hK]
 cases r with
 | non=>cases e;exact .base .non
 | bl=>cases e;exact .base (.bl _)
 | int=>cases e;exact .base (.int _)
 | str=>cases e;exact .base (.str _)
 | tup hq rl=>cases e;obtain⟨o,hq,_⟩:=hq;exact .fTuple hq
 | dict hq _ _=>cases e;exact .fDict hq
 | ctup hq rl=>
  cases e
  rcases hq with (hq | ⟨o,hq⟩) | ⟨o,its,n,h1,h2,_⟩
  ·exact .base (.tup hq)
  ·exact .fTuple hq
  ·exact .kTuple h1 h2
 | lst hq rl=>cases e;exact .base (.lst hq)
 | _=>cases e
theorem cm_isi:CallM P (.builtin "isinstance") isiF:=by
 refine⟨_,call_isi,fun B s st ws w vs Q wd r e k=>?_⟩
 unfold isiF at e
 split at e
 ·rename_i x0 T
  cases r with
  | cons r rr=>
   cases rr with
   | cons r2 rr=>
    cases rr
    cases r2
    cases h1:x0.rd with
    | none=>rw[h1] at e;cases e
    | some d=>
     rw[h1,Option.bind_some] at e
     cases h2:d.tyn with
     | none=>rw[h2] at e;cases e
     | some t=>
      rw[h2,Option.bind_some] at e
      cases h3:kitB t T with
      | none=>rw[h3] at e;cases e
      | some b=>
       rw[h3] at e
       cases e
       exact⟨_,_,.type t,.type T,b,rfl,.ty T,tyn_ok (rd_ok wd r h1) h2,kit_ty h3,k s _ (Le.refl _) wd .bl⟩
 ·cases e
end
end M3
namespace M3
open PySem PySem.Spec PyProof.Rows L2
abbrev PM:=Sl3→M (Option Int)
def pNone:PM:=fun _=>M.pure none
def pSome (m:EM):PM:=fun u=>M.bind (m u) fun w=>match w with
 | .val (.int i)=>M.pure (some i)
 | _=>M.bad
structure MP (P:P3) (e:Option Expr) (m:PM):Prop where
 out:∃t,PO P.X e t∧∀(B0 B:Addr→Prop) (s:S3) (st:Store) (u:Sl3) (z:L2.St) (Q:Option Int→Hp→Prop),Wd P.G B st s→Slo P.G P.hx B0 B s u z→
  Post P.G B (fun _ a b=>a=b) (fun c d H=>P.wx c d z H) s Q (m u st)→t z s.H Q
section
variable {P:P3} {pos p2:Pos} {e:Expr} {m:EM} {lo hi:Option Expr} {ml mh:PM}
theorem mp_none:MP P none pNone:=⟨_,po_none,fun B0 B s st u z Q wd sl h=>h.pure wd rfl⟩
theorem mp_some (he:ME P e m):MP P (some e) (pSome m):=by
 obtain⟨t,pt,ht⟩:=he.out
 refine⟨_,po_some pt,fun B0 B s st u z Q wd sl h=>ht B0 B s st u z _ wd sl (Post.bind h fun w st1 s1 v l1 wd1 r1 h1=>?_)⟩
 split at h1
 ·cases r1;exact⟨_,rfl,h1.pure wd1 rfl⟩
 ·exact h1.elim
def cutD {α:Type} (xs:List α) (lo hi:Option Int):List α:=(xs.drop (HT.sIx xs.length 0 lo)).take (HT.sIx xs.length xs.length hi - HT.sIx xs.length 0 lo)
theorem cut_rep {K:KW} {F:Hp} {io:Io} {xs:List D} {vs:List V} (r:RepL K F io xs vs) (lo hi:Option Int):RepL K F io (cutD xs lo hi) (cutV vs lo hi):=by
 unfold cutD cutV
 rw[r.length]
 exact(r.drop _).take _
def slF (x:W) (lo hi:Option Int):Option W:=match x with
 | .val (.str z)=>if z.length≤1000000 then some (.val (.str (cutS z lo hi))) else none
 | .val (.tup xs)=>some (.val (.tup (cutD xs lo hi)))
 | _=>none
def eSlA (m:EM) (l h:PM):EM:=fun u=>M.bind (m u) fun x=>M.bind (l u) fun a=>M.bind (h u) fun b=>match x.ls with
 | some xs=>M.pure (.val (.lst (cutD xs a b)))
 | none=>M.of (slF x a b)
theorem cut_all {α:Type} {xs:List α} {lo hi:Option Int} (h:HT.sIx xs.length 0 lo=0∧HT.sIx xs.length xs.length hi=xs.length):cutD xs lo hi=xs:=by
 unfold cutD
 rw[h.1,h.2]
 simp
theorem me_sl (he:ME P e m) (hl:MP P lo ml) (hh:MP P hi mh):ME P (.Subscript e (.Slice lo hi none p2) pos) (eSlA m ml mh):=by
 obtain⟨t,pt,ht⟩:=he.out
 obtain⟨tl,pl,htl⟩:=hl.out
 obtain⟨th,ph,hth⟩:=hh.out
 refine ME.mk' (pe_slice (sl_str.or (sl_tupZ.or sl_list)) pt pl ph) fun B0 B s st u z Q wd sl h=>ht B0 B s st u z _ wd sl (Post.bind h fun w st1 s1 v l1 wd1 r1 h1=>?_)
 refine htl B0 B s1 st1 u z _ wd1 (sl.mono' l1) (Post.bind h1 fun a st2 s2 a' l2 wd2 ra h2=>?_)
 subst ra
 refine hth B0 B s2 st2 u z _ wd2 (sl.mono' (l1.trans l2)) (Post.bind h2 fun b st3 s3 b' l3 wd3 rb h3=>?_)
 subst rb
 have r3:=r1.mono (l2.trans l3)
 cases e1:w.ls with
 | some xs=>
  rw[e1] at h3
  obtain⟨p,vs,rfl,hp,rl⟩:=ls_ok wd3 r3 e1
  refine .inr (.inr ⟨p,vs,rfl,.inl (.inl hp),fun q hq=>?_⟩)
  obtain⟨wd4,l4⟩:=wd3.froz hq (.lst (cutV vs a b))
  exact h3 (s3.froz q (.lst (cutV vs a b))) (.ref q) l4 wd4 (.lst upd_same ((cut_rep rl a b).mono l4.fr l4.io))
 | none=>
  rw[e1] at h3
  clear e1
  obtain⟨w',e1,h3⟩:=of_eq h3
  unfold slF at e1
  split at e1
  ·split at e1
   ·rename_i hz
    cases e1
    cases r3
    exact .inl ⟨_,rfl,szL hz,h3.pure wd3 .str⟩
   ·cases e1
  ·rename_i xs _
   cases e1
   cases r3 with
   | tup hq rl=>
    refine .inr (.inl ⟨_,_,rfl,(hq.mono wd3.sub).sq,fun hw=>?_,fun hw=>?_⟩)
    ·rw[←rl.length] at hw
     have h3:=h3
     rw[cut_all hw] at h3
     exact h3.pure wd3 (.tup hq rl)
    ·exact wd3.newT (cut_rep rl a b) fun s' v l w r=>h3 s' v l w r
  ·cases e1
def sApp (i:Nat) (m:EM):SM:=fun u st=>match u[i]? with
 | some (some (.bor xs))=>match m u st with
  | .ok (.val d) st'=>if xs.length<1000000 then .nx (u.set i (some (.bor (xs++[d])))) st' else .bad
  | .ok _ _=>.bad
  | .err c x st'=>.err c x u st'
  | .bad=>.bad
 | _=>.bad
theorem own_unlocked {G:G3} {X:Hex} {B:Addr→Prop} {s:S3} {w:M3.W} {p q:Addr} {o:Obj} {vs:List V} (ow:w.own=true) (r:RepW G X B s w (.ref p)) (h:s.H q=some (.frz o (.lst vs))):q≠p:=fun e=>by
 subst e
 cases w with
 | bor xs=>obtain⟨p',vs',e,b,h',_⟩:=r;cases e;rw[h] at h';cases h'
 | bod ks us=>obtain⟨p',vs',e,b,h',_⟩:=r;cases e;rw[h] at h';cases h'
 | bdd ks us=>obtain⟨p',vs',e,b,h',_⟩:=r;cases e;rw[h] at h';cases h'
 | _=>cases ow
theorem Slo.changeW {G:G3} {X:Hex} {B0 B:Addr→Prop} {s:S3} {u:Sl3} {z:L2.St} {i:Nat} {w0:W} {st:Store} (h:Slo G X B0 B s u z) (wd:Wd G B st s) (e:u[i]?=some (some w0)) (o0:w0.own=true) :
  ∃p,z[i]?=some (some (.ref p))∧B p∧¬B0 p∧RepW G X B s w0 (.ref p)∧∀(w':W) (ho:HO),w'.own=true→RepW G X B ⟨s.io,s.F,upd s.H p ho⟩ w' (.ref p)→
   Slo G X B0 B ⟨s.io,s.F,upd s.H p ho⟩ (u.set i (some w')) z∧Wd G B st ⟨s.io,s.F,upd s.H p ho⟩∧Le B0 s ⟨s.io,s.F,upd s.H p ho⟩:=by
 obtain⟨hl,ow,h1,h2⟩:=h
 obtain⟨v,e1,rw0,q⟩:=h1 i _ e
 obtain⟨e3,nb⟩:=q o0
 subst e3
 obtain⟨p,e3,bp⟩:=own_ref o0 rw0
 injection e3 with e3
 have hF:=(wd.hid p bp).1
 refine⟨p,by rw[←e3];exact e1,bp,by rw[←e3];exact nb,by rw[←e3];exact rw0,fun w' ho o' ru=>⟨⟨by simpa using hl,ow,fun j w ej=>?_,fun j k wj wk oj ok q1 q2 q3=>?_⟩,⟨fun b o eb=>?_,fun a ba=>?_,wd.ftb,wd.dom,wd.inj,fun k o ek t=>?_,wd.untM (IoLe.refl _) (Same.refl _),wd.tabM (Same.refl _) (upd_tbl (wd.ntbl bp))⟩,IoLe.refl _,Same.refl _,fun a ba=>?_⟩⟩
 ·rcases get_set ej with⟨rfl,rfl⟩ | ⟨ne,ej⟩
  ·exact⟨.ref p,by rw[←e3];exact e1,ru,fun q'=>⟨by rw[e3],nb⟩⟩
  ·obtain⟨v,ev,rv,qv⟩:=h1 j w ej
   refine⟨v,ev,?_,qv⟩
   have away:w.own=true→∀p',v=.ref p'→p'≠p:=fun ow' p' e' z=>by
    obtain⟨e4,_⟩:=qv ow'
    rw[e'] at e4
    injection e4 with e4
    exact ne (h2 i j w0 w o0 ow' e ej (by rw[e3,←e4,z]))
   cases w with
   | val d=>exact rv
   | exn c x=>exact rv
   | bor xs'=>
    obtain⟨p',vs',rfl,b',hp',rl'⟩:=rv
    exact⟨p',vs',rfl,b',(upd_ne (away rfl p' rfl)).trans hp',rl'⟩
   | bod ks us=>
    obtain⟨p',vs',rfl,b',hp',rl'⟩:=rv
    exact⟨p',vs',rfl,b',(upd_ne (away rfl p' rfl)).trans hp',rl'⟩
   | bdd ks us=>
    obtain⟨p',vs',rfl,b',hp',rl'⟩:=rv
    exact⟨p',vs',rfl,b',(upd_ne (away rfl p' rfl)).trans hp',rl'⟩
   | len ys=>
    obtain⟨p',vs',o,rfl,b',hp',rl'⟩:=rv
    exact⟨p',vs',o,rfl,b',(upd_ne (by rw[←e3];exact own_unlocked o0 rw0 hp')).trans hp',rl'⟩
 ·have old:∀{j:Nat} {w1:M3.W},w1.own=true→(u.set i (some w'))[j]?=some (some w1)→∃w2:M3.W,w2.own=true∧u[j]?=some (some w2):=fun {j w1} o1 q=>by
   rcases get_set q with⟨rfl,_⟩ | ⟨_,q⟩
   ·exact⟨w0,o0,e⟩
   ·exact⟨w1,o1,q⟩
  obtain⟨a1,oa1,q1⟩:=old oj q1
  obtain⟨a2,oa2,q2⟩:=old ok q2
  exact h2 j k a1 a2 oa1 oa2 q1 q2 q3
 ·show upd s.H p _ b=some o
  rw[upd_ne (fun z=>by subst z;have eb:s.F b=some o:=eb;rw[hF] at eb;cases eb)]
  exact wd.sub b o eb
 ·obtain⟨a1,o,a2,a3⟩:=wd.hid a ba
  by_cases q:a=p
  ·subst q
   have hh:upd s.H a ho a=some ho:=upd_same
   refine⟨a1,_,upd_same,?_⟩
   cases w' with
   | bor xs=>obtain⟨p',vs,e',_,h',_⟩:=ru;cases e';have h':upd s.H a ho a=_:=h';rw[hh] at h';cases h';exact⟨fun _ q=>(by cases q),fun _ _ q=>(by first | exact dkO_code q | exact cellO_code q | (unfold LamX.CodeO at q;cases q))⟩
   | bod ks us=>obtain⟨p',vs,e',_,h',_⟩:=ru;cases e';have h':upd s.H a ho a=_:=h';rw[hh] at h';cases h';exact⟨fun _ q=>(by cases q),fun _ _ q=>(by first | exact dkO_code q | exact cellO_code q | (unfold LamX.CodeO at q;cases q))⟩
   | bdd ks us=>obtain⟨p',vs,e',_,h',_⟩:=ru;cases e';have h':upd s.H a ho a=_:=h';rw[hh] at h';cases h';exact⟨fun _ q=>(by cases q),fun _ _ q=>(by first | exact dkO_code q | exact cellO_code q | (unfold LamX.CodeO at q;cases q))⟩
   | _=>cases o'
  ·exact⟨a1,o,(upd_ne q).trans a2,a3⟩
 ·obtain⟨a,a1,a2,a3,a4⟩:=wd.obj k o ek t
  have na:a≠p:=fun z=>a2 (z▸bp)
  exact⟨a,a1,a2,a3,ObjR.mono (s:=s) (s':=⟨s.io,s.F,upd s.H p ho⟩) (IoLe.refl _) (Same.refl _) (upd_ne na) a4⟩
 ·exact upd_ne fun z=>nb (by rw[e3,←z];exact ba)
theorem Slo.change {G:G3} {X:Hex} {B0 B:Addr→Prop} {s:S3} {u:Sl3} {z:L2.St} {i:Nat} {xs ys:List D} {st:Store} (h:Slo G X B0 B s u z) (wd:Wd G B st s) (e:u[i]?=some (some (.bor xs))) :
  ∃p vs,z[i]?=some (some (.ref p))∧B p∧¬B0 p∧s.H p=some (.lst vs)∧RepL G.R s.F s.io xs vs∧∀us,RepL G.R s.F s.io ys us→
   Slo G X B0 B ⟨s.io,s.F,upd s.H p (.lst us)⟩ (u.set i (some (.bor ys))) z∧Wd G B st ⟨s.io,s.F,upd s.H p (.lst us)⟩∧Le B0 s ⟨s.io,s.F,upd s.H p (.lst us)⟩:=by
 obtain⟨p,ez,bp,nb,⟨p',vs,e',b',hp,rl⟩,ch⟩:=h.changeW wd e rfl
 cases e'
 exact⟨p,vs,ez,bp,nb,hp,rl,fun us ru=>ch (.bor ys) (.lst us) rfl ⟨p,us,rfl,bp,upd_same,ru⟩⟩
theorem ms_app (i:Nat) {x:Str} {px apos cpos:Pos} (he:ME P e m) (hN:P.X.N[i]?=some x:=by rfl) (hv:Vis P.X.env.scope x:=by first | exact Or.inl rfl | exact Or.inr (Or.inl rfl) | exact Or.inr (Or.inr rfl)) (hd:(x == ("__debug__" : Str))=false:=by decide)
  (hcd:(x == ("__classdict__" : Str))=false:=by decide) (hst:starEach [e] P.X.env=(false,eval e P.X.env) :: starEach [] P.X.env:=by rfl)
  (hbase:attributeBase (.Name x px) "append" P.X.env (eval (.Name x px) P.X.env)=eval (.Name x px) P.X.env:=by rfl)
  (hfew:((backTo cpos (starEach [e] P.X.env)).all (fun x=>!x.1) && (backToKw cpos (keywordEach [] P.X.env)).all (fun x=>x.1.isSome) && decide (([e]:List Expr).length+([]:List Keyword).length+(if ([]:List Keyword).isEmpty then 0 else 1)<30))=true:=by rfl)
  (hline:(apos.endLine == cpos.line)=true:=by rfl) (hplain:(backTo cpos (starEach [] P.X.env)).any (·.1)=false:=by rfl)
  (hs:swapsWith (.Call (.Attribute (.Name x px) "append" apos) [e] [] cpos) none pos.line P.X.env=pure false:=by rfl) :
  MS P (.Expr (.Call (.Attribute (.Name x px) "append" apos) [e] [] cpos) pos) (sApp i m):=by
 obtain⟨t,pt,ht⟩:=he.out
 refine MS.mk' (ps_expr (pe_bm PySem.F.plainAttrs_list PySem.F.slot_list_append PySem.F.type_list_append mt_append (pe_var hN hv hd hcd) (pa_cons pt pa_nil hst) hbase hfew hline hst hplain) hs) fun B0 B s o u z D b0 wd sl h=>?_
 unfold sApp at h
 split at h
 ·rename_i xs e1
  obtain⟨p,vs,e2,bp,nb,hp,rl,_⟩:=sl.change (ys:=[]) wd e1
  refine⟨.ref p,e2,.inl ⟨rfl,vs,.inl (.inl hp)⟩,ht B0 B s o u z _ wd sl ?_⟩
  cases em:m u o with
  | bad=>rw[em] at h;exact h
  | err c x st'=>rw[em] at h;exact fun s' cv dd l w q=>h B s' z cv dd b0 (l.less b0) w (sl.mono' l) q
  | ok w st'=>
   rw[em] at h
   cases w with
   | bor xs=>exact h.elim
   | bod ks us=>exact h.elim
   | bdd ks us=>exact h.elim
   | exn c x=>exact h.elim
   | len xs=>exact h.elim
   | val d=>
    dsimp only at h
    split at h
    ·rename_i hz
     intro s' v l w r
     obtain⟨p',vs',e2',bp',nb',hp',rl',ch⟩:=(sl.mono' l).change (ys:=xs++[d]) w e1
     rw[e2] at e2';cases e2'
     obtain⟨sl2,w2,l2⟩:=ch (vs'++[v]) (rl'.append (.cons r .nil))
     exact⟨p,vs',v,rfl,rfl,hp',by rw[←rl'.length];exact szl hz,h B _ z b0 ((l.less b0).trans l2) w2 sl2⟩
    ·exact h.elim
 ·exact h.elim
end
end M3
namespace M3
open PySem PySem.Spec PyProof.Rows L2
def rInT (K:PySem.W.Frag):R2:=fun x y H Q=>∃d ds,Dp K H x d∧Dp K H y (.tuple ds)∧SeqAt.shaped d=true∧SeqAt.shaped (.tuple ds)=true∧Q (.bl (ds.any fun z=>PyData.eqv z d)) H
def rNotInT (K:PySem.W.Frag):R2:=fun x y H Q=>∃d ds,Dp K H x d∧Dp K H y (.tuple ds)∧SeqAt.shaped d=true∧SeqAt.shaped (.tuple ds)=true∧Q (.bl (!ds.any fun z=>PyData.eqv z d)) H
section
variable {X:Cx}
theorem op_inT (hu:X.A.units+65<cLine):OpR X (compareOp .In) (rInT X.K):=by
 rintro pins now σ H x y v u Q inv rx ry ⟨d,ds,dx,dy,shx,shy,q⟩
 obtain⟨_,readsx⟩:=Dp.reads inv d x v dx rx
 obtain⟨_,readsy⟩:=Dp.reads inv _ y u dy ry
 exact SeqAt.in_tuple_reads readsy readsx (SeqAt.canLay_of_shaped shy) (SeqAt.canLay_of_shaped shx) (room_in_shaped shx hu) ⟨V.bl _,H,inv,rfl,q⟩
theorem op_notInT (hu:X.A.units+65<cLine):OpR X (compareOp .NotIn) (rNotInT X.K):=by
 rintro pins now σ H x y v u Q inv rx ry ⟨d,ds,dx,dy,shx,shy,q⟩
 obtain⟨_,readsx⟩:=Dp.reads inv d x v dx rx
 obtain⟨_,readsy⟩:=Dp.reads inv _ y u dy ry
 exact SeqAt.notIn_tuple_reads readsy readsx (SeqAt.canLay_of_shaped shy) (SeqAt.canLay_of_shaped shx) (room_in_shaped shx hu) ⟨V.bl _,H,inv,rfl,q⟩
theorem op_dinV (hu:X.A.units+1<cLine):OpR X (compareOp .In) (fun y x H Q=>∃a o,x=.ref a∧DGet H a y o∧Q (.bl o.isSome) H):=by
 intro pins s σ H y x u v Q I ry rx h
 obtain⟨a,o,rfl,g,q⟩:=h
 cases rx
 exact d_in hu I g ry fun s' I'=>⟨.bl _,H,I',rfl,q⟩
theorem op_dnotInV (hu:X.A.units+1<cLine):OpR X (compareOp .NotIn) (fun y x H Q=>∃a o,x=.ref a∧DGet H a y o∧Q (.bl (!o.isSome)) H):=by
 intro pins s σ H y x u v Q I ry rx h
 obtain⟨a,o,rfl,g,q⟩:=h
 cases rx
 exact d_notIn hu I g ry fun s' I'=>⟨.bl _,H,I',rfl,q⟩
end
def D.key:D→Option Key
 | .int i=>some (.inl i)
 | .str x=>some (.inr x)
 | _=>none
def D.keys:List D→Option (List Key)
 | []=>some []
 | d :: ds=>match d.key,D.keys ds with
  | some k,some ks=>some (k :: ks)
  | _,_=>none
def atK {κ:Type} [DecidableEq κ]:List κ→List D→κ→Option D
 | k :: ks,d :: ds,x=>if k=x then some d else atK ks ds x
 | _,_,_=>none
def setK3 {κ:Type} [DecidableEq κ]:List κ→List D→κ→D→List D
 | k :: ks,d :: ds,x,y=>(if k=x then y else d) :: setK3 ks ds x y
 | _,ds,_,_=>ds
def putK3 {κ:Type} [DecidableEq κ] (ks:List κ) (ds:List D) (x:κ) (y:D):List κ×List D:=if x∈ks then (ks,setK3 ks ds x y) else (ks++[x],ds++[y])
def dgetF (d k:D):Option (Option D):=match d,k with
 | .dict ks us,k=>k.key.map fun x=>atK ks us x
 | _,_=>none
inductive DAt (K:KW) (io:Io) (F H:Hp) (a:Addr):D→Prop where
 | k {kvs:List (Key×V)} {us:List D}:Rd H a (.dK kvs)→RepL K F io us (kvs.map (·.2))→DAt K io F H a (.dict (kvs.map (·.1)) us)
section
variable {K:KW} {F H:Hp} {io:Io}
theorem atK_ok {κ:Type} [DecidableEq κ] (x:κ):∀{kvs:List (κ×V)} {us:List D},RepL K F io us (kvs.map (·.2))→(∀d,atK (kvs.map (·.1)) us x=some d→∃v,valV kvs x=some v∧Rep K F io d v)∧(atK (kvs.map (·.1)) us x=none→valV kvs x=none)
 | [],_,rl=>by
  cases rl
  exact⟨fun d h=>(by cases h),fun _=>rfl⟩
 | (k,v) :: kvs,[],rl=>by cases rl
 | (k,v) :: kvs,d :: us,rl=>by
  obtain⟨r,t⟩:Rep K F io d v∧RepL K F io us (kvs.map (·.2)):=by
   cases rl with
   | cons r t=>exact⟨r,t⟩
  have ih:=atK_ok x t
  have e1:valV ((k,v) :: kvs) x=if k=x then some v else valV kvs x:=by
   unfold valV
   by_cases h:k=x
   ·simp[h]
   ·simp[h]
  show (∀d',(if k=x then some d else atK (kvs.map (·.1)) us x)=some d'→_)∧_
  rw[e1]
  refine⟨fun d' h=>?_,fun h=>?_⟩
  ·by_cases q:k=x
   ·rw[if_pos q] at h⊢;cases h;exact⟨v,rfl,r⟩
   ·rw[if_neg q] at h⊢;exact ih.1 d' h
  ·have h:(if k=x then some d else atK (kvs.map (·.1)) us x)=none:=h
   by_cases q:k=x
   ·rw[if_pos q] at h;cases h
   ·rw[if_neg q] at h⊢;exact ih.2 h
theorem key_ok {d:D} {v:V} {k:Key} (r:Rep K F io d v) (e:d.key=some k):v=kV k:=by
 unfold D.key at e
 split at e
 ·cases e;cases r;rfl
 ·cases e;cases r;rfl
 ·cases e
theorem dget_ok {a:Addr} {d k:D} {y:V} {o:Option D} (at_:DAt K io F H a d) (hs:Same F H) (r:Rep K F io k y) (e:dgetF d k=some o) :
  ∃ov,DGet H a y ov∧ov.isSome=o.isSome∧∀d',o=some d'→∃v,ov=some v∧Rep K F io d' v:=by
 have fin:∀{κ:Type} [DecidableEq κ] {kvs:List (κ×V)} {us:List D} {x:κ},RepL K F io us (kvs.map (·.2))→o=atK (kvs.map (·.1)) us x→
   (valV kvs x).isSome=o.isSome∧∀d',o=some d'→∃v,valV kvs x=some v∧Rep K F io d' v:=fun {κ _ kvs us x} rl eo=>by
  obtain⟨h1,h2⟩:=atK_ok x rl
  cases q:atK (kvs.map (·.1)) us x with
  | none=>rw[q] at eo;subst eo;rw[h2 q];exact⟨rfl,fun d' z=>by cases z⟩
  | some d'=>
   rw[q] at eo
   subst eo
   obtain⟨v,hv,rv⟩:=h1 d' q
   rw[hv]
   exact⟨rfl,fun d2 z=>by cases z;exact⟨v,rfl,rv⟩⟩
 cases at_ with
 | @k kvs us ha rl=>
  have e:(k.key.map fun x=>atK (kvs.map (·.1)) us x)=some o:=e
  cases hk:k.key with
  | none=>rw[hk] at e;cases e
  | some x=>
   rw[hk] at e
   cases e
   obtain rfl:=key_ok r hk
   exact⟨_,.inl ⟨kvs,x,ha,rfl,rfl⟩,fin rl rfl⟩
end
def W.dic:W→Option D
 | .val (.dict ks us)=>some (.dict ks us)
 | .bod ks us=>some (.dict ks us)
 | _=>none
theorem dic_ok {G:G3} {X:Hex} {B:Addr→Prop} {s:S3} {st:Store} {w:W} {v:V} {d:D} (wd:Wd G B st s) (r:RepW G X B s w v) (e:w.dic=some d):∃a,v=.ref a∧DAt G.R s.io s.F s.H a d:=by
 unfold W.dic at e
 split at e
 ·cases e;cases r with | dict h q rl=>subst q;exact⟨_,rfl,.k (.inr ⟨_,wd.sub _ _ h⟩) rl⟩
 ·cases e;obtain⟨p,kvs,rfl,_,h,q,rl⟩:=r;subst q;exact⟨_,rfl,.k (.inl h) rl⟩
 ·cases e
def inF (neg:Bool) (x y:W):Option W:=match x,y with
 | .val (.str a),.val (.str b)=>match a.cps.toList with
  | [c]=>some (.val (.bl (if neg then !decide (c∈b.cps.toList) else decide (c∈b.cps.toList))))
  | _=>none
 | x,y=>match y.dic with
  | some d=>match x with
   | .val k=>(dgetF d k).map fun o=>.val (.bl (if neg then !o.isSome else o.isSome))
   | _=>none
  | none=>match x.rd,y.rd with
   | some a,some b=>match a.py,b.py with
    | some p,some (.list ps)=>if SeqAt.shaped p=true∧SeqAt.shaped (.list ps)=true then some (.val (.bl (if neg then !ps.any fun z=>PyData.eqv z p else ps.any fun z=>PyData.eqv z p))) else none
    | some p,some (.tuple ps)=>if SeqAt.shaped p=true∧SeqAt.shaped (.tuple ps)=true then some (.val (.bl (if neg then !ps.any fun z=>PyData.eqv z p else ps.any fun z=>PyData.eqv z p))) else none
    | _,_=>none
   | _,_=>none
section
variable {P:P3}
theorem in_ok {op:CmpOp} (neg:Bool) {R1 R2' R3 R4:R2} (h1:OpR P.X (compareOp op) R1) (h2:OpR P.X (compareOp op) R2') (h3:OpR P.X (compareOp op) R3) (h4:OpR P.X (compareOp op) R4)
  (g1:∀(c:Nat) (z:Str) H Q,Q (.bl (if neg then !decide (c∈z.cps.toList) else decide (c∈z.cps.toList))) H→R1 (.str ⟨#[c]⟩) (.str z) H Q)
  (g2:∀a o y H Q,DGet H a y o→Q (.bl (if neg then !o.isSome else o.isSome)) H→R2' y (.ref a) H Q)
  (g3:∀d ds x y H Q,Dp P.X.K H x d→Dp P.X.K H y (.list ds)→SeqAt.shaped d=true→SeqAt.shaped (.list ds)=true→Q (.bl (if neg then !ds.any fun z=>PyData.eqv z d else ds.any fun z=>PyData.eqv z d)) H→R3 x y H Q)
  (g4:∀d ds x y H Q,Dp P.X.K H x d→Dp P.X.K H y (.tuple ds)→SeqAt.shaped d=true→SeqAt.shaped (.tuple ds)=true→Q (.bl (if neg then !ds.any fun z=>PyData.eqv z d else ds.any fun z=>PyData.eqv z d)) H→R4 x y H Q) :
  OpM P (compareOp op) (inF neg):=by
 refine⟨_,h1.or (h2.or (h3.or h4)),fun B s st w1 w2 w v1 v2 Q wd r1 r2 e k=>?_⟩
 unfold inF at e
 split at e
 ·rename_i a b
  split at e
  ·rename_i c hc
   have ea:a=⟨#[c]⟩:=by
    obtain⟨cs⟩:=a
    have:cs = #[c]:=by
     have:=congrArg List.toArray hc
     simpa using this
    rw[this]
   subst ea
   cases e;cases r1;cases r2
   exact .inl (g1 _ _ _ _ (k s _ (Le.refl _) wd .bl))
  ·cases e
 ·split at e
  ·rename_i d hd
   split at e
   ·rename_i kd _
    obtain⟨a,rfl,at_⟩:=dic_ok wd r2 hd
    cases hg:dgetF d kd with
    | none=>rw[hg] at e;cases e
    | some o=>
     rw[hg] at e
     cases e
     obtain⟨ov,g,h,_⟩:=dget_ok at_ wd.sub r1 hg
     exact .inr (.inl (g2 _ _ _ _ _ g (by rw[h];exact k s _ (Le.refl _) wd .bl)))
   ·cases e
  ·split at e
   ·rename_i a b ea eb
    split at e
    ·rename_i p ps ep eps
     split at e
     ·rename_i hs
      cases e
      exact .inr (.inr (.inl (g3 p ps _ _ _ _ (by rw[P.hK];exact py_ok (rd_ok wd r1 ea) ep) (by rw[P.hK];exact py_ok (rd_ok wd r2 eb) eps) hs.1 hs.2 (k s _ (Le.refl _) wd .bl))))
     ·cases e
    ·rename_i p ps ep eps
     split at e
     ·rename_i hs
      cases e
      exact .inr (.inr (.inr (g4 p ps _ _ _ _ (by rw[P.hK];exact py_ok (rd_ok wd r1 ea) ep) (by rw[P.hK];exact py_ok (rd_ok wd r2 eb) eps) hs.1 hs.2 (k s _ (Le.refl _) wd .bl))))
     ·cases e
    ·cases e
   ·cases e
theorem om_in (hu:P.X.A.units+65<cLine):OpM P (compareOp .In) (inF false):=
 in_ok false op_in_sign (op_dinV (Nat.lt_of_le_of_lt (by omega) hu)) (op_inD hu) (op_inT hu) (fun c z H Q h=>⟨c,z,rfl,rfl,h⟩) (fun a o y H Q g h=>⟨a,o,rfl,g,h⟩) (fun d ds x y H Q a b c e h=>⟨d,ds,a,b,c,e,h⟩) (fun d ds x y H Q a b c e h=>⟨d,ds,a,b,c,e,h⟩)
theorem om_notin (hu:P.X.A.units+65<cLine):OpM P (compareOp .NotIn) (inF true):=
 in_ok true op_notIn_sign (op_dnotInV (Nat.lt_of_le_of_lt (by omega) hu)) (op_notInD hu) (op_notInT hu) (fun c z H Q h=>⟨c,z,rfl,rfl,h⟩) (fun a o y H Q g h=>⟨a,o,rfl,g,h⟩) (fun d ds x y H Q a b c e h=>⟨d,ds,a,b,c,e,h⟩) (fun d ds x y H Q a b c e h=>⟨d,ds,a,b,c,e,h⟩)
end
def D.bls:List D→Option (List Bool)
 | []=>some []
 | .bl b :: ds=>(D.bls ds).map (b :: ·)
 | _ :: _=>none
theorem bls_ok {K:KW} {F:Hp} {io:Io}:∀{ds:List D} {vs:List V} {bs:List Bool},RepL K F io ds vs→D.bls ds=some bs→vs=bs.map V.bl
 | [],_,_,.nil,e=>by unfold D.bls at e;cases e;rfl
 | d :: ds,_,bs,.cons r t,e=>by
  cases d with
  | bl b=>
   unfold D.bls at e
   cases h:D.bls ds with
   | none=>rw[h] at e;cases e
   | some bs'=>
    rw[h] at e
    cases e
    cases r
    rw[bls_ok t h]
    rfl
  | _=>unfold D.bls at e;cases e
def allF:List W→Option W
 | [w]=>w.ls.bind fun xs=>(D.bls xs).map fun bs=>.val (.bl (bs.all id))
 | _=>none
def anyF:List W→Option W
 | [w]=>w.ls.bind fun xs=>(D.bls xs).map fun bs=>.val (.bl (bs.any id))
 | _=>none
section
variable {P:P3}
theorem cm_all (hc:Cool P.X):CallM P (.builtin "all") allF:=by
 refine⟨_,cr_all hc,fun B s st ws w vs Q wd r e k=>?_⟩
 unfold allF at e
 split at e
 ·rename_i w0
  cases r with
  | cons r rr=>
   cases rr
   cases h1:w0.ls with
   | none=>rw[h1] at e;cases e
   | some xs=>
    rw[h1,Option.bind_some] at e
    cases h2:D.bls xs with
    | none=>rw[h2] at e;cases e
    | some bs=>
     rw[h2] at e
     cases e
     obtain⟨p,us,rfl,hp,rl⟩:=ls_ok wd r h1
     obtain rfl:=bls_ok rl h2
     exact⟨p,bs,rfl,.inl (.inl hp),k s _ (Le.refl _) wd .bl⟩
 ·cases e
theorem cm_any (hc:Cool P.X):CallM P (.builtin "any") anyF:=by
 refine⟨_,cr_any hc,fun B s st ws w vs Q wd r e k=>?_⟩
 unfold anyF at e
 split at e
 ·rename_i w0
  cases r with
  | cons r rr=>
   cases rr
   cases h1:w0.ls with
   | none=>rw[h1] at e;cases e
   | some xs=>
    rw[h1,Option.bind_some] at e
    cases h2:D.bls xs with
    | none=>rw[h2] at e;cases e
    | some bs=>
     rw[h2] at e
     cases e
     obtain⟨p,us,rfl,hp,rl⟩:=ls_ok wd r h1
     obtain rfl:=bls_ok rl h2
     exact⟨p,bs,rfl,.inl (.inl hp),k s _ (Le.refl _) wd .bl⟩
 ·cases e
end
def eNeg (a:EM):EM:=fun u=>M.bind (a u) fun w=>match w with
 | .val (.int i)=>M.pure (.val (.int (-i)))
 | _=>M.bad
section
variable {P:P3} {pos:Pos} {a:Expr} {ma:EM}
theorem me_neg (ha:ME P a ma):ME P (.UnaryOp .USub a pos) (eNeg ma):=by
 obtain⟨ta,pa,ha⟩:=ha.out
 refine ME.mk' (pe_un un_neg pa) fun B0 B s st u z Q wd sl hp=>ha B0 B s st u z _ wd sl (Post.bind hp fun w st1 s1 v l1 wd1 r1 h1=>?_)
 split at h1
 ·cases r1
  exact⟨_,rfl,h1.pure wd1 .int⟩
 ·exact h1.elim
end
section
variable {P:P3} {pos:Pos} {a b c:Expr} {ma mb mc:EM}
theorem mt_chain {op op':CmpOp} {g g':W→W→Option W} (h:OpM P (compareOp op) g) (h':OpM P (compareOp op') g') (ha:ME P a ma) (hb:ME P b mb) (hc:ME P c mc)
  (hm:lastMarks [op,op'] [b,c]=false:=by with_unfolding_all rfl):MT P (.Compare a [op,op'] [b,c] pos) (tOf (eChain g g' ma mb mc)):=by
 obtain⟨ta,pa,ha⟩:=ha.out
 obtain⟨tb,pb,hb⟩:=hb.out
 obtain⟨tc,pc,hc⟩:=hc.out
 obtain⟨r,hr,hq⟩:=h
 obtain⟨r',hr',hq'⟩:=h'
 refine MT.mk' (pt_chain hr hr' pa pb pc hm) fun B0 B s st u z Q wd sl hp=>?_
 have hp:Post P.G B (fun _ a b=>a=b) (fun c d H=>P.wx c d z H) s Q (M.bind (ma u) (fun x=>M.bind (mb u) fun y=>M.bind (M.of (g x y)) fun k=>M.bind (M.of k.bool) fun k=>M.bind (if k=true then M.bind (mc u) fun w=>M.of (g' y w) else M.pure (.val (.bl false))) fun w=>M.of w.bool) st):=by
  refine cast (congrArg _ ?_) hp
  unfold tOf eChain M.bind
  cases ma u st with
  | ok x st1=>
   dsimp only
   cases mb u st1 with
   | ok y st2=>
    dsimp only
    cases g x y with
    | none=>rfl
    | some k=>
     dsimp only[M.of,M.pure]
     cases hk:k.bool with
     | none=>simp[M.of,M.bad]
     | some k=>
      cases k <;> simp[M.of,M.pure,M.bad]
   | err c x st2=>rfl
   | bad=>rfl
  | err c x st1=>rfl
  | bad=>rfl
 refine ha B0 B s st u z _ wd sl (Post.bind hp fun w1 st1 s1 v1 l1 wd1 r1 h1=>?_)
 refine hb B0 B s1 st1 u z _ wd1 (sl.mono l1) (Post.bind h1 fun w2 st2 s2 v2 l2 wd2 r2 h2=>?_)
 obtain⟨w,e,h2⟩:=Post.of_of h2
 refine hq B s2 st2 w1 w2 w v1 v2 _ wd2 (r1.mono l2) r2 e fun s3 v l3 wd3 r3=>?_
 obtain⟨k,e2,h3⟩:=Post.of_of h2
 refine⟨k,bool_ok r3 e2,?_⟩
 cases k with
 | true=>
  rw[if_pos rfl] at h3⊢
  have h3:Post P.G B (fun _ a b=>a=b) (fun c d H=>P.wx c d z H) s2 Q (M.bind (mc u) (fun w=>M.bind (M.of (g' w2 w)) fun w=>M.of w.bool) st2):=by
   refine cast (congrArg _ ?_) h3
   unfold M.bind
   cases mc u st2 <;> rfl
  refine hc B0 B s3 st2 u z _ wd3 (sl.mono ((l1.trans l2).trans l3)) (Post.bind (Post.mono l3 h3) fun w4 st4 s4 v4 l4 wd4 r4 h4=>?_)
  obtain⟨w5,e5,h4⟩:=Post.of_of h4
  obtain⟨k5,e6,h4⟩:=of_eq h4
  exact hq' B s4 st4 w2 w4 w5 v2 v4 _ wd4 ((r2.mono l3).mono l4) r4 e5 fun s5 v5 l5 wd5 r5=>⟨k5,bool_ok r5 e6,h4 s5 k5 l5 wd5 rfl⟩
 | false=>
  rw[if_neg Bool.false_ne_true] at h3⊢
  exact⟨false,rfl,(Post.mono l3 h3).pure wd3 rfl⟩
end
end M3
namespace M3
open PySem PySem.Spec PyProof.Rows L2
def MtM3 (P:P3) (id:String) (g:Str→W→Option W):Prop:=∃r,MtR P.X id r∧∀(B:Addr→Prop) (s:S3) (st:Store) (x:Str) (w1 w:W) (v1:V) (Q:VK),Wd P.G B st s→RepW P.G P.hx B s w1 v1→
 g x w1=some w→(∀(s':S3) (v:V),Le B s s'→Wd P.G B st s'→RepW P.G P.hx B s' w v→Q v s'.H)→r (.str x) [v1] s.H Q
def W.str? : W→Option Str
 | .val (.str x)=>some x
 | _=>none
def eM1 (g:Str→W→Option W) (a b:EM):EM:=fun u=>M.bind (a u) fun x=>M.bind (M.of x.str?) fun z=>M.bind (b u) fun y=>M.of (g z y)
section
variable {P:P3} {pos apos:Pos} {o e:Expr} {mo me:EM}
theorem me_m1 {id:String} {name:Str} {g:Str→W→Option W} (slot:Slot "str" name id) (ty:typeOf (.builtin id)=pure (.type "method_descriptor")) (rule:MtM3 P id g) (ho:ME P o mo) (he:ME P e me)
  (hs:starEach [e] P.X.env=[(false,eval e P.X.env)]:=by rfl) (hbase:attributeBase o name P.X.env (eval o P.X.env)=eval o P.X.env:=by rfl) (hline:(apos.endLine == pos.line)=true:=by rfl) :
  ME P (.Call (.Attribute o name apos) [e] [] pos) (eM1 g mo me):=by
 obtain⟨to,po,hto⟩:=ho.out
 obtain⟨te,pe,hte⟩:=he.out
 obtain⟨r,hr,hq⟩:=rule
 refine ME.mk' (pe_m1 slot ty hr po pe hs hbase hline) fun B0 B s st u z Q wd sl h=>hto B0 B s st u z _ wd sl (Post.bind h fun w st1 s1 v l1 wd1 r1 h1=>?_)
 obtain⟨x,ex,h1⟩:=Post.of_of h1
 obtain⟨rfl⟩:w=.val (.str x):=by
  unfold W.str? at ex
  split at ex
  ·cases ex;rfl
  ·cases ex
 cases r1
 refine⟨⟨_,rfl⟩,hte B0 B s1 st1 u z _ wd1 (sl.mono' l1) (Post.bind h1 fun w2 st2 s2 v2 l2 wd2 r2 h2=>?_)⟩
 obtain⟨w3,e3,h2⟩:=of_eq h2
 exact hq B s2 st2 x w2 w3 v2 Q wd2 r2 e3 fun s' v l w' r=>h2 s' v l w' r
end
def D.strs:List D→Option (List Str)
 | []=>some []
 | .str x :: ds=>(D.strs ds).map (x :: ·)
 | _ :: _=>none
theorem strs_ok {K:KW} {F:Hp} {io:Io}:∀{ds:List D} {vs:List V} {xs:List Str},RepL K F io ds vs→D.strs ds=some xs→vs=xs.map V.str
 | [],_,_,.nil,e=>by unfold D.strs at e;cases e;rfl
 | d :: ds,_,xs,.cons r t,e=>by
  cases d with
  | str x=>
   unfold D.strs at e
   cases h:D.strs ds with
   | none=>rw[h] at e;cases e
   | some ys=>
    rw[h] at e
    cases e
    cases r
    rw[strs_ok t h]
    rfl
  | _=>unfold D.strs at e;cases e
theorem rep_strs {K:KW} {F:Hp} {io:Io}:∀xs:List Str,RepL K F io (xs.map D.str) (xs.map V.str)
 | []=>.nil
 | _ :: xs=>.cons .str (rep_strs xs)
def startsF (x:Str):W→Option W
 | .val (.str y)=>some (.val (.bl (Txt.startswith x y)))
 | _=>none
def splitF (x:Str):W→Option W
 | .val (.str y)=>if y.length≠0∧x.length≤900000 then some (.val (.lst ((Txt.split x y).map .str))) else none
 | _=>none
def joinF (x:Str) (w:W):Option W:=(w.rd.bind D.items).bind fun xs=>(D.strs xs).bind fun ys=>if (ys.map (·.length)).sum+ys.length * x.length≤1000000 then some (.val (.str (Txt.join x ys))) else none
section
variable {P:P3}
theorem mt_starts3:MtM3 P "str.startswith" startsF:=by
 refine⟨_,mt_startswith,fun B s st x w1 w v1 Q wd r1 e k=>?_⟩
 unfold startsF at e
 split at e
 ·cases e;cases r1;exact⟨_,_,rfl,rfl,k s _ (Le.refl _) wd .bl⟩
 ·cases e
theorem mt_split3:MtM3 P "str.split" splitF:=by
 refine⟨_,mt_split,fun B s st x w1 w v1 Q wd r1 e k=>?_⟩
 unfold splitF at e
 split at e
 ·rename_i y
  split at e
  ·rename_i hz
   cases e;cases r1
   refine⟨_,_,rfl,rfl,?_,szL (by omega),fun p hp=>?_⟩
   ·simpa using hz.1
   ·obtain⟨wd2,l2⟩:=wd.froz hp (.lst ((Txt.split x y).map V.str))
    exact k _ _ l2 wd2 (.lst upd_same (rep_strs _))
  ·cases e
 ·cases e
end
def rCountT (K:PySem.W.Frag):V→List V→Hp→VK→Prop:=fun x xs H Q=>∃(y:V) (d:PyData) (ds:List PyData),xs=[y]∧Dp K H x (.tuple ds)∧Dp K H y d∧SeqAt.shaped (.tuple ds)=true∧SeqAt.shaped d=true∧
 Q (.int ((ds.countP fun z=>PyData.eqv z d:Nat):Int)) H
section
variable {X:Cx}
theorem mt_countT (hu:X.A.units+65<cLine):MtR X "tuple.count" (rCountT X.K):=by
 rintro pins now σ H x _ v us Q inv rx args ⟨y,d,ds,rfl,dx,dy,shx,shy,q⟩
 obtain⟨uy,rfl,ry⟩:=args.one
 obtain⟨_,readsy⟩:=Dp.reads inv d y uy dy ry
 have lay:=SeqAt.canLay_of_shaped shx
 cases dx with
 | @tup p xs _ at_ parts=>
  obtain rfl:v=.ref p:=rx
  obtain⟨its,vals,⟨ob,there,isT,n,body⟩,-⟩:=inv.tuple at_
  obtain⟨ocls,odict,odata,oslots⟩:=ob
  dsimp only at isT body
  subst isT body
  obtain⟨as,readsx⟩:=Dp.readsAll inv ds xs its parts vals
  have many:(its.toArray.toList.countP fun u=>PyData.eqv (SeqAt.readOf now.heap u) d)=ds.countP fun z=>PyData.eqv z d:=by
   conv=>rhs;rw[←SeqAt.readsAll_map ds its as lay readsx,List.countP_map]
   rfl
  have meets:=SeqAt.tuple_countAt p its.toArray n odict oslots uy fun u=>PyData.eqv (SeqAt.readOf now.heap u) d
  refine call_meets PySem.F.slot_tuple_count ⟨_,there,rfl⟩ PySem.F.entry_tuple_count (PySem.F.args_tuple_count_2 _ _) meets ⟨there,?_,V.int _,H,inv.tok _,⟨_,rfl⟩,many.symm▸q⟩
  exact SeqAt.items_eqAt (vs:=its.toArray) (xs:=ds) (as:=as) readsx readsy lay (SeqAt.canLay_of_shaped shy) (room_in_shaped shy hu)
theorem pe_bmT {id:String} {r:V→List V→Hp→VK→Prop} {m:Str} {o x:Expr} {to:TE} {tx:TA} {at1 at2:Pos} (slot:Slot "tuple" m id) (ty:typeOf (.builtin id)=pure (.type "method_descriptor")) (rule:MtR X id r) (ho:PE X o to) (ha:PA X [x] tx)
  (few:((backTo at2 (starEach [x] X.env)).all (fun q=>!q.1) && (backToKw at2 (keywordEach [] X.env)).all (fun q=>q.1.isSome) && decide (([x]:List Expr).length+([]:List Keyword).length+(if ([]:List Keyword).isEmpty then 0 else 1)<30))=true:=by rfl)
  (base:attributeBase o m X.env (eval o X.env)=eval o X.env:=by rfl) (one:starEach [x] X.env=(false,eval x X.env) :: starEach [] X.env:=by rfl) (line:(at1.endLine == at2.line)=true:=by rfl) :
  PE X (.Call (.Attribute o m at1) [x] [] at2) (fun σ H Q=>to σ H fun x H1=>(∃p xs,x=.ref p∧FTup H1 p xs)∧tx σ H1 fun xs H2=>r x xs H2 Q):=
 ⟨fun pins now σ H Q inv wish=>wpAny_Call_method_late base few line rfl <| thn (ho.run pins now σ H _ inv wish) fun v later got=>by
  obtain⟨_,H1,J,rx,⟨p,xs,rfl,ob,at_,bare⟩,rest⟩:=got
  have rx':=rx
  obtain rfl:v=.ref p:=rx
  obtain⟨there,-,-,-,ob',there',isT,-⟩:=(show ObjOk X.prog X.w H1 later.heap p (.frz ob (.tup xs)) from J.hok p _ at_)
  obtain rfl:ob=ob':=Option.some.inj (there.symm.trans there')
  refine⟨"tuple",id,PySem.F.plainAttrs_tuple,slot,ty,⟨ob,there,isT⟩,fun a ea=>⟨ob,by cases ea;exact there,bare⟩,?_⟩
  have args:=ha.run at2 pins later σ H1 _ J rest
  rw[one] at args⊢
  refine Calls.callWith_builtin rfl (Calls.evalArgs_plain ?_)
  exact thn args fun us last ⟨vs,H2,J2,rs,q⟩=>rule pins last σ H2 (.ref p) vs _ us Q J2 rx' rs q⟩
end
end M3
namespace M3
open PySem PySem.Spec PyProof.Rows L2
theorem units65 {k:Nat} {A:Around} {s0:Shared} {H0:Hp} {fs ex:List Addr} (r:RoomS k A s0 H0 fs ex):A.units+65<cLine:=by have:=r.un;omega
def clsB:Stmt→List Stmt
 | .ClassDef (body:=inside) ..=>inside
 | _=>[]
section
variable {P:P3} {pos:Pos}
def sFrz (i:Nat):SM:=fun u st=>match u[i]? with
 | some (some (.bor xs))=>.nx (u.set i (some (.val (.lst xs)))) st
 | _=>.bad
theorem Slo.frz {G:G3} {X:Hex} {B0 B:Addr→Prop} {s:S3} {u:Sl3} {z:L2.St} {i:Nat} {xs:List D} {st:Store} (h:Slo G X B0 B s u z) (b0:∀a,B0 a→B a) (wd:Wd G B st s) (e:u[i]?=some (some (.bor xs))) :
  ∃(B':Addr→Prop) (s':S3),s'.H=s.H∧(∀a,B0 a→B' a)∧Le B0 s s'∧Wd G B' st s'∧Slo G X B0 B' s' (u.set i (some (.val (.lst xs)))) z:=by
 obtain⟨hl,ow,h1,h2⟩:=h
 obtain⟨v,e1,⟨p,vs,rfl,bp,hp,rl⟩,q⟩:=h1 i _ e
 obtain⟨e3,nb⟩:=q rfl
 injection e3 with e3
 subst e3
 have wd':Wd G (plus (fun a=>B a∧a≠ow i) (ow i)) st s:=wd.less fun a z=>z.elim (fun z=>z.1) fun z=>z▸bp
 have nB:¬(fun a=>B a∧a≠ow i) (ow i):=fun z=>z.2 rfl
 have le:Le B0 s ⟨s.io,upd s.F (ow i) (.lst vs),s.H⟩:=⟨IoLe.refl _,same_upd (wd.hid (ow i) bp).1,fun _ _=>rfl⟩
 refine⟨fun a=>B a∧a≠ow i,⟨s.io,upd s.F (ow i) (.lst vs),s.H⟩,rfl,fun a q=>⟨b0 a q,fun z=>nb (z▸q)⟩,le,freeze_wd wd' nB hp,by simpa using hl,ow,fun j w ej=>?_,fun j k w w' o1 o2 q1 q2 q3=>?_⟩
 ·rcases get_set ej with⟨rfl,rfl⟩ | ⟨ne,ej⟩
  ·exact⟨.ref (ow i),e1,Rep.lst upd_same (rl.mono le.fr le.io),fun q'=>by cases q'⟩
  ·obtain⟨v,ev,rv,qv⟩:=h1 j w ej
   refine⟨v,ev,?_,qv⟩
   have away:w.own=true→∀p',v=.ref p'→p'≠ow i:=fun ow' p' e' z=>by
    obtain⟨e4,_⟩:=qv ow'
    rw[e'] at e4
    injection e4 with e4
    exact ne (h2 i j (.bor xs) w rfl ow' e ej (by rw[←e4,z]))
   cases w with
   | val d=>exact Rep.mono le.fr le.io rv
   | exn c x=>
    obtain⟨ax,dd,x1,x2,xf⟩:=rv
    exact⟨ax,dd,x1,x2,xf.mono le.io le.fr⟩
   | bor xs'=>
    obtain⟨p',vs',rfl,b',hp',rl'⟩:=rv
    exact⟨p',vs',rfl,⟨b',away rfl p' rfl⟩,hp',rl'.mono le.fr le.io⟩
   | bod ks us=>
    obtain⟨p',vs',rfl,b',hp',e',rl'⟩:=rv
    exact⟨p',vs',rfl,⟨b',away rfl p' rfl⟩,hp',e',rl'.mono le.fr le.io⟩
   | bdd ks us=>
    obtain⟨p',vs',rfl,b',hp',rl'⟩:=rv
    exact⟨p',vs',rfl,⟨b',away rfl p' rfl⟩,hp',rl'.mono le.fr le.io⟩
   | len ys=>
    obtain⟨p',vs',o,rfl,b',hp',rl'⟩:=rv
    exact⟨p',vs',o,rfl,⟨b',fun z=>by subst z;rw[hp] at hp';cases hp'⟩,hp',rl'.mono le.fr le.io⟩
 ·rcases get_set q1 with⟨_,z⟩ | ⟨_,q1⟩
  ·subst z;cases o1
  ·rcases get_set q2 with⟨_,z⟩ | ⟨_,q2⟩
   ·subst z;cases o2
   ·exact h2 j k w w' o1 o2 q1 q2 q3
def sAsg (m:EM) (g:GM):SM:=fun u st=>match m u st with
 | .ok (.val d) st'=>match g d u with
  | some u'=>.nx u' st'
  | none=>.bad
 | .ok _ _=>.bad
 | .err c x st'=>.err c x u st'
 | .bad=>.bad
abbrev SubParts (X:Cx) (o i:Expr) (at1:Pos):Prop:=∀v,assign (.Subscript o i at1) X.env v =
 (do let ov ← holding [v] (eval o X.env);let iv ← holding [v,ov] (eval i X.env);standAt at1;holding [v,ov,iv] (setItem ov iv v);release [v,ov,iv] [])
def sSetI (i:Nat) (mi me:EM):SM:=fun u st=>match u[i]? with
 | some (some (.bor xs))=>match me u st with
  | .ok (.val d) st1=>match mi u st1 with
   | .ok (.val (.int j)) st2=>match ixN xs.length j with
    | some k=>.nx (u.set i (some (.bor (xs.set k d)))) st2
    | none=>.bad
   | .err c x st2=>.err c x u st2
   | _=>.bad
  | .err c x st1=>.err c x u st1
  | _=>.bad
 | _=>.bad
theorem ms_setI (i:Nat) {x:Str} {px ipos:Pos} {ei e:Expr} {mi me:EM} (hi:ME P ei mi) (he:ME P e me) (hN:P.X.N[i]?=some x:=by rfl) (hv:Vis P.X.env.scope x:=by first | exact Or.inl rfl | exact Or.inr (Or.inl rfl) | exact Or.inr (Or.inr rfl)) (hd:(x == ("__debug__" : Str))=false:=by decide)
  (hcd:(x == ("__classdict__" : Str))=false:=by decide)
  (ha:SubParts P.X (.Name x px) ei ipos:=by intro _;rfl)
  (hs:swapsWithSole [.Subscript (.Name x px) ei ipos] e pos.line P.X.env=pure false:=by rfl) (hw:swappedStores [.Subscript (.Name x px) ei ipos] e P.X.env=pure none:=by rfl)
  (h1:(assignEach [.Subscript (.Name x px) ei ipos] P.X.env).map (·.2)=[assign (.Subscript (.Name x px) ei ipos) P.X.env]:=by rfl) :
  MS P (.Assign [.Subscript (.Name x px) ei ipos] e pos) (sSetI i mi me):=by
 obtain⟨t,pt,ht⟩:=he.out
 obtain⟨ti,pi,hti⟩:=hi.out
 refine MS.mk' (ps_asg pt (pg_sub (pe_var hN hv hd hcd) pi set_list ha) hs hw h1) fun B0 B s o u z D b0 wd sl h=>ht B0 B s o u z _ wd sl ?_
 unfold sSetI at h
 split at h
 ·rename_i xs eu
  obtain⟨p,vs,e2,bp,nb,hp,rl,_⟩:=sl.change (ys:=[]) wd eu
  cases e:me u o with
  | bad=>rw[e] at h;exact h
  | err c x st'=>rw[e] at h;exact fun s' cv dd l w q=>h B s' z cv dd b0 (l.less b0) w (sl.mono' l) q
  | ok w st1=>
   rw[e] at h
   cases w with
   | val d=>
    dsimp only at h
    intro s1 v l1 wd1 r1
    refine⟨.ref p,e2,hti B0 B s1 st1 u z _ wd1 (sl.mono' l1) ?_⟩
    cases e3:mi u st1 with
    | bad=>rw[e3] at h;exact h
    | err c x st'=>rw[e3] at h;exact fun s' cv dd l w q=>h B s' z cv dd b0 ((l1.trans l).less b0) w (sl.mono' (l1.trans l)) q
    | ok w2 st2=>
     rw[e3] at h
     split at h
     ·rename_i j st3 e4
      cases e4
      split at h
      ·rename_i k ek
       intro s2 v2 l2 wd2 r2
       cases r2
       obtain⟨p',vs',e2',bp',nb',hp',rl',ch⟩:=(sl.mono' (l1.trans l2)).change (ys:=xs.set k d) wd2 eu
       rw[e2] at e2';cases e2'
       obtain⟨sl3,w3,l3⟩:=ch (vs'.set k v) (RepL.set (Rep.mono l2.fr l2.io r1) k rl')
       exact⟨p,vs',j,k,rfl,rfl,hp',by rw[←rl'.length];exact ek,h B _ z b0 (((l1.trans l2).less b0).trans l3) w3 sl3⟩
      ·exact h.elim
     ·rename_i e4;cases e4
     ·exact h.elim
   | _=>exact h.elim
 ·exact h.elim
def sPop (i:Nat):SM:=fun u st=>match u[i]? with
 | some (some (.bor xs))=>if xs.isEmpty=true then .bad else .nx (u.set i (some (.bor xs.dropLast))) st
 | _=>.bad
theorem dropLast_rep {K:KW} {F:Hp} {io:Io} {xs:List D} {vs:List V} (r:RepL K F io xs vs):RepL K F io xs.dropLast vs.dropLast:=by
 rw[List.dropLast_eq_take,List.dropLast_eq_take,r.length]
 exact r.take _
theorem ms_pop (i:Nat) {x:Str} {px apos cpos:Pos} (hN:P.X.N[i]?=some x:=by rfl) (hv:Vis P.X.env.scope x:=by first | exact Or.inl rfl | exact Or.inr (Or.inl rfl) | exact Or.inr (Or.inr rfl)) (hd:(x == ("__debug__" : Str))=false:=by decide)
  (hcd:(x == ("__classdict__" : Str))=false:=by decide)
  (hbase:attributeBase (.Name x px) "pop" P.X.env (eval (.Name x px) P.X.env)=eval (.Name x px) P.X.env:=by rfl) (hline:(apos.endLine == cpos.line)=true:=by rfl)
  (hs:swapsWith (.Call (.Attribute (.Name x px) "pop" apos) [] [] cpos) none pos.line P.X.env=pure false:=by rfl) :
  MS P (.Expr (.Call (.Attribute (.Name x px) "pop" apos) [] [] cpos) pos) (sPop i):=by
 refine MS.mk' (ps_expr (pe_bm0 PySem.F.plainAttrs_list PySem.F.slot_list_pop PySem.F.type_list_pop mt_pop (pe_var hN hv hd hcd) hbase hline) hs) fun B0 B s o u z D b0 wd sl h=>?_
 unfold sPop at h
 split at h
 ·rename_i xs e1
  split at h
  ·exact h.elim
  ·rename_i hne
   obtain⟨p,vs,e2,bp,nb,hp,rl,ch⟩:=sl.change (ys:=xs.dropLast) wd e1
   refine⟨.ref p,e2,.inl ⟨rfl,vs,.inl (.inl hp)⟩,?_⟩
   have hl:vs.length - 1<vs.length:=by
    have:xs≠[]:=fun z=>hne (by rw[z];rfl)
    have:=List.length_pos_iff.mpr this
    rw[rl.length] at this
    omega
   obtain⟨sl2,w2,l2⟩:=ch vs.dropLast (dropLast_rep rl)
   exact⟨p,vs,vs[vs.length - 1],rfl,rfl,hp,List.getElem?_eq_getElem hl,h B _ z b0 l2 w2 sl2⟩
 ·exact h.elim
def W.tup? : W→Option (List D)
 | .val (.tup xs)=>some xs
 | _=>none
def cntF (xs:List D) (w:W):Option W:=w.rd.bind fun d=>match D.pys xs,d.py with
 | some ps,some p=>if SeqAt.shaped p=true∧SeqAt.shaped (.tuple ps)=true then some (.val (.int ((ps.countP fun z=>PyData.eqv z p:Nat):Int))) else none
 | _,_=>none
def eCnt (a b:EM):EM:=fun u=>M.bind (a u) fun x=>M.bind (M.of x.tup?) fun xs=>M.bind (b u) fun y=>M.of (cntF xs y)
theorem me_cnt {o e:Expr} {apos cpos:Pos} {mo me:EM} (hu:P.X.A.units+65<cLine) (ho:ME P o mo) (he:ME P e me)
  (hbase:attributeBase o "count" P.X.env (eval o P.X.env)=eval o P.X.env:=by rfl) (hline:(apos.endLine == cpos.line)=true:=by rfl) (hs:starEach [e] P.X.env=(false,eval e P.X.env) :: starEach [] P.X.env:=by rfl)
  (hfew:((backTo cpos (starEach [e] P.X.env)).all (fun q=>!q.1) && (backToKw cpos (keywordEach [] P.X.env)).all (fun q=>q.1.isSome) && decide (([e]:List Expr).length+([]:List Keyword).length+(if ([]:List Keyword).isEmpty then 0 else 1)<30))=true:=by rfl) :
  ME P (.Call (.Attribute o "count" apos) [e] [] cpos) (eCnt mo me):=by
 obtain⟨to,po,hto⟩:=ho.out
 obtain⟨te,pe,hte⟩:=he.out
 refine ME.mk' (pe_bmT PySem.F.slot_tuple_count PySem.F.type_tuple_count (mt_countT hu) po (pa_cons pe pa_nil hs) hfew hbase hs hline) fun B0 B s st u z Q wd sl h=>hto B0 B s st u z _ wd sl (Post.bind h fun w st1 s1 v l1 wd1 r1 h1=>?_)
 obtain⟨xs,ex,h1⟩:=Post.of_of h1
 obtain rfl:w=.val (.tup xs):=by
  unfold W.tup? at ex
  split at ex
  ·cases ex;rfl
  ·cases ex
 cases r1 with
 | tup hq rl=>
  refine⟨⟨_,_,rfl,hq.mono wd1.sub⟩,hte B0 B s1 st1 u z _ wd1 (sl.mono' l1) (Post.bind h1 fun w2 st2 s2 v2 l2 wd2 r2 h2=>?_)⟩
  obtain⟨w3,e3,h2⟩:=of_eq h2
  unfold cntF at e3
  cases h1:w2.rd with
  | none=>rw[h1] at e3;cases e3
  | some d=>
   rw[h1,Option.bind_some] at e3
   split at e3
   ·rename_i ps p' eps ep
    split at e3
    ·rename_i hsh
     cases e3
     refine⟨v2,p',ps,rfl,?_,?_,hsh.2,hsh.1,h2.pure wd2 .int⟩
     ·rw[P.hK];exact .tup ((hq.mono l2.fr).mono wd2.sub).sq (pys_ok (rl.mono (l2.fr.trans wd2.sub) l2.io) eps)
     ·rw[P.hK];exact py_ok (rd_ok wd2 r2 h1) ep
    ·cases e3
   ·cases e3
end
abbrev MethParts (X:Cx) (o:Expr) (m:Str) (at1 at2:Pos) (es:List Expr) (pl:Sem Bool):Prop:=eval (.Call (.Attribute o m at1) es [] at2) X.env =
 (do let ov ← eval o X.env;standAt at1.atName;let (f,first) ← holding [ov] (getMethod ov m pl);callWith at2 f first (backTo at2 (starEach es X.env)) (backToKw at2 (keywordEach [] X.env)))
section
variable {P:P3} {pos p apos:Pos} {x m:Str} {e:Expr} {es:List Expr} {ma:AM} {mf:List D→M D} {k j n:Nat} {C f:Addr}
theorem me_gstr {z:Str} (hg:Gl P.X x) (h:∃t,P.X.mg x=some (.str z t)) (hd:(x == ("__debug__" : Str))=false:=by decide):ME P (.Name x pos) (eC (.str z)):=
 let ⟨_,h⟩:=h
 me_glob (v:=.str z) hg h ⟨_,rfl⟩ (fun _ _=>.str) hd
theorem me_gint {z:Int} (hg:Gl P.X x) (h:∃t,P.X.mg x=some (.int z t)) (hd:(x == ("__debug__" : Str))=false:=by decide):ME P (.Name x pos) (eC (.int z)):=
 let ⟨_,h⟩:=h
 me_glob (v:=.int z) hg h ⟨_,rfl⟩ (fun _ _=>.int) hd
structure GTup (K:PySem.W.Frag) (mg:Str→Option Value) (x:Str) (zs:List Str):Prop where
 ex:∃p o its n,mg x=some (.ref p)∧K.lookup p=some o∧o.cls=.type "tuple"∧o.data=.seq its n∧its.size≤sizeLine∧Vals (zs.map V.str) its.toList
theorem me_gtup {zs:List Str} (hg:Gl P.X x) (h:GTup P.X.K P.X.mg x zs) (hd:(x == ("__debug__" : Str))=false:=by decide):ME P (.Name x pos) (eC (.ctup (zs.map .str))):=by
 obtain⟨p,o,its,n,hm,lk,cl,da,sz,vs⟩:=h.ex
 exact me_glob (v:=.ref p) hg hm rfl (fun F io=>.ctup (.inr ⟨o,its,n,by show P.G.K.lookup p=_;rw[←P.hK];exact lk,cl,da,sz,vs⟩) (rep_strs zs)) hd
end
end M3
namespace M3
open PySem PySem.Spec PyProof.Rows L2
section
variable {G:G3} {X:Hex} {B0 B:Addr→Prop} {s:S3} {u:Sl3} {z:L2.St} {st:Store}
theorem own_put {p:Addr} (w:Wd G (plus B p) st s) (nb:¬B p) (o:HO) (nt:OwnH o:=by exact⟨fun _ q=>(by cases q),fun _ _ q=>(by first | exact dkO_code q | exact cellO_code q | (unfold LamX.CodeO at q;cases q))⟩):Wd G (plus B p) st ⟨s.io,s.F,upd s.H p o⟩:=by
 have hF:=(w.hid p (.inr rfl)).1
 refine⟨fun b v e=>?_,fun a b=>?_,w.ftb,w.dom,w.inj,fun k v e t=>?_,w.untM (IoLe.refl _) (Same.refl _),w.tabM (Same.refl _) (upd_tbl (w.ntbl (.inr rfl)))⟩
 ·show upd s.H p o b=some v
  rw[upd_ne (fun q=>by subst q;have e:s.F b=some v:=e;rw[hF] at e;cases e)]
  exact w.sub b v e
 ·by_cases q:a=p
  ·subst q;exact⟨hF,o,upd_same,nt⟩
  ·obtain⟨h1,v,h2,h3⟩:=w.hid a b
   exact⟨h1,v,by show upd s.H p o a=some v;rw[upd_ne q];exact h2,h3⟩
 ·obtain⟨a,e1,b1,f1,o1⟩:=w.obj k v e t
  have na:a≠p:=fun q=>b1 (.inr q)
  exact⟨a,e1,b1,f1,ObjR.mono (s:=s) (s':=⟨s.io,s.F,upd s.H p o⟩) (IoLe.refl _) (Same.refl _) (upd_ne na) o1⟩
theorem Slo.frzG {i:Nat} {w0:W} (h:Slo G X B0 B s u z) (b0:∀a,B0 a→B a) (wd:Wd G B st s) (e:u[i]?=some (some w0)) (o0:w0.own=true) :
  ∃p,z[i]?=some (some (.ref p))∧B p∧¬B0 p∧RepW G X B s w0 (.ref p)∧∀(ho:HO) (d:D),OwnH ho→Rep G.R (upd s.F p ho) s.io d (.ref p)→
   ∃(B':Addr→Prop) (s':S3),s'.H=upd s.H p ho∧(∀a,B0 a→B' a)∧Le B0 s s'∧Wd G B' st s'∧Slo G X B0 B' s' (u.set i (some (.val d))) z:=by
 obtain⟨hl,ow,h1,h2⟩:=h
 obtain⟨v,e1,rw0,q⟩:=h1 i _ e
 obtain⟨e3,nb⟩:=q o0
 subst e3
 obtain⟨p,e3,bp⟩:=own_ref o0 rw0
 injection e3 with e3
 subst e3
 refine⟨ow i,e1,bp,nb,rw0,fun ho d nt rd=>?_⟩
 have wd1:Wd G (plus (fun a=>B a∧a≠ow i) (ow i)) st s:=wd.less fun a y=>y.elim (fun y=>y.1) fun y=>y▸bp
 have nB:¬(fun a=>B a∧a≠ow i) (ow i):=fun y=>y.2 rfl
 have hF:=(wd.hid (ow i) bp).1
 have wd2:=freeze_wd (own_put wd1 nB ho nt) nB upd_same
 have le:Le B0 s ⟨s.io,upd s.F (ow i) ho,upd s.H (ow i) ho⟩:=⟨IoLe.refl _,same_upd hF,fun a ba=>upd_ne fun y=>nb (y▸ba)⟩
 refine⟨fun a=>B a∧a≠ow i,⟨s.io,upd s.F (ow i) ho,upd s.H (ow i) ho⟩,rfl,fun a y=>⟨b0 a y,fun y'=>nb (y'▸y)⟩,le,wd2,by simpa using hl,ow,fun j w ej=>?_,fun j k w w' o1 o2 q1 q2 q3=>?_⟩
 ·rcases get_set ej with⟨rfl,rfl⟩ | ⟨ne,ej⟩
  ·exact⟨.ref (ow i),e1,rd,fun q'=>by cases q'⟩
  ·obtain⟨v,ev,rv,qv⟩:=h1 j w ej
   refine⟨v,ev,?_,qv⟩
   have away:w.own=true→∀p',v=.ref p'→p'≠ow i:=fun ow' p' e' y=>by
    obtain⟨e4,_⟩:=qv ow'
    rw[e'] at e4
    injection e4 with e4
    exact ne (h2 i j w0 w o0 ow' e ej (by rw[←e4,y]))
   cases w with
   | val d=>exact Rep.mono le.fr le.io rv
   | exn c x=>
    obtain⟨ax,dd,x1,x2,xf⟩:=rv
    exact⟨ax,dd,x1,x2,xf.mono le.io le.fr⟩
   | bor xs'=>
    obtain⟨p',vs',rfl,b',hp',rl'⟩:=rv
    exact⟨p',vs',rfl,⟨b',away rfl p' rfl⟩,(upd_ne (away rfl p' rfl)).trans hp',rl'.mono le.fr le.io⟩
   | bod ks us=>
    obtain⟨p',vs',rfl,b',hp',e',rl'⟩:=rv
    exact⟨p',vs',rfl,⟨b',away rfl p' rfl⟩,(upd_ne (away rfl p' rfl)).trans hp',e',rl'.mono le.fr le.io⟩
   | bdd ks us=>
    obtain⟨p',vs',rfl,b',hp',rl'⟩:=rv
    exact⟨p',vs',rfl,⟨b',away rfl p' rfl⟩,(upd_ne (away rfl p' rfl)).trans hp',rl'.mono le.fr le.io⟩
   | len ys=>
    obtain⟨p',vs',o,rfl,b',hp',rl'⟩:=rv
    have ne:=own_unlocked o0 rw0 hp'
    exact⟨p',vs',o,rfl,⟨b',ne⟩,(upd_ne ne).trans hp',rl'.mono le.fr le.io⟩
 ·rcases get_set q1 with⟨_,y⟩ | ⟨_,q1⟩
  ·subst y;cases o1
  ·rcases get_set q2 with⟨_,y⟩ | ⟨_,q2⟩
   ·subst y;cases o2
   ·exact h2 j k w w' o1 o2 q1 q2 q3
end
theorem ps_lockOn {X:Cx} {st:Stmt} {t:TS} (h:PS X st t):PS X st (fun D σ H=>t D σ H∨∃d u,H d=some u∧Mut (some u)∧∀od,t D σ (upd H d (.frz od u))):=
 ⟨fun pins s σ H D I q=>q.elim (h.run pins s σ H D I) fun ⟨_,_,hd,mu,hw⟩=>
  let ⟨od,I1⟩:=I.lock hd mu
  h.run pins s σ _ D I1 (hw od)⟩
theorem pe_lockOn {X:Cx} {e:Expr} {t:TE} (h:PE X e t):PE X e (fun σ H Q=>t σ H fun v H'=>∃d u,v=.ref d∧H' d=some u∧Mut (some u)∧∀od,Q v (upd H' d (.frz od u))):=
 ⟨fun pins s σ H Q I q=>thn (h.run pins s σ H _ I q) fun v s1 ⟨x,H1,I1,r1,d,u,ex,hd,mu,hw⟩=>
  let ⟨od,I2⟩:=I1.lock hd mu
  ⟨x,_,I2,r1,hw od⟩⟩
def sFrzD (i:Nat):SM:=fun u st=>match u[i]? with
 | some (some (.bod ks us))=>.nx (u.set i (some (.val (.dict ks us)))) st
 | _=>.bad
section
variable {P:P3} {pos:Pos}
theorem ms_frzD {st:Stmt} {m:SM} (i:Nat) (h:MS P st m):MS P st (sSeq (sFrzD i) m):=by
 obtain⟨t,pt,ht⟩:=h.out
 refine MS.mk' (ps_lockOn pt) fun B0 B s o u z D b0 wd sl h=>?_
 unfold sSeq sFrzD at h
 cases eu:u[i]? with
 | none=>rw[eu] at h;exact h.elim
 | some ow=>
  rw[eu] at h
  cases ow with
  | none=>exact h.elim
  | some w=>
   cases w with
   | bod ks us=>
    obtain⟨p,ez,bp,nb,⟨p',kvs,e',_,hp,ek,rl⟩,fz⟩:=sl.frzG b0 wd eu rfl
    cases e'
    refine .inr ⟨p,.dK kvs,hp,True.intro,fun od=>?_⟩
    have hF:=(wd.hid p bp).1
    obtain⟨B',s',eH,b',le,wd',sl'⟩:=fz (.frz od (.dK kvs)) (.dict ks us) (by exact⟨fun _ q=>(by cases q),fun _ _ q=>(by first | exact dkO_code q | exact cellO_code q | (unfold LamX.CodeO at q;cases q))⟩) (.dict upd_same ek (rl.mono (same_upd hF) (IoLe.refl _)))
    rw[←eH]
    exact ht B0 B' s' o _ z D b' wd' sl' (PostS.mono le h)
   | _=>exact h.elim
def sOwnD (i:Nat):SM:=fun u st=>.nx (u.set i (some (.bod [] []))) st
theorem ms_ownD (i:Nat) {x:Str} {p dp:Pos} (hN:P.X.N.Nodup) (hi:P.X.N[i]?=some x:=by rfl) (hx:Loc P.X.env.scope x:=by first | exact Or.inl rfl | exact Or.inr rfl) (hs:swapsWith (.Dict [] [] dp) (some (.Name x p)) pos.line P.X.env=pure false:=by rfl)
  (hf:P.X.fn x=true∨P.X.env.scope.names.lookup x=some .local:=by first | exact .inl rfl | exact .inr rfl | assumption):MS P (.Assign [.Name x p] (.Dict [] [] dp) pos) (sOwnD i):=by
 refine MS.mk' (ps_set hN hi hx pe_dnewK hs hf) fun B0 B s o u z D b0 wd sl h=>fun p hp=>?_
 obtain⟨w2,l2⟩:=own_wd (ho:=.dK []) wd hp
 have nb:¬B p:=wd.freshB hp
 exact h (plus B p) ⟨s.io,s.F,upd s.H p (.dK [])⟩ _ (fun a q=>.inl (b0 a q)) (l2.less b0) w2 ((sl.mono' l2).ownW (w0:=.bod [] []) nb (fun q=>nb (b0 p q)) ⟨p,[],rfl,.inr rfl,upd_same,rfl,.nil⟩ i)
def sRetD (i:Nat):SM:=fun u st=>match u[i]? with
 | some (some (.bod ks us))=>.rt (.val (.dict ks us)) st
 | _=>.bad
theorem ms_retD (i:Nat) {x:Str} {p:Pos} (hN:P.X.N[i]?=some x:=by rfl) (hv:Vis P.X.env.scope x:=by first | exact Or.inl rfl | exact Or.inr (Or.inl rfl) | exact Or.inr (Or.inr rfl)) (hd:(x == ("__debug__" : Str))=false:=by decide)
  (hcd:(x == ("__classdict__" : Str))=false:=by decide):MS P (.Return (some (.Name x p)) pos) (sRetD i):=by
 refine MS.mk' (ps_ret (pe_lockOn (pe_var hN hv hd hcd))) fun B0 B s o u z D b0 wd sl h=>?_
 unfold sRetD at h
 split at h
 ·rename_i ks us eu
  obtain⟨p,ez,bp,nb,⟨p',kvs,e',_,hp,ek,rl⟩,fz⟩:=sl.frzG b0 wd eu rfl
  cases e'
  refine⟨.ref p,ez,p,.dK kvs,rfl,hp,True.intro,fun od=>?_⟩
  have hF:=(wd.hid p bp).1
  have rd:Rep P.G.R (upd s.F p (.frz od (.dK kvs))) s.io (.dict ks us) (.ref p):=.dict upd_same ek (rl.mono (same_upd hF) (IoLe.refl _))
  have wd1:Wd P.G (plus (fun a=>B a∧a≠p) p) o s:=wd.less fun a y=>y.elim (fun y=>y.1) fun y=>y▸bp
  have nB:¬(fun a=>B a∧a≠p) p:=fun y=>y.2 rfl
  exact h (fun a=>B a∧a≠p) ⟨s.io,upd s.F p (.frz od (.dK kvs)),upd s.H p (.frz od (.dK kvs))⟩ (.ref p) (fun a y=>⟨b0 a y,fun y'=>nb (y'▸y)⟩)
   ⟨IoLe.refl _,same_upd hF,fun a ba=>upd_ne fun y=>nb (y▸ba)⟩ (freeze_wd (own_put wd1 nB _) nB upd_same) rd
 ·exact h.elim
def sSetK (i:Nat) (mi me:EM):SM:=fun u st=>match u[i]? with
 | some (some (.bod ks us))=>match me u st with
  | .ok (.val d) st1=>match mi u st1 with
   | .ok (.val k) st2=>match k.key with
    | some k=>if ks.length<1000000 then .nx (u.set i (some (.bod (putK3 ks us k d).1 (putK3 ks us k d).2))) st2 else .bad
    | none=>.bad
   | .err c x st2=>.err c x u st2
   | _=>.bad
  | .err c x st1=>.err c x u st1
  | _=>.bad
 | _=>.bad
theorem setK3_ok {κ:Type} [DecidableEq κ] {K:KW} {F:Hp} {io:Io} (x:κ) {d:D} {v:V} (rd:Rep K F io d v):∀{kvs:List (κ×V)} {us:List D},RepL K F io us (kvs.map (·.2))→
  RepL K F io (setK3 (kvs.map (·.1)) us x d) ((kvs.map fun kv=>if kv.1=x then (kv.1,v) else kv).map (·.2))
 | [],_,rl=>by
  cases rl
  exact .nil
 | (k,w) :: kvs,[],rl=>by cases rl
 | (k,w) :: kvs,c :: us,rl=>by
  obtain⟨r,t⟩:Rep K F io c w∧RepL K F io us (kvs.map (·.2)):=by
   cases rl with
   | cons r t=>exact⟨r,t⟩
  have ih:=setK3_ok x rd t
  simp only[List.map_cons,setK3]
  by_cases h:k=x
  ·rw[if_pos h,if_pos h];exact .cons rd ih
  ·rw[if_neg h,if_neg h];exact .cons r ih
theorem putK3_ok {κ:Type} [DecidableEq κ] {K:KW} {F:Hp} {io:Io} (x:κ) {d:D} {v:V} (rd:Rep K F io d v) {kvs:List (κ×V)} {us:List D} (rl:RepL K F io us (kvs.map (·.2))) :
  (putK kvs x v).map (·.1)=(putK3 (kvs.map (·.1)) us x d).1∧RepL K F io (putK3 (kvs.map (·.1)) us x d).2 ((putK kvs x v).map (·.2)):=by
 have e:((kvs.any fun kv=>decide (kv.1=x))=true)=(x∈kvs.map (·.1)):=by
  apply propext
  rw[List.any_eq_true,List.mem_map]
  exact⟨fun ⟨p,hp,h⟩=>⟨p,hp,of_decide_eq_true h⟩,fun ⟨p,hp,h⟩=>⟨p,hp,decide_eq_true h⟩⟩
 unfold putK putK3
 by_cases h:x∈kvs.map (·.1)
 ·rw[if_pos (by rw[e];exact h),if_pos h]
  refine⟨?_,setK3_ok x rd rl⟩
  rw[List.map_map]
  apply List.map_congr_left
  intro p _
  simp only[Function.comp]
  split <;> rfl
 ·rw[if_neg (by rw[e];exact h),if_neg h]
  simp only[List.map_append,List.map_cons,List.map_nil]
  exact⟨trivial,rl.append (.cons rd .nil)⟩
theorem ms_setK (i:Nat) {x:Str} {px ipos:Pos} {ei e:Expr} {mi me:EM} (hu:P.X.A.units+65<cLine) (hi:ME P ei mi) (he:ME P e me) (hN:P.X.N[i]?=some x:=by rfl) (hv:Vis P.X.env.scope x:=by first | exact Or.inl rfl | exact Or.inr (Or.inl rfl) | exact Or.inr (Or.inr rfl)) (hd:(x == ("__debug__" : Str))=false:=by decide)
  (hcd:(x == ("__classdict__" : Str))=false:=by decide)
  (ha:SubParts P.X (.Name x px) ei ipos:=by intro _;rfl)
  (hs:swapsWithSole [.Subscript (.Name x px) ei ipos] e pos.line P.X.env=pure false:=by rfl) (hw:swappedStores [.Subscript (.Name x px) ei ipos] e P.X.env=pure none:=by rfl)
  (h1:(assignEach [.Subscript (.Name x px) ei ipos] P.X.env).map (·.2)=[assign (.Subscript (.Name x px) ei ipos) P.X.env]:=by rfl) :
  MS P (.Assign [.Subscript (.Name x px) ei ipos] e pos) (sSetK i mi me):=by
 obtain⟨t,pt,ht⟩:=he.out
 obtain⟨ti,pi,hti⟩:=hi.out
 refine MS.mk' (ps_asg pt (pg_sub (pe_var hN hv hd hcd) pi (set_dict (Nat.lt_of_le_of_lt (by omega) hu)) ha) hs hw h1) fun B0 B s o u z D b0 wd sl h=>ht B0 B s o u z _ wd sl ?_
 unfold sSetK at h
 split at h
 ·rename_i ks us eu
  obtain⟨p,e2,bp,nb,_,_⟩:=sl.changeW wd eu rfl
  cases e:me u o with
  | bad=>rw[e] at h;exact h
  | err c x st'=>rw[e] at h;exact fun s' cv dd l w q=>h B s' z cv dd b0 (l.less b0) w (sl.mono' l) q
  | ok w st1=>
   rw[e] at h
   cases w with
   | val d=>
    dsimp only at h
    intro s1 v l1 wd1 r1
    refine⟨.ref p,e2,hti B0 B s1 st1 u z _ wd1 (sl.mono' l1) ?_⟩
    cases e3:mi u st1 with
    | bad=>rw[e3] at h;exact h
    | err c x st'=>rw[e3] at h;exact fun s' cv dd l w q=>h B s' z cv dd b0 ((l1.trans l).less b0) w (sl.mono' (l1.trans l)) q
    | ok w2 st2=>
     rw[e3] at h
     split at h
     ·rename_i kd st3 e4
      cases e4
      split at h
      ·rename_i k ek
       split at h
       ·rename_i hz
        intro s2 v2 l2 wd2 r2
        obtain⟨p',e2',bp',nb',⟨p2,kvs,ep2,_,hp,eks,rl⟩,ch⟩:=(sl.mono' (l1.trans l2)).changeW wd2 eu rfl
        rw[e2] at e2'
        cases e2'
        cases ep2
        subst eks
        obtain rfl:=key_ok r2 ek
        obtain⟨q1,q2⟩:=putK3_ok k (Rep.mono l2.fr l2.io r1) rl
        obtain⟨sl3,w3,l3⟩:=ch (.bod (putK3 (kvs.map (·.1)) us k d).1 (putK3 (kvs.map (·.1)) us k d).2) (.dK (putK kvs k v)) rfl ⟨p,_,rfl,bp,upd_same,q1,q2⟩
        exact⟨p,_,rfl,DPut.k hp (by rw[List.length_map] at hz;exact szl hz),h B _ z b0 (((l1.trans l2).less b0).trans l3) w3 sl3⟩
       ·exact h.elim
      ·exact h.elim
     ·rename_i e4;cases e4
     ·exact h.elim
   | _=>exact h.elim
 ·exact h.elim
end
section
variable {P:P3} {pos:Pos} {a b:Expr} {ma mb:EM}
def dgF (x y:W):Option W:=x.dic.bind fun d=>match y with
 | .val k=>(dgetF d k).bind fun o=>o.map .val
 | _=>none
theorem me_dg (hu:P.X.A.units+65<cLine) (ha:ME P a ma) (hb:ME P b mb) (hs:NoSl b:=by intro _ _;rfl):ME P (.Subscript a b pos) (eBin dgF ma mb):=by
 obtain⟨ta,pa,ha⟩:=ha.out
 obtain⟨tb,pb,hb⟩:=hb.out
 refine ME.mk' (pe_dget (Nat.lt_of_le_of_lt (by omega) hu) pa pb hs) fun B0 B s st u z Q wd sl hp=>ha B0 B s st u z _ wd sl (Post.bind hp fun w1 st1 s1 v1 l1 wd1 r1 h1=>?_)
 refine hb B0 B s1 st1 u z _ wd1 (sl.mono l1) (Post.bind h1 fun w2 st2 s2 v2 l2 wd2 r2 h2=>?_)
 obtain⟨w,e,h2⟩:=of_eq h2
 unfold dgF at e
 cases h3:w1.dic with
 | none=>rw[h3] at e;cases e
 | some d=>
  rw[h3,Option.bind_some] at e
  split at e
  ·rename_i kd
   obtain⟨a,rfl,at_⟩:=dic_ok wd2 (r1.mono l2) h3
   cases hg:dgetF d kd with
   | none=>rw[hg] at e;cases e
   | some o=>
    rw[hg,Option.bind_some] at e
    cases o with
    | none=>cases e
    | some d'=>
     cases e
     obtain⟨ov,g,_,h⟩:=dget_ok at_ wd2.sub r2 hg
     obtain⟨v,rfl,rv⟩:=h d' rfl
     exact⟨a,v,rfl,g,h2.pure wd2 rv⟩
  ·cases e
end
end M3
namespace M3
open PySem PySem.Spec PyProof.Rows L2
section
variable {G:G3} {X:Hex} {B:Addr→Prop} {s:S3} {st:Store}
theorem Wd.lt {k:Nat} {a:Addr} (w:Wd G B st s) (e:s.io k=some a):k<st.length:=w.dom k a e
theorem Wd.setO {k:Nat} {a:Addr} {o':MO} {ho:HO} (w:Wd G B st s) (e:s.io k=some a) (nb:¬B a) (hF:s.F a=none) (r:ObjR G ⟨s.io,s.F,upd s.H a ho⟩ a o') {o:MO} (ek:st[k]?=some o) (t:o.tr=true:=by rfl) :
  Wd G B (st.set k o') ⟨s.io,s.F,upd s.H a ho⟩∧Le B s ⟨s.io,s.F,upd s.H a ho⟩:=by
 have away:∀b,B b→b≠a:=fun b bb y=>nb (y▸bb)
 refine⟨⟨fun b v eb=>?_,fun b bb=>?_,w.ftb,fun j b eb=>by rw[List.length_set];exact w.dom j b eb,fun i j b oi oj e1 e2 q1 t1 q2 t2=>?_,fun j o ej tj=>?_,fun j o ej tj=>?_,w.tabM (Same.refl _) (upd_tbl fun ps z=>by obtain⟨a',e',_,_,x'⟩:=w.obj k o ek t;rw[e] at e';cases e';exact x'.ntbl ps z)⟩,IoLe.refl _,Same.refl _,fun b bb=>upd_ne (away b bb)⟩
 ·show upd s.H a ho b=some v
  rw[upd_ne (fun q=>by subst q;have eb:s.F b=some v:=eb;rw[hF] at eb;cases eb)]
  exact w.sub b v eb
 ·obtain⟨h1,v,h2,h3⟩:=w.hid b bb
  exact⟨h1,v,(upd_ne (away b bb)).trans h2,h3⟩
 ·have old:∀{i b oi},s.io i=some b→(st.set k o')[i]?=some oi→oi.tr=true→∃o,st[i]?=some o∧o.tr=true:=fun {i b oi} _ q t1=>by
   by_cases z:k=i
   ·subst z;exact⟨o,ek,t⟩
   ·rw[List.getElem?_set_ne z] at q;exact⟨oi,q,t1⟩
  obtain⟨oi',q1',t1'⟩:=old e1 q1 t1
  obtain⟨oj',q2',t2'⟩:=old e2 q2 t2
  exact w.inj i j b oi' oj' e1 e2 q1' t1' q2' t2'
 ·by_cases q:k=j
  ·subst q
   rw[List.getElem?_set_self (w.dom k a e)] at ej
   cases ej
   exact⟨a,e,nb,hF,r⟩
  ·rw[List.getElem?_set_ne q] at ej
   obtain⟨b,e1,b1,f1,o1⟩:=w.obj j o ej tj
   have na:b≠a:=fun y=>q (w.inj k j a _ _ e (y▸e1) ek t ej tj)
   exact⟨b,e1,b1,f1,ObjR.mono (s:=s) (s':=⟨s.io,s.F,upd s.H a ho⟩) (IoLe.refl _) (Same.refl _) (upd_ne na) o1⟩
 ·by_cases q:k=j
  ·subst q
   rw[List.getElem?_set_self (w.dom k a e)] at ej
   cases ej
   rw[r.tr] at tj;cases tj
  ·rw[List.getElem?_set_ne q] at ej
   exact w.untM (s':=⟨s.io,s.F,upd s.H a ho⟩) (IoLe.refl _) (Same.refl _) j o ej tj
def ioNew (io:Io) (n:Nat) (p:Addr):Io:=fun j=>if j=n then some p else io j
theorem Wd.newO {p:Addr} {o:MO} {H':Hp} (w:Wd G B st s) (hp:s.H p=none) (hs:Same s.H H') (r:ObjR G ⟨ioNew s.io st.length p,s.F,H'⟩ p o) :
  Wd G B (st++[o]) ⟨ioNew s.io st.length p,s.F,H'⟩∧Le B s ⟨ioNew s.io st.length p,s.F,H'⟩∧ioNew s.io st.length p st.length=some p:=by
 have hio:IoLe s.io (ioNew s.io st.length p):=fun k a e=>by
  have:=w.dom k a e
  unfold ioNew
  rw[if_neg (by omega)]
  exact e
 have old:∀a,(∃v,s.H a=some v)→H' a=s.H a:=fun a ⟨v,e⟩=>by rw[hs a v e,e]
 refine⟨⟨fun b v eb=>hs b v (w.sub b v eb),fun b bb=>?_,w.ftb,fun k a e=>?_,fun j k a oj ok e1 e2 q1 t1 q2 t2=>?_,fun k v e t=>?_,fun k v e t=>?_,w.tabM (Same.refl _) fun P ps e=>hs P _ e⟩,⟨hio,Same.refl _,fun b bb=>old b (let ⟨_,v,e,_⟩:=w.hid b bb;⟨v,e⟩)⟩,if_pos rfl⟩
 ·obtain⟨h1,v,h2,h3⟩:=w.hid b bb
  exact⟨h1,v,hs b v h2,h3⟩
 ·rw[List.length_append]
  have e:(if k=st.length then some p else s.io k)=some a:=e
  by_cases q:k=st.length
  ·rw[q];simp
  ·rw[if_neg q] at e
   have:=w.dom k a e
   simp;omega
 ·have e1:(if j=st.length then some p else s.io j)=some a:=e1
  have e2:(if k=st.length then some p else s.io k)=some a:=e2
  by_cases z1:j=st.length
  ·by_cases z2:k=st.length
   ·rw[z1,z2]
   ·rw[if_pos z1] at e1;rw[if_neg z2] at e2
    cases e1
    rw[List.getElem?_append_left (w.dom k _ e2)] at q2
    exact absurd e2 (w.freshI hp q2 t2)
  ·by_cases z2:k=st.length
   ·rw[if_neg z1] at e1;rw[if_pos z2] at e2
    cases e2
    rw[List.getElem?_append_left (w.dom j _ e1)] at q1
    exact absurd e1 (w.freshI hp q1 t1)
   ·rw[if_neg z1] at e1;rw[if_neg z2] at e2
    rw[List.getElem?_append_left (w.dom j _ e1)] at q1
    rw[List.getElem?_append_left (w.dom k _ e2)] at q2
    exact w.inj j k a _ _ e1 e2 q1 t1 q2 t2
 ·by_cases q:k<st.length
  ·rw[List.getElem?_append_left q] at e
   obtain⟨a,e1,b1,f1,o1⟩:=w.obj k v e t
   have hh:∃y,s.H a=some y:=o1.there
   exact⟨a,hio k a e1,b1,f1,ObjR.mono (s:=s) (s':=⟨ioNew s.io st.length p,s.F,H'⟩) hio (Same.refl _) (old a hh) o1⟩
  ·rw[List.getElem?_append_right (by omega)] at e
   have q2:k - st.length=0:=by
    cases z:k - st.length with
    | zero=>rfl
    | succ n=>rw[z] at e;simp at e
   rw[q2] at e
   simp at e
   subst e
   have:k=st.length:=by omega
   subst this
   exact⟨p,if_pos rfl,w.freshB hp,w.freshF hp,r⟩
 ·by_cases q:k<st.length
  ·rw[List.getElem?_append_left q] at e
   exact w.untM (s':=⟨ioNew s.io st.length p,s.F,H'⟩) hio (Same.refl _) k v e t
  ·have hk:=(List.getElem?_eq_some_iff.mp e).1
   rw[List.length_append] at hk
   simp at hk
   rw[List.getElem?_append_right (by omega),show k - st.length=0 by omega] at e
   simp at e
   subst e
   rw[r.tr] at t;cases t
end
def insOf (w:W):M (Nat×String×List (Str×D)):=fun st=>match w with
 | .val (.ref k)=>match st[k]? with
  | some (.ins c fs)=>.ok (k,c,fs) st
  | _=>.bad
 | _=>.bad
theorem ins_of {w:W} {st st':Store} {q:Nat×String×List (Str×D)} (e:insOf w st=.ok q st'):st'=st∧w=.val (.ref q.1)∧st[q.1]?=some (.ins q.2.1 q.2.2):=by
 unfold insOf at e
 split at e
 ·split at e
  ·rename_i h;cases e;exact⟨rfl,rfl,h⟩
  ·cases e
 ·cases e
section
variable {α β:Type} {G:G3} {X:Hex} {B:Addr→Prop} {s:S3} {st:Store} {R:S3→α→β→Prop} {E:XK} {Q:β→Hp→Prop}
theorem Post.of_ins {w:M3.W} {v:V} {f:Nat×String×List (Str×D)→M α} (wd:Wd G B st s) (r:RepW G X B s w v) (h:Post G B R E s Q (M.bind (insOf w) f st)) :
  ∃k c fs a C dx gs,w=.val (.ref k)∧v=.ref a∧s.io k=some a∧st[k]?=some (.ins c fs)∧G.cls c=some C∧s.H a=some (.ins C dx gs)∧FsR G.R s.F s.io fs gs∧¬B a∧s.F a=none∧Post G B R E s Q (f (k,c,fs) st):=by
 unfold M.bind at h
 cases e:insOf w st with
 | bad=>rw[e] at h;exact h.elim
 | err c x st'=>
  exfalso
  unfold insOf at e
  split at e
  ·split at e <;> cases e
  ·cases e
 | ok q st'=>
  rw[e] at h
  obtain⟨rfl,rfl,ek⟩:=ins_of e
  have r:Rep G.R s.F s.io (.ref q.1) v:=r
  cases r with
  | ref eio=>
   obtain⟨a,e1,b1,f1,C,dx,gs,ec,eh,rf⟩:=wd.obj _ _ ek rfl
   rw[eio] at e1
   cases e1
   exact⟨q.1,q.2.1,q.2.2,_,C,dx,gs,rfl,rfl,eio,ek,ec,eh,rf,b1,f1,h⟩
end
structure FldOk (K:PySem.W.Frag) (G:G3) (c:String) (f:Str):Prop where
 ex:∃C,G.cls c=some C∧Cls K C∧NoAttr K C f
def eFld (cs:List String) (f:Str) (m:EM):EM:=fun u=>M.bind (m u) fun w=>M.bind (insOf w) fun q=>M.bind (M.chk (q.2.1∈cs)) fun _=>M.bind (M.of (q.2.2.lookup f)) fun d=>M.pure (.val d)
section
variable {P:P3} {pos pos':Pos} {e o:Expr} {m mo:EM} {f:Str} {cs:List String}
theorem me_fld (ok:∀c∈cs,FldOk P.X.K P.G c f) (he:ME P e m) (hb:attributeBase e f P.X.env (eval e P.X.env)=eval e P.X.env:=by rfl):ME P (.Attribute e f pos) (eFld cs f m):=by
 obtain⟨t,pt,ht⟩:=he.out
 refine ME.mk' (pe_fld pt hb) fun B0 B s st u z Q wd sl h=>ht B0 B s st u z _ wd sl (Post.bind h fun w st1 s1 v l1 wd1 r1 h1=>?_)
 obtain⟨k,c,fs,a,C,dx,gs,rfl,rfl,eio,ek,ec,eh,rf,nb,hF,h1⟩:=Post.of_ins wd1 r1 h1
 obtain⟨hm,h1⟩:=Post.of_chk h1
 obtain⟨d,ed,h1⟩:=Post.of_of h1
 obtain⟨C',ec',hc,hn⟩:=(ok c hm).ex
 rw[ec] at ec'
 cases ec'
 obtain⟨v,ev,rv⟩:=(rf.look (f:=f)).1 d ed
 exact⟨a,C,dx,gs,v,rfl,eh,hc,hn,ev,h1.pure wd1 rv⟩
def put3 (f:Str) (d:D):List (Str×D)→List (Str×D)
 | []=>[(f,d)]
 | (g,e) :: r=>if g=f then (g,d) :: r else (g,e) :: put3 f d r
theorem put3_ok {K:KW} {F:Hp} {io:Io} {d:D} {v:V} (r:Rep K F io d v):∀{fs:List (Str×D)} {gs:List (Str×V)},FsR K F io fs gs→FsR K F io (put3 f d fs) (putF f v gs)
 | _,_,.nil=>.cons r .nil
 | _,_,.cons (f:=g) q t=>by
  unfold put3 putF
  by_cases h:g=f
  ·rw[if_pos h,if_pos h];exact .cons r t
  ·rw[if_neg h,if_neg h];exact .cons q (put3_ok r t)
def sFldS (cs:List String) (f:Str) (mo me:EM):SM:=fun u st=>match M.bind (me u) (fun w=>M.bind (M.of w.d) fun d=>M.bind (mo u) fun x=>M.bind (insOf x) fun q=>M.bind (M.chk (q.2.1∈cs∧q.2.2.length<500)) fun _=>fun st=>.ok () (st.set q.1 (.ins q.2.1 (put3 f d q.2.2)))) st with
 | .ok _ st'=>.nx u st'
 | .err c x st'=>.err c x u st'
 | .bad=>.bad
theorem ms_fld (ok:∀c∈cs,FldOk P.X.K P.G c f) (ho:ME P o mo) (he:ME P e m) (hs:swapsWith e (some (.Attribute o f pos')) pos.line P.X.env=pure false:=by rfl):MS P (.Assign [.Attribute o f pos'] e pos) (sFldS cs f mo m):=by
 obtain⟨t,pt,ht⟩:=he.out
 obtain⟨to,po,hto⟩:=ho.out
 refine MS.mk' (ps_fld po pt hs) fun B0 B s st u z D b0 wd sl h=>ht B0 B s st u z _ wd sl ?_
 unfold sFldS at h
 generalize hm:M.bind (m u) (fun w=>M.bind (M.of w.d) fun d=>M.bind (mo u) fun x=>M.bind (insOf x) fun q=>M.bind (M.chk (q.2.1∈cs∧q.2.2.length<500)) fun _=>fun st=>Res.ok () (st.set q.1 (.ins q.2.1 (put3 f d q.2.2))))=mm at h
 have hp:Post P.G B (fun _ (_:Unit) (_:Unit)=>True) (fun c d H=>P.wx c d z H) s (fun (_:Unit) H'=>D.nx z H') (mm st):=by
  cases e:mm st with
  | ok _ st'=>rw[e] at h;exact fun s' _ l w _=>h B s' z b0 (l.less b0) w (sl.mono' l)
  | err c x st'=>rw[e] at h;exact fun s' cv dd l w q=>h B s' z cv dd b0 (l.less b0) w (sl.mono' l) q
  | bad=>rw[e] at h;exact h
 rw[←hm] at hp
 refine Post.bind hp fun w st1 s1 v l1 wd1 r1 h1=>?_
 obtain⟨d,ed,h1⟩:=Post.of_of h1
 obtain rfl:w=.val d:=by cases w <;> cases ed;rfl
 refine hto B0 B s1 st1 u z _ wd1 (sl.mono' l1) (Post.bind h1 fun w2 st2 s2 v2 l2 wd2 r2 h2=>?_)
 obtain⟨k,c,fs,a,C,dx,gs,rfl,rfl,eio,ek,ec,eh,rf,nb,hF,h2⟩:=Post.of_ins wd2 r2 h2
 obtain⟨⟨hmem,hz⟩,h2⟩:=Post.of_chk h2
 obtain⟨C',ec',hc,hn⟩:=(ok c hmem).ex
 rw[ec] at ec'
 cases ec'
 have rd:Rep P.G.R s2.F s2.io d v:=Rep.mono l2.fr l2.io r1
 obtain⟨w3,l3⟩:=wd2.setO (o':=.ins c (put3 f d fs)) (ho:=.ins C dx (putF f v gs)) eio nb hF ⟨C,dx,_,ec,upd_same,put3_ok rd rf⟩ ek
 exact⟨a,C,dx,gs,rfl,eh,hc,hn,by rw[←rf.length];exact Nat.lt_trans hz (by decide),h2 _ () l3 w3 trivial⟩
def eNewL (mf:FM):EM:=fun u st=>match mf u st with
 | .ok xs st'=>.ok (.val (.ref st'.length)) (st'++[.lst xs])
 | .err c x st'=>.err c x st'
 | .bad=>.bad
def mMake (c:String) (mf:List D→M D) (ds:List D):M W:=fun st=>match mf (.ref st.length :: ds) (st++[.ins c []]) with
 | .ok .non st'=>.ok (.val (.ref st.length)) st'
 | .ok _ _=>.bad
 | .err c x st'=>.err c x st'
 | .bad=>.bad
theorem make_post {G:G3} {X:Hex} {B:Addr→Prop} {s:S3} {st:Store} {E:XK} {Q:VK} {c:String} {C:Addr} {mf:List D→M D} {ds:List D} {vs:List V} {n:Nat} (hc:G.cls c=some C) (wd:Wd G B st s) (rl:RepL G.R s.F s.io ds vs) (hl:ds.length=n)
  (h:Post G B (RepW G X B) E s Q (mMake c mf ds st)) {x dx:Addr} (hx:s.H x=none) (hd:s.H dx=none) (ne:dx≠x) :
  spM G (n+1) mf (.ref x :: vs) (upd (upd s.H dx (.own x)) x (.ins C dx [])) (fun v H2=>v=.non∧Q (.ref x) H2) E:=by
 have hs:Same s.H (upd (upd s.H dx (.own x)) x (.ins C dx [])):=fun a o e=>by
  rw[upd_ne (ne_of_none e hx),upd_ne (ne_of_none e hd)];exact e
 obtain⟨w2,l2,e2⟩:=wd.newO (o:=.ins c []) hx hs ⟨C,dx,[],hc,upd_same,.nil⟩
 refine⟨by rw[List.length_cons,←rl.length,hl],B,_,_,.ref st.length :: ds,rfl,w2,.cons (.ref e2) (rl.mono l2.fr l2.io),?_⟩
 unfold mMake at h
 cases em:mf (.ref st.length :: ds) (st++[.ins c []]) with
 | bad=>rw[em] at h;exact h
 | err c x st'=>rw[em] at h;exact fun s' cv dd l w q=>h s' cv dd (l2.trans l) w q
 | ok d st'=>
  rw[em] at h
  cases d with
  | non=>
   intro s' v l w r
   cases r
   exact⟨rfl,h s' (.ref x) (l2.trans l) w (.ref (l.io _ _ e2))⟩
  | _=>exact h.elim
end
end M3
namespace M3
open PySem PySem.Spec PyProof.Rows L2
section
variable {X:Cx} {CX:CXH} {k:Nat} {f C:Addr} {fd:FuncData} {ps:List Str} {sp:Sp} {x m:Str} {p pos apos:Pos} {e o:Expr} {es:List Expr} {ta:TE} {t tk:TA}
theorem made_runs {E:XK} {pins:List (Addr×Obj)} {σ:L2.St} {H:Hp} {s:Shared} {Q:VK} {us all:List Value} {kw:List (Str×Value)} {vs:List V} (M:Mk X.K C f) (F:FnOk X.prog X.w X.K X.mg X.base CX k f fd ps sp) (hr:Room (k+1) X)
  (hx:PassesAt (CX X.A.handled) X σ E) (I:Inv X pins σ H s) (r:Vals vs all) (hb:∀(s':Shared) (u:Value),X.K.In s'.heap→(u :: all).length=ps.length→BindsTo s' fd ⟨u :: us,kw⟩ (ps.zip (u :: all)))
  (h:∀x dx,H x=none→H dx=none→dx≠x→sp (.ref x :: vs) (upd (upd H dx (.own x)) x (.ins C dx [])) (fun v H2=>v=.non∧Q (.ref x) H2) E) :
  wpAny (model X.prog X.w) X.A (call (.ref C) us kw) (EP X pins σ Q) X.xe s:=by
 generalize hn:s.heap.objs.size=n
 have free:H n=none:=I.hok.fresh (Nat.le_of_eq hn)
 have free1:H (n+1)=none:=I.hok.fresh (by rw[hn];exact Nat.le_succ n)
 have want:=h (n+1) n free1 free (Nat.ne_of_lt (Nat.lt_succ_self n))
 have J:=Inv.made (C:=C) I
 rw[hn] at J
 have vals:Vals (V.ref (n+1) :: vs) (Value.ref (n+1) :: all):=.cons rfl r
 have len:(Value.ref (n+1) :: all).length=ps.length:=vals.length.symm.trans (F.len _ _ _ _ want)
 refine wpAny_call (make_map (f:=f) I.kIn M.makes M.init (beq_iff_eq.mp M.fn) ?_)
 rw[hn]
 refine codeAny_mono (F.run _ X.stack _ _ ⟨Value.ref (n+1) :: us,kw⟩ _ _ _ E ((hr.call J).make C us kw) (J.env0.make C us kw) (hb _ _ J.kIn len) vals want) fun res s' got=>?_
 match res,got with
 | .error er,got=>exact hx pins _ _ er s' J got
 | .ok (.ret u),got=>
  obtain⟨v,H',J',rv,ev,q⟩:=J.after got
  subst ev
  exact⟨rv,V.ref (n+1),H',J',rfl,q⟩
 | .ok .next,got=>exact got.elim
 | .ok .brk,got=>exact got.elim
 | .ok .cont,got=>exact got.elim
def tMk3 (C:Addr) (sp:Sp) (dvs:List V) (E:L2.St→XK) (t:TA):TE:=fun σ H Q=>t σ H fun vs H1=>∀x dx,H1 x=none→H1 dx=none→dx≠x→
 sp (.ref x :: (vs++dvs)) (upd (upd H1 dx (.own x)) x (.ins C dx [])) (fun v H2=>v=.non∧Q (.ref x) H2) (E σ)
variable {dvs:List V} {ds:List Value} {E:L2.St→XK}
theorem pe_mk3 (M:Mk X.K C f) (F:FnOk X.prog X.w X.K X.mg X.base CX k f fd ps sp) (hr:Room (k+1) X) (hg:Gl X x) (hm:X.mg x=some (.ref C)) (hb:Binds X.K fd ps ds) (hd:Vals dvs ds) (hx:∀σ,PassesAt (CX X.A.handled) X σ (E σ)) (ha:PA X (e :: es) t)
  (hdb:(x == ("__debug__" : Str))=false:=by decide) (he:starEach (e :: es) X.env=(false,eval e X.env) :: starEach es X.env:=by rfl) (hpl:(backTo pos (starEach es X.env)).any (·.1)=false:=by rfl):PE X (.Call (.Name x p) (e :: es) [] pos) (tMk3 C sp dvs E t):=by
 refine⟨fun pins s σ H Q I h=>wpAny_Call_Name_kw (ld_glob I hg hm ?_ hdb)⟩
 refine PySem.W.callWith_K (h₀:=X.base) I.ok.mod.kin M.kp ?_ he hpl
 refine thn (ha.run pos pins s σ H _ I h) fun us s1 ⟨vs,H1,J,r,q⟩=>⟨J.kIn,?_⟩
 exact made_runs (all:=us++ds) M F hr (hx σ) J (r.append hd) (fun s' u KI hl=>hb s' (u :: us) KI hl) q
def Mth3 (X:Cx) (CX:CXH) (k:Nat) (m:Str) (C:Addr) (sp:Sp):Prop:=Cls X.K C∧∃f fd ps,Meth X.K C m f∧Binds X.K fd ps []∧FnOk X.prog X.w X.K X.mg X.base CX k f fd ps sp
theorem pe_meth3 {pl:Sem Bool} (he:PE X o ta) (hr:Room k X) (hx:∀σ,PassesAt (CX X.A.handled) X σ (E σ)) (ha:PA X (e :: es) t) (one:starEach (e :: es) X.env=(false,eval e X.env) :: starEach es X.env:=by rfl)
  (plain:(backTo pos (starEach es X.env)).any (·.1)=false:=by rfl) (parts:MethParts X o m apos pos (e :: es) pl:=by rfl) :
  PE X (.Call (.Attribute o m apos) (e :: es) [] pos) (fun σ H Q=>ta σ H fun x H1=>∃a C dx fs sp,x=.ref a∧H1 a=some (.ins C dx fs)∧fs.lookup m=none∧Mth3 X CX k m C sp∧t σ H1 fun vs H2=>sp (x :: vs) H2 Q (E σ)):=
 ⟨fun pins now σ H Q inv wish=>PySem.W.methodCall_KW (pl:=pl) (thn (he.run pins now σ H _ inv wish) fun v later got=>by
  obtain⟨_,H1,J,rx,a,C,dx,fs,sp,rfl,at_,no,⟨cls,f,fd,ps,mth,binds,F⟩,rest⟩:=got
  obtain rfl:v=.ref a:=rx
  have args:=ha.run pos pins later σ H1 _ J rest
  exact getmeth_ok J at_ cls mth no (PySem.W.callWith_K (first:=[.ref a]) (h₀:=X.base) J.ok.mod.kin mth.kp (thn args fun us last ⟨vs,H2,J2,rs,q⟩=>⟨J2.kIn,run_fnS (us:=.ref a :: us) (vs:=.ref a :: vs) F hr binds (hx σ) J2 (.cons rfl rs) q⟩) one plain)) parts⟩
end
structure MkOk3 (Pg:Program) (w:World) (K:PySem.W.Frag) (mg:Str→Option Value) (base:Heap) (G:G3) (k:Nat) (x:Str) (c:String) (n:Nat) (dd:List D) (mf:List D→M D):Prop where
 ex:∃C f fd ps dvs dsv,mg x=some (.ref C)∧G.cls c=some C∧Mk K C f∧Binds K fd ps dsv∧Vals dvs dsv∧(∀F io,RepL G.R F io dd dvs)∧FnOk Pg w K mg base (CXq Pg w) k f fd ps (spM G (n+dd.length+1) mf)
def eMk3 (c:String) (n:Nat) (dd:List D) (mf:List D→M D) (ma:AM):EM:=fun u=>M.bind (ma u) fun ws=>M.bind (M.of (asDs ws)) fun ds=>M.bind (M.chk (ds.length=n)) fun _=>mMake c mf (ds++dd)
section
variable {P:P3} {pos p apos:Pos} {x m:Str} {c:String} {e o:Expr} {es:List Expr} {ma:AM} {mo:EM} {mf:List D→M D} {dd:List D} {k j n:Nat}
theorem me_mk3 (h:MkOk3 P.X.prog P.X.w P.X.K P.X.mg P.X.base P.G k x c n dd mf) (hr:Room j P.X) (hk:k+1≤j) (tk:Takes P.X P.wx) (hg:Gl P.X x) (ha:MA P (e :: es) ma)
  (hdb:(x == ("__debug__" : Str))=false:=by decide) (he:starEach (e :: es) P.X.env=(false,eval e P.X.env) :: starEach es P.X.env:=by rfl) (hpl:(backTo pos (starEach es P.X.env)).any (·.1)=false:=by rfl) :
  ME P (.Call (.Name x p) (e :: es) [] pos) (eMk3 c n dd mf ma):=by
 obtain⟨C,f,fd,ps,dvs,dsv,hm,hc,M,hb,hd,rd,F⟩:=h.ex
 obtain⟨t,pt,ht⟩:=ha.out
 refine ME.mk' (pe_mk3 M F (hr.mono hk) hg hm hb hd (fun σ=>passAt tk σ) pt hdb he hpl) fun B0 B s st u z Q wd sl h=>ht B0 B s st u z _ wd sl (Post.bind h fun ws st1 s1 vs l1 wd1 r1 h1=>?_)
 obtain⟨ds,e,h1⟩:=Post.of_of h1
 obtain⟨hl,h1⟩:=Post.of_chk h1
 have rl:=(asDs_ok r1 e).append (rd s1.F s1.io)
 exact fun x dx hx hdx ne=>make_post (n:=n+dd.length) hc wd1 rl (by rw[List.length_append,hl]) h1 hx hdx ne
structure MthOk (Pg:Program) (w:World) (K:PySem.W.Frag) (mg:Str→Option Value) (base:Heap) (G:G3) (k:Nat) (m:Str) (n:Nat) (c:String) (mf:List D→M D):Prop where
 ex:∃C f fd ps,G.cls c=some C∧Cls K C∧Meth K C m f∧Binds K fd ps []∧FnOk Pg w K mg base (CXq Pg w) k f fd ps (spM G (n+1) mf)
def eMeth (m:Str) (n:Nat) (tab:List (String×(List D→M D))) (mo:EM) (ma:AM):EM:=fun u=>M.bind (mo u) fun w=>M.bind (insOf w) fun q=>M.bind (M.chk (q.2.2.lookup m=none)) fun _=>M.bind (M.of (tab.lookup q.2.1)) fun mf=>
 M.bind (ma u) fun ws=>M.bind (M.of (asDs ws)) fun ds=>M.bind (M.chk (ds.length=n)) fun _=>M.bind (mf (.ref q.1 :: ds)) fun d=>M.pure (.val d)
theorem lookup_mem {α:Type} {c:String} {y:α}:∀{l:List (String×α)},l.lookup c=some y→(c,y)∈l
 | (c',y') :: l,h=>by
  rw[List.lookup_cons] at h
  split at h
  ·rename_i e
   cases h
   rw[show c=c' from beq_iff_eq.mp e]
   exact List.mem_cons_self
  ·exact List.mem_cons_of_mem _ (lookup_mem h)
theorem call_post {G:G3} {X:Hex} {B:Addr→Prop} {s:S3} {st:Store} {E:XK} {Q:VK} {mf:List D→M D} {ds:List D} {vs:List V} {n:Nat} (wd:Wd G B st s) (rl:RepL G.R s.F s.io ds vs) (hl:ds.length=n)
  (h:Post G B (RepW G X B) E s Q (M.bind (mf ds) (fun d=>M.pure (.val d)) st)):spM G n mf vs s.H Q E:=by
 refine⟨by rw[←rl.length];exact hl,B,s,st,ds,rfl,wd,rl,?_⟩
 unfold M.bind at h
 cases em:mf ds st with
 | ok d st'=>rw[em] at h;exact fun s' v l w r=>h s' v l w r
 | err c x st'=>rw[em] at h;exact h
 | bad=>rw[em] at h;exact h
theorem me_meth {tab:List (String×(List D→M D))} (h:∀p∈tab,MthOk P.X.prog P.X.w P.X.K P.X.mg P.X.base P.G k m n p.1 p.2) (hr:Room j P.X) (hk:k≤j) (tk:Takes P.X P.wx) (ho:ME P o mo) (ha:MA P (e :: es) ma)
  (he:starEach (e :: es) P.X.env=(false,eval e P.X.env) :: starEach es P.X.env:=by rfl) (hpl:(backTo pos (starEach es P.X.env)).any (·.1)=false:=by rfl) {pl:Sem Bool} (hT:MethParts P.X o m apos pos (e :: es) pl:=by rfl) :
  ME P (.Call (.Attribute o m apos) (e :: es) [] pos) (eMeth m n tab mo ma):=by
 obtain⟨t,pt,ht⟩:=ha.out
 obtain⟨to,po,hto⟩:=ho.out
 refine ME.mk' (pe_meth3 po (hr.mono hk) (fun σ=>passAt tk σ) pt he hpl hT) fun B0 B s st u z Q wd sl hp=>hto B0 B s st u z _ wd sl (Post.bind hp fun w st1 s1 v l1 wd1 r1 h1=>?_)
 obtain⟨i,c,fs,a,C,dx,gs,rfl,rfl,eio,ek,ec,eh,rf,nb,hF,h1⟩:=Post.of_ins wd1 r1 h1
 obtain⟨hn,h1⟩:=Post.of_chk h1
 obtain⟨mf,et,h1⟩:=Post.of_of h1
 obtain⟨C',f,fd,ps,ec',hc,hm,hb,F⟩:=(h _ (lookup_mem et)).ex
 rw[ec] at ec'
 cases ec'
 refine⟨a,C,dx,gs,_,rfl,eh,(rf.look (f:=m)).2 hn,⟨hc,f,fd,ps,hm,hb,F⟩,?_⟩
 refine ht B0 B s1 st1 u z _ wd1 (sl.mono' l1) (Post.bind h1 fun ws st2 s2 vs l2 wd2 r2 h2=>?_)
 obtain⟨ds,e,h2⟩:=Post.of_of h2
 obtain⟨hl,h2⟩:=Post.of_chk h2
 exact call_post wd2 (.cons (.ref (l2.io _ _ eio)) (asDs_ok r2 e)) (by rw[List.length_cons,hl]) h2
structure PropOk (Pg:Program) (w:World) (K:PySem.W.Frag) (mg:Str→Option Value) (base:Heap) (G:G3) (k:Nat) (f:Str) (c:String) (mf:List D→M D):Prop where
 ex:∃C p g fd ps,G.cls c=some C∧Cls K C∧PropOf K C f p g∧Binds K fd ps []∧FnOk Pg w K mg base (CXq Pg w) k g fd ps (spM G 1 mf)
def eProp (c:String) (mf:List D→M D) (mo:EM):EM:=fun u=>M.bind (mo u) fun w=>M.bind (insOf w) fun q=>M.bind (M.chk (q.2.1=c)) fun _=>M.bind (M.quiet (mf [.ref q.1])) fun d=>M.pure (.val d)
end
end M3
namespace M3
open PySem PySem.Spec PyProof.Rows L2
structure ExcOk (K:PySem.W.Frag) (mg:Str→Option Value) (G:G3) (x:Str) (c:String):Prop where
 ex:∃(C:Addr) (bmB:List Value) (B newId initId:String),ExcBaseFacts B newId initId bmB∧PySem.W.excIn K C bmB newId=true∧mg x=some (.ref C)∧PySem.W.keepIn K (.ref C)=true∧
  PySem.W.subIn K (.ref C) (.type "BaseException")=some true∧PySem.W.typeIn K (.ref C)=some (.type "type")∧G.cls c=some C∧G.fld c=none
def sRaise (c:String):SM:=fun u st=>.err c .non u st
section
variable {P:P3} {pos p p2 rpos:Pos}
theorem ms_raise {x m:Str} {c:String} {j:Nat} (h:ExcOk P.X.K P.X.mg P.G x c) (hc:Cool P.X) (tk:Takes P.X P.wx) (hg:Gl P.X x) (hdb:(x == ("__debug__" : Str))=false:=by decide) :
  MS P (.Raise (some (.Call (.Name x p) [.Constant (.str m) j p2] [] pos)) none rpos) (sRaise c):=by
 obtain⟨C,bmB,B,nid,iid,F,q,gC,kC,sb,ty,gc,gf⟩:=h.ex
 refine MS.mk' (ps_raise hc tk (L2N.pmk_own F q gC kC (raises_own sb ty) hg hdb)) fun B0 B s o u z D b0 wd sl h=>?_
 refine h B s z (.ref C) none b0 (Le.refl _) wd sl ?_
 unfold ExR
 rw[gc]
 exact⟨rfl,by rw[gf]⟩
def sBad:SM:=fun _ _=>.bad
theorem ms_bad {P:P3} {st:Stmt}:MS P st sBad:=⟨⟨fun _ _ _ _ _ _ ⟨_,_,_,_,_,_,_,_,_,p⟩=>p.elim⟩⟩
def sTry0 (b:SM):SM:=fun u st=>match b u st with
 | .err _ _ _ _=>.bad
 | r=>r
theorem one {α:Type} {p:α→Prop} {a:α} (h:p a):∀c∈[a],p c:=fun c hc=>List.mem_singleton.mp hc▸h
abbrev P3.nox (P:P3):P3:=⟨P.X.nox,P.G,P.hx,fun _ _ _ _=>False,P.hK,P.hw⟩
theorem ms_try0 {body:List Stmt} {h0:ExceptHandler} {hs:List ExceptHandler} {b:SM} (h:MSs P.nox body b):MS P (.Try body (h0 :: hs) [] [] pos) (sTry0 b):=by
 obtain⟨t,pt,ht⟩:=h.out
 refine MS.mk' (ps_try_thru0 pt) fun B0 B s o u z D b0 wd sl h=>ht B0 B s o u z D b0 wd sl ?_
 unfold sTry0 at h
 cases e:b u o with
 | err c x u' st'=>rw[e] at h;exact h.elim
 | nx u' st'=>rw[e] at h;exact h
 | rt w st'=>rw[e] at h;exact h
 | bk u' st'=>rw[e] at h;exact h
 | ct u' st'=>rw[e] at h;exact h
 | bad=>rw[e] at h;exact h
end
def cvOf (G:G3) (c:String):Value:=match G.cls c with
 | some C=>.ref C
 | none=>.type c
def CRel (G:G3) (c:String) (cv:Value) (dd:Option Addr):Prop:=cv=cvOf G c∧((G.cls c).isSome=true→G.fld c=none→dd=none)
theorem crel_of {G:G3} {s:S3} {c:String} {x:D} {cv:Value} {dd:Option Addr} (h:ExR G s c x cv dd):CRel G c cv dd:=by
 unfold ExR at h
 unfold CRel cvOf
 split at h
 ·rename_i e
  rw[e]
  exact⟨h,fun q=>(by cases q)⟩
 ·rename_i C e
  rw[e]
  refine⟨h.1,fun _ ef=>?_⟩
  have:=h.2
  rw[ef] at this
  exact this
def noExn:Sl3→Bool
 | []=>true
 | some (.exn _ _) :: _=>false
 | _ :: u=>noExn u
theorem noExn_at {c:String} {x:D}:∀{u:Sl3} {i:Nat},noExn u=true→u[i]?≠some (some (.exn c x))
 | [],i,_=>by simp
 | w :: u,0,h=>fun e=>by
  simp at e
  subst e
  cases h
 | w :: u,i+1,h=>fun e=>by
  refine noExn_at (u:=u) (i:=i) ?_ (by simpa using e)
  cases w with
  | none=>exact h
  | some w=>cases w <;> first | exact h | cases h
theorem Slo.hx {G:G3} {X X':Hex} {B0 B:Addr→Prop} {s:S3} {u:Sl3} {z:L2.St} (h:Slo G X B0 B s u z) (n:noExn u=true):Slo G X' B0 B s u z:=by
 obtain⟨hl,ow,h1,h2⟩:=h
 refine⟨hl,ow,fun i w e=>?_,h2⟩
 obtain⟨v,e1,r,q⟩:=h1 i w e
 refine⟨v,e1,?_,q⟩
 cases w with
 | exn c x=>exact absurd e (noExn_at n)
 | val d=>exact r
 | bor xs=>exact r
 | bod ks us=>exact r
 | bdd ks us=>exact r
 | len xs=>exact r
theorem Slo.exn {G:G3} {B0 B:Addr→Prop} {s:S3} {u:Sl3} {z:L2.St} {a:Addr} {c:String} {x:D} {dd:Option Addr} (h:Slo G (some (a,c,x,dd)) B0 B s u z) (xf:XFld G s c x dd) (i:Nat):Slo G (some (a,c,x,dd)) B0 B s (u.set i (some (.exn c x))) (z.set i (some (.ref a))):=by
 obtain⟨hl,ow,h1,h2⟩:=h
 refine⟨by simpa using hl,ow,fun j w e=>?_,fun j k w w' o1 o2 e1 e2 e=>?_⟩
 ·rcases get_set e with⟨rfl,rfl⟩ | ⟨ne,e⟩
  ·have hi:i<u.length:=by
    rcases Nat.lt_or_ge i u.length with q | q
    ·exact q
    ·rw[List.getElem?_eq_none (by simpa using q)] at e;cases e
   exact⟨.ref a,by rw[List.getElem?_set_self (by omega)],⟨a,dd,rfl,rfl,xf⟩,fun q=>by cases q⟩
  ·obtain⟨v',e1,r',q⟩:=h1 j w e
   exact⟨v',by rw[List.getElem?_set_ne ne];exact e1,r',q⟩
 ·rcases get_set e1 with⟨_,q⟩ | ⟨_,e1⟩
  ·subst q;cases o1
  ·rcases get_set e2 with⟨_,q⟩ | ⟨_,e2⟩
   ·subst q;cases o2
   ·exact h2 j k w w' o1 o2 e1 e2 e
abbrev noWs:WX:=fun _ _ _ _=>False
abbrev P3.tr (P:P3) (pn:List (Addr×Obj)) (xe:Value→Shared→Prop) (W:WX):P3:=⟨P.X.tr pn xe,P.G,P.hx,W,P.hK,P.hw⟩
abbrev P3.su (P:P3) (a:Addr) (oe:Obj) (pn:List (Addr×Obj)) (c:String) (x:D) (dd:Option Addr):P3:=⟨P.X.suite a ((a,oe) :: pn),P.G,some (a,c,x,dd),noWs,P.hK,P.hw⟩
def sSuite (i:Option Nat) (ms:SM) (c:String) (x:D) (u:Sl3) (st:Store):SRes:=
 let put:=fun u:Sl3=>match i with | some i=>u.set i (some (.exn c x)) | none=>u
 let gone:=fun u:Sl3=>match i with | some i=>u.set i none | none=>u
 match ms (put u) st with
 | .nx u2 st2=>if noExn (gone u2)=true then .nx (gone u2) st2 else .bad
 | .bk u2 st2=>if noExn (gone u2)=true then .bk (gone u2) st2 else .bad
 | .ct u2 st2=>if noExn (gone u2)=true then .ct (gone u2) st2 else .bad
 | .rt w st2=>.rt w st2
 | _=>.bad
def sTry (i:Option Nat) (sub:String→Option Bool) (mb ms:SM):SM:=fun u st=>match mb u st with
 | .err c x u' st'=>match sub c with
  | some true=>if noExn u'=true then sSuite i ms c x u' st' else .bad
  | some false=>.err c x u' st'
  | none=>.bad
 | r=>r
def tSu (G:G3) (ms:SM):Addr→Value→Option Addr→TS:=fun a cv dd D z H=>∃c x,CRel G c cv dd∧tS G (some (a,c,x,dd)) noWs ms D z H
section
variable {P:P3} {pos pos' np:Pos}
theorem su_pss {suite:List Stmt} {ms:SM} (hsu:∀(a:Addr) (oe:Obj) (cv:Value) (dd:Option Addr) (pn:List (Addr×Obj)) (c:String) (x:D),Zq P.X cv dd oe→(∃vs,oe.data=.fields vs)→CRel P.G c cv dd→MSs (P.su a oe pn c x dd) suite ms)
  (a:Addr) (oe:Obj) (cv:Value) (dd:Option Addr) (pn:List (Addr×Obj)) (hz:Zq P.X cv dd oe) (hf:∃vs,oe.data=.fields vs):PSs (P.X.suite a ((a,oe) :: pn)) suite (tSu P.G ms a cv dd):=
 ⟨fun pins s z H D I ⟨c,x,hc,q⟩=>(hsu a oe cv dd pn c x hz hf hc).pss.run pins s z H D I q⟩
theorem ms_tryOnly {x:Str} {c0:Value} {body suite:List Stmt} {b0s:Stmt} {mb ms:SM} {sub:String→Option Bool} (hs:P.X.stack=P.X.env :: P.X.outer) (hf:P.X.env.frame=some P.X.env.locals)
  (hc:Names P.X x c0) (tk:Takes P.X P.wx) (hsub:∀c b,sub c=some b→PySem.W.exmOne P.X.K (cvOf P.G c) c0=some b)
  (hb:∀(W:WX) (pn:List (Addr×Obj)) (xe:Value→Shared→Prop),Takes (P.X.tr pn xe) W→PassesOwn (model P.X.prog P.X.w) P.X.A P.X.env xe→MSs (P.tr pn xe W) body mb)
  (hsu:∀(a:Addr) (oe:Obj) (cv:Value) (dd:Option Addr) (pn:List (Addr×Obj)) (c:String) (x:D),Zq P.X cv dd oe→(∃vs,oe.data=.fields vs)→CRel P.G c cv dd→MSs (P.su a oe pn c x dd) (b0s :: suite) ms) :
  MS P (.Try body [.ExceptHandler (some (.Name x np)) none (b0s :: suite) pos'] [] [] pos) (sTry none sub mb ms):=by
 refine MS.mk' (ps_try_only (tb:=fun W=>tS P.G P.hx W mb) (ts:=tSu P.G ms) (Wout:=P.wx) hs hf hc tk (fun W pn xe t o=>(hb W pn xe t o).pss) (su_pss hsu)) fun B0 B s o u z D b0 wd sl h=>?_
 refine⟨B0,B,s,o,u,rfl,b0,wd,sl,?_⟩
 unfold sTry at h
 cases e:mb u o with
 | bad=>rw[e] at h;exact h.elim
 | nx u' st'=>rw[e] at h;exact h
 | rt w st'=>rw[e] at h;exact h
 | bk u' st'=>rw[e] at h;exact h
 | ct u' st'=>rw[e] at h;exact h
 | err c x u' st'=>
  rw[e] at h
  dsimp only at h
  intro B' s' z' cv dd b' l' w' sl' ex
  have cr:=crel_of ex
  cases es:sub c with
  | none=>rw[es] at h;exact h.elim
  | some k=>
   rw[es] at h
   refine⟨k,by rw[cr.1];exact hsub c k es,fun hk a ha=>?_,fun hk=>?_⟩
   ·subst hk
    dsimp only at h
    split at h
    ·rename_i hne
     refine⟨c,x,cr,B0,B',s',st',u',rfl,b',w',Slo.hx sl' hne,?_⟩
     unfold sSuite at h
     dsimp only at h
     cases e2:ms u' st' with
     | bad=>rw[e2] at h;exact h.elim
     | err _ _ _ _=>rw[e2] at h;exact h.elim
     | rt w st2=>rw[e2] at h;exact fun B2 s2 v b2 l2 w2 r2=>h B2 s2 v b2 (l'.trans l2) w2 r2
     | nx u2 st2=>
      rw[e2] at h
      dsimp only at h
      split at h
      ·rename_i n2;exact fun B2 s2 z2 b2 l2 w2 q2=>h B2 s2 _ b2 (l'.trans l2) w2 (Slo.hx q2 n2)
      ·exact h.elim
     | bk u2 st2=>
      rw[e2] at h
      dsimp only at h
      split at h
      ·rename_i n2;exact fun B2 s2 z2 b2 l2 w2 q2=>h B2 s2 _ b2 (l'.trans l2) w2 (Slo.hx q2 n2)
      ·exact h.elim
     | ct u2 st2=>
      rw[e2] at h
      dsimp only at h
      split at h
      ·rename_i n2;exact fun B2 s2 z2 b2 l2 w2 q2=>h B2 s2 _ b2 (l'.trans l2) w2 (Slo.hx q2 n2)
      ·exact h.elim
    ·exact h.elim
   ·subst hk
    exact h B' s' z' cv dd b' l' w' sl' ex
end
def eIsE (i:Nat) (tab:String→Option Bool):EM:=fun u st=>match u[i]? with
 | some (some (.exn c _))=>match tab c with
  | some b=>.ok (.val (.bl b)) st
  | none=>.bad
 | _=>.bad
section
variable {P:P3} {pos p p1 p2:Pos}
def eXf (i:Nat) (cs:List String):EM:=fun u st=>match u[i]? with
 | some (some (.exn c x))=>if c∈cs then .ok (.val x) st else .bad
 | _=>.bad
end
end M3
namespace M3
open PySem PySem.Spec PyProof.Rows L2
section
variable {K:KW} {F H:Hp} {io:Io} {P:Program} {w:World} {h:Heap}
mutual
theorem nk_ok (hs:Same F H) (ok:HOk P w H h):∀{d:D} {v:V} {k:NestedKey} {u:Value},Rep K F io d v→d.nk=some k→RelV v u→NestedIs h k u
 | _,_,_,_,.non,e,r=>by rw[D.nk] at e;cases e;cases (show _=Value.none from r);exact .none
 | _,_,_,_,.bl,e,r=>by rw[D.nk] at e;cases e;cases (show _=Value.bool _ from r);exact .bool rfl
 | _,_,_,_,.int,e,r=>by rw[D.nk] at e;cases e;obtain⟨t,rfl⟩:=r;exact .int _ _
 | _,_,_,_,.str,e,r=>by rw[D.nk] at e;cases e;obtain⟨t,rfl⟩:=r;exact .text _ _
 | _,_,_,_,.ty,e,_=>by simp[D.nk] at e
 | _,_,_,_,.ref _,e,_=>by simp[D.nk] at e
 | _,_,_,_,.fn _ _ _ _ _,e,_=>by simp[D.nk] at e
 | _,_,_,_,.dict _ _ _,e,_=>by simp[D.nk] at e
 | _,_,_,_,.dd _ _ _ _ _,e,_=>by simp[D.nk] at e
 | _,_,_,_,.ctup _ _,e,_=>by simp[D.nk] at e
 | _,_,_,_,.lst _ _,e,_=>by simp[D.nk] at e
 | _,_,_,_,.ro _ _,e,_=>by simp[D.nk] at e
 | .tup xs,_,k,_,.tup s q,e,r=>by
  rw[D.nk] at e
  cases hx:D.nks xs with
  | none=>rw[hx] at e;cases e
  | some ks=>
   rw[hx] at e
   cases e
   cases (show _=Value.ref _ from r)
   obtain⟨o,hq,_⟩:=s
   obtain⟨hg,z,its,vs,o',h1,h2,n,h3⟩:=ok _ _ (hs _ _ hq)
   exact .tup h1 h2 h3 (by rw[List.toList_toArray];exact nks_ok hs ok q hx vs)
theorem nks_ok (hs:Same F H) (ok:HOk P w H h):∀{ds:List D} {vs:List V} {ks:List NestedKey} {us:List Value},RepL K F io ds vs→D.nks ds=some ks→Vals vs us→NestedAll h ks us
 | [],_,_,_,.nil,e,.nil=>by rw[D.nks] at e;cases e;exact .nil
 | d :: ds,_,ks,_,.cons r t,e,.cons q qs=>by
  rw[D.nks] at e
  cases h1:D.nk d with
  | none=>rw[h1] at e;cases e
  | some k=>
   cases h2:D.nks ds with
   | none=>rw[h1,h2] at e;cases e
   | some ks'=>rw[h1,h2] at e;cases e;exact .cons (nk_ok hs ok r h1 q) (nks_ok hs ok t h2 qs)
end
end
def KeyH (H:Hp) (k:NestedKey) (b:Addr):Prop:=∀(P:Program) (w:World) (h:Heap),HOk P w H h→(nestedKind P w).is h k b
theorem tk_ok {K:KW} {F H:Hp} {io:Io} {d:D} {v:V} {k:NestedKey} (hs:Same F H) (r:Rep K F io d v) (e:d.tk=some k):∃b,v=.ref b∧KeyH H k b:=by
 unfold D.tk at e
 split at e
 ·rename_i xs
  split at e
  ·rename_i ks h1
   split at e
   ·rename_i hd
    cases e
    cases r with
    | tup s q=>exact⟨_,rfl,fun P w h ok=>⟨nk_ok (d:=.tup xs) hs ok (.tup s q) (by rw[D.nk,h1];rfl) rfl,hd⟩⟩
   ·cases e
  ·cases e
 ·cases e
theorem DkR.keyH {K:KW} {F H:Hp} {io:Io} (hs:Same F H):∀{ks us:List D} {xs:DkX},DkR K F io ks us xs→∀x∈xs,KeyH H x.1 x.2.1:=by
 intro ks us xs h
 have h1:=h.keys
 have h2:=h.tk
 clear h
 induction xs generalizing ks with
 | nil=>intro x hx;cases hx
 | cons x xs ih=>
  cases ks with
  | nil=>cases h1
  | cons k ks=>
   rw[List.map_cons] at h1
   cases h1 with
   | cons r t=>
    simp only[List.map_cons,List.cons.injEq] at h2
    intro y hy
    rcases List.mem_cons.mp hy with e | hy
    ·subst e
     obtain⟨b,eb,hb⟩:=tk_ok hs r h2.1
     cases eb
     exact hb
    ·exact ih t h2.2 y hy
def ddAt:List D→List D→NestedKey→Option D
 | k :: ks,d :: ds,x=>if k.tk=some x then some d else ddAt ks ds x
 | _,_,_=>none
def ddSet:List D→List D→NestedKey→D→List D
 | k :: ks,d :: ds,x,y=>(if k.tk=some x then y else d) :: ddSet ks ds x y
 | _,ds,_,_=>ds
def ddHas (ks:List D) (x:NestedKey):Bool:=ks.any fun k=>decide (k.tk=some x)
def ddPut (ks us:List D) (kd:D) (x:NestedKey) (d:D):List D×List D:=if ddHas ks x=true then (ks,ddSet ks us x d) else (ks++[kd],us++[d])
section
variable {K:KW} {F H:Hp} {io:Io}
theorem dd_at {x:NestedKey}:∀{ks us:List D} {xs:DkX},DkR K F io ks us xs→(∀d,ddAt ks us x=some d→∃b u v,atKey xs x=some (b,u)∧RelV v u∧Rep K F io d v)∧(atKey xs x).isSome=ddHas ks x∧((ddAt ks us x).isSome=ddHas ks x):=by
 intro ks us xs h
 obtain⟨h1,h2,vs,h3,h4⟩:=h
 induction xs generalizing ks us vs with
 | nil=>
  cases ks with
  | nil=>exact⟨fun d e=>by simp[ddAt] at e,rfl,by simp[ddAt,ddHas]⟩
  | cons k ks=>cases h1
 | cons y xs ih=>
  cases ks with
  | nil=>cases h1
  | cons k ks=>
   rw[List.map_cons] at h1
   cases h1 with
   | cons r t=>
    rw[List.map_cons] at h3
    cases h3 with
    | cons q qs=>
     cases h4 with
     | cons g gs=>
      simp only[List.map_cons,List.cons.injEq] at h2
      obtain⟨i1,i2,i3⟩:=ih t h2.2 _ qs gs
      unfold ddAt ddHas atKey
      by_cases e:y.1=x
      ·rw[h2.1,e,if_pos rfl]
       simp only[List.find?_cons,e,decide_true,List.any_cons,h2.1]
       exact⟨fun d z=>by cases z;exact⟨y.2.1,y.2.2,_,rfl,q,g⟩,rfl,rfl⟩
      ·have e2:¬(k.tk=some x):=by rw[h2.1];exact fun z=>e (by injection z)
       rw[if_neg e2]
       simp only[List.find?_cons,e,decide_false,List.any_cons,e2,Bool.false_or]
       exact⟨i1,i2,i3⟩
theorem dd_put {x:NestedKey} {kd:D} {b:Addr} {d:D} {v:V} {u:Value} (hk:kd.tk=some x) (rk:Rep K F io kd (.ref b)) (rv:RelV v u) (rd:Rep K F io d v) {ks us:List D} {xs:DkX} (h:DkR K F io ks us xs) :
  DkR K F io (ddPut ks us kd x d).1 (ddPut ks us kd x d).2 (storedH xs x b u):=by
 have hh:=(dd_at (x:=x) h).2.1
 unfold ddPut storedH
 rw[hh]
 by_cases e:ddHas ks x=true
 ·rw[if_pos e,if_pos e]
  clear hh e
  obtain⟨h1,h2,vs,h3,h4⟩:=h
  induction xs generalizing ks us vs with
  | nil=>
   cases ks with
   | nil=>cases h3;cases h4;exact⟨.nil,rfl,[],.nil,.nil⟩
   | cons k ks=>cases h1
  | cons y xs ih=>
   cases ks with
   | nil=>cases h1
   | cons k ks=>
    rw[List.map_cons] at h1
    cases h1 with
    | cons r t=>
     rw[List.map_cons] at h3
     cases h3 with
     | cons q qs=>
      cases h4 with
      | cons g gs=>
       simp only[List.map_cons,List.cons.injEq] at h2
       obtain⟨j1,j2,ws,j3,j4⟩:=ih t h2.2 _ qs gs
       simp only[List.map_cons,ddSet]
       by_cases e:y.1=x
       ·rw[show putAt x u y=(y.1,y.2.1,u) from if_pos e,if_pos (by rw[h2.1,e])]
        exact⟨.cons r j1,by simp only[List.map_cons,h2.1];rw[j2],v :: ws,.cons rv j3,.cons rd j4⟩
       ·rw[show putAt x u y=y from if_neg e,if_neg (by rw[h2.1];exact fun z=>e (by injection z))]
        exact⟨.cons r j1,by simp only[List.map_cons,h2.1];rw[j2],_ :: ws,.cons q j3,.cons g j4⟩
 ·rw[if_neg e,if_neg e]
  obtain⟨h1,h2,vs,h3,h4⟩:=h
  refine⟨?_,?_,vs++[v],?_,h4.append (.cons rd .nil)⟩
  ·rw[List.map_append];exact h1.append (.cons rk .nil)
  ·rw[List.map_append,List.map_append,h2];simp[hk]
  ·rw[List.map_append];exact Paired.snoc h3 rv
theorem dd_len {ks us:List D} {xs:DkX} (h:DkR K F io ks us xs):ks.length=xs.length∧us.length=xs.length:=by
 obtain⟨h1,_,vs,h3,h4⟩:=h
 refine⟨by have:=h1.length;simpa using this,?_⟩
 rw[h4.length,Paired.length h3];simp
end
def RdD (H:Hp) (a:Addr) (u:HO):Prop:=H a=some u∨(∃o,H a=some (.frz o u))∨∃o,H a=some (.frz o (.frz o u))
theorem RdD.ok {P:Program} {w:World} {H:Hp} {h:Heap} {a:Addr} {u:HO} (r:RdD H a u) (x:HOk P w H h):ObjOk P w H h a u:=by
 rcases r with r | ⟨o,r⟩ | ⟨o,r⟩
 ·exact x a u r
 ·exact(x a _ r).2
 ·exact(x a _ r).2.2
theorem dkO_of {P:Program} {w:World} {H:Hp} {h:Heap} {a:Addr} {xs:DkX} (ok:HOk P w H h) (e:RdD H a (DkO w a xs)) (hk:∀x∈xs,KeyH H x.1 x.2.1) :
  (a == sysModules)=false∧xs.length≤sizeLine∧h.DictOfH (nestedKind P w) a xs:=by
 obtain⟨⟨h1,h2,h3,o,es,ep,g1,g2,g3,g4⟩,_,_⟩:=e.ok ok
 exact⟨h1,h3,o,es,ep,g1,g2,g3,g4,fun x hx=>hk x hx P w h ok,h2⟩
theorem dkO_new {P:Program} {w:World} {H':Hp} {h':Heap} {a:Addr} {xs:DkX} (h1:(a == sysModules)=false) (h3:xs.length≤sizeLine) (dd:h'.DictOfH (nestedKind P w) a xs):ObjOk P w H' h' a (DkO w a xs):=by
 obtain⟨o,es,ep,g1,g2,g3,g4,_,g5⟩:=dd
 exact⟨⟨h1,g5,h3,o,es,ep,g1,g2,g3,g4⟩,⟨o,g1⟩,fun k1 k2 ⟨q1,q2,q3,o,es,ep,f1,f2⟩ hk=>⟨q1,q2,q3,o,es,ep,hk o f1,f2⟩⟩
theorem nroom {A:Around} (hu:A.units+65<cLine) {P:Program} {w:World}:(nestedKind P w).room A.in1:=by
 show A.units+1+8<cLine
 omega
def rGetDD (w:World):R2:=fun x y H Q=>∃a b xs k c u v,x=.ref a∧y=.ref b∧RdD H a (DkO w a xs)∧(∀x∈xs,KeyH H x.1 x.2.1)∧KeyH H k b∧atKey xs k=some (c,u)∧RelV v u∧Q v H
theorem pe_getDD {X:Cx} {pos:Pos} {o i:Expr} {to ti:TE} (hu:X.A.units+65<cLine) (ho:PE X o to) (hi:PE X i ti) (hs:NoSl i):PE X (.Subscript o i pos) (tOp (rGetDD X.w) to ti):=
 ⟨fun pins now σ H Q inv wish=>subD_of PySem.F.slot_dict_getitem.lookup hs (thn (ho.run pins now σ H _ inv wish) fun v mid ⟨x,H1,J,rx,rest⟩=>
  thn (hi.run pins mid σ H1 _ J rest) fun iv last ⟨y,H2,L,ry,a,b,xs,k,c,u,v',ex,ey,hr,hk,kb,ea,rv,q⟩=>by
   subst ex ey
   cases (show v=Value.ref a from rx)
   cases (show iv=Value.ref b from ry)
   obtain⟨hd,_,dd⟩:=dkO_of L.hok hr hk
   exact⟨dd.typeIs,wpAny_getItem_heap (nroom hu) (kb _ _ _ L.hok) dd ea ⟨v',H2,L.tok _,rv,q⟩⟩)⟩
def ddOf (w:W):M (List D×List D):=fun st=>match w with
 | .val (.dd ks us)=>.ok (ks,us) st
 | .bdd ks us=>.ok (ks,us) st
 | .val (.ref k)=>match st[k]? with
  | some (.ddi ks us)=>.ok (ks,us) st
  | some (.rdd ks us)=>.ok (ks,us) st
  | _=>.bad
 | _=>.bad
section
variable {α β:Type} {G:G3} {X:Hex} {B:Addr→Prop} {s:S3} {st:Store} {R:S3→α→β→Prop} {E:XK} {Q:β→Hp→Prop}
theorem Post.of_dd {w:M3.W} {v:V} {f:List D×List D→M α} (wd:Wd G B st s) (r:RepW G X B s w v) (h:Post G B R E s Q (M.bind (ddOf w) f st)) :
  ∃ks us a xs,ddOf w st=.ok (ks,us) st∧v=.ref a∧RdD s.H a (DkO G.w a xs)∧DkR G.R s.F s.io ks us xs∧Post G B R E s Q (f (ks,us) st):=by
 cases w with
 | val d=>
  cases d with
  | dd ks us=>
   cases r with
   | dd hF hk ht hv hr=>exact⟨ks,us,_,_,rfl,rfl,.inr (.inl ⟨_,wd.sub _ _ hF⟩),⟨hk,ht,_,hv,hr⟩,h⟩
  | ref k=>
   unfold M.bind ddOf at h
   cases e:st[k]? with
   | none=>simp only[e] at h;exact h.elim
   | some o=>
    cases o with
    | ddi ks us=>
     simp only[e] at h
     cases r with
     | ref eio=>
      obtain⟨a,e1,b1,f1,xs,o1,o2⟩:=wd.obj _ _ e rfl
      rw[eio] at e1
      cases e1
      exact⟨ks,us,_,xs,by unfold ddOf;simp only[e],rfl,.inl o1,o2,h⟩
    | rdd ks us=>
     simp only[e] at h
     cases r with
     | ref eio=>
      obtain⟨a,e1,od,xs,o1,o2⟩:=wd.unt _ _ e rfl
      rw[eio] at e1
      cases e1
      exact⟨ks,us,_,xs,by unfold ddOf;simp only[e],rfl,.inr (.inr ⟨od,wd.sub _ _ o1⟩),o2,h⟩
    | _=>simp only[e] at h;exact h.elim
  | _=>exact h.elim
 | bdd ks us=>
  obtain⟨p,xs,rfl,_,hp,hr⟩:=r
  exact⟨ks,us,p,xs,rfl,rfl,.inl hp,hr,h⟩
 | _=>exact h.elim
end
def eInDD (neg:Bool) (mk md:EM):EM:=fun u=>M.bind (mk u) fun k=>M.bind (md u) fun d=>M.bind (M.of k.d) fun kd=>M.bind (M.of kd.tk) fun x=>M.bind (ddOf d) fun q=>M.pure (.val (.bl (if neg then !ddHas q.1 x else ddHas q.1 x)))
def eGetDD (md mk:EM):EM:=fun u=>M.bind (md u) fun d=>M.bind (mk u) fun k=>M.bind (M.of k.d) fun kd=>M.bind (M.of kd.tk) fun x=>M.bind (ddOf d) fun q=>M.bind (M.of (ddAt q.1 q.2 x)) fun y=>M.pure (.val y)
theorem d_val {w:W} {d:D} (e:w.d=some d):w=.val d:=by cases w <;> cases e;rfl
section
variable {P:P3} {pos:Pos} {a b:Expr} {ma mb:EM}
theorem me_getDD (hu:P.X.A.units+65<cLine) (ha:ME P a ma) (hb:ME P b mb) (hs:NoSl b:=by intro _ _;rfl):ME P (.Subscript a b pos) (eGetDD ma mb):=by
 obtain⟨ta,pa,ha⟩:=ha.out
 obtain⟨tb,pb,hb⟩:=hb.out
 refine ME.mk' (pe_getDD hu pa pb hs) fun B0 B s st u z Q wd sl hp=>ha B0 B s st u z _ wd sl (Post.bind hp fun w1 st1 s1 v1 l1 wd1 r1 h1=>?_)
 refine hb B0 B s1 st1 u z _ wd1 (sl.mono l1) (Post.bind h1 fun w2 st2 s2 v2 l2 wd2 r2 h2=>?_)
 obtain⟨kd,ek,h3⟩:=Post.of_of h2
 obtain⟨x,ex,h4⟩:=Post.of_of h3
 obtain⟨ks,us,c,xs,_,rfl,hr,dr,h5⟩:=Post.of_dd wd2 (r1.mono l2) h4
 obtain⟨y,ey,h6⟩:=Post.of_of h5
 clear h2 h3 h4 h5
 obtain rfl:=d_val ek
 obtain⟨bb,rfl,kb⟩:=tk_ok (H:=s2.H) wd2.sub r2 ex
 obtain⟨cc,uu,v,e1,e2,e3⟩:=(dd_at (x:=x) dr).1 y ey
 exact⟨c,bb,xs,x,cc,uu,v,rfl,rfl,by rw[P.hw];exact hr,dr.keyH wd2.sub,kb,e1,e2,h6.pure wd2 e3⟩
end
end M3
namespace M3
open PySem PySem.Spec PyProof.Rows L2
def ItkD (w:World) (d:Addr) (o:Obj) (xs:DkX):It where
 go i H:=H d=some (.frz o (DkO w d xs))∧i<xs.length
 yld i H x H':=H'=H∧∃y,xs[i]?=some y∧x=.ref y.2.1
 stop i H:=H d=some (.frz o (DkO w d xs))∧xs.length≤i
theorem frzDD {X:Cx} {pins:List (Addr×Obj)} {σ:L2.St} {H:Hp} {s:Shared} {d:Addr} {o:Obj} {xs:DkX} (I:Inv X pins σ H s) (h:H d=some (.frz o (DkO X.w d xs))) :
  (d == sysModules)=false∧s.heap.get? d=some o∧o.ExactDict∧∃(es:Array DictEntry) (ep:Nat),o.data=.dict es ep∧es.size=xs.length∧∀(i:Nat) (y:NestedKey×Addr×Value),xs[i]?=some y→∃en:DictEntry,es[i]?=some en∧en.key=.ref y.2.1:=by
 obtain⟨hd,⟨h1,h2,h3,o',es,ep,g1,g2,g3,g4⟩,_,_⟩:=I.hok d _ h
 rw[hd] at g1
 cases g1
 refine⟨h1,hd,g2,es,ep,g3,by rw[←Array.length_toList,g4,List.length_map],fun i y hy=>?_⟩
 exact⟨_,by rw[←Array.getElem?_toList,g4,List.getElem?_map,hy];rfl,rfl⟩
theorem turn_DD {P:Program} {w:World} {K:PySem.W.Frag} {tg:Expr} {d:Addr} {o:Obj} {es:Array DictEntry} {ep:Nat} {xs:DkX} (it:Addr) (hod:o.data=.dict es ep) :
  Turn P w K tg (ItkD w d o xs) [it] it (fun i h=>h.IsKeyIter it d i xs.length ep):=by
 have T:=turn_keys (P:=P) (w:=w) (K:=K) (tg:=tg) (d:=d) (kvs:=xs.map fun _=>((.inl 0:Key),V.non)) it hod
 rw[List.length_map] at T
 refine⟨T.mem,T.obj,T.keep,?_,?_,T.self⟩
 ·intro X eP eW eK calm i pins now σ H E I fp st ⟨hd,hi⟩
  subst eP eW eK
  obtain⟨f0,f1,f2,f3,f4,f5⟩:=fp it List.mem_cons_self
  obtain⟨_,hg,_,es',ep',e1,e2,ent⟩:=frzDD I hd
  obtain⟨rfl,rfl⟩:=dict_ep hod e1
  have hy:xs[i]?=some xs[i]:=List.getElem?_eq_getElem hi
  obtain⟨en,h1,h2⟩:=ent i _ hy
  refine next_key_item st hg hod e2 h1 fun h' st' sb=>⟨en.key,rfl,?_⟩
  obtain⟨oi,q1,q2,q3⟩:=id st'
  refine go_of (s:={ now with heap:=h' }) q1 q2 q3 (by decide) ⟨.ref xs[i].2.1,H,I.turned (t':=now.toks) (fun b ob hb e=>(sb.2 b hb).trans e) f0 f1 f3 f4 f5,h2,⟨rfl,_,hy,rfl⟩,st',fun b hb=>(fp b hb).1⟩
 ·intro X eP eW eK calm i pins now σ H E I fp st ⟨hd,hi⟩
  subst eP eW eK
  obtain⟨f0,f1,f2,f3,f4,f5⟩:=fp it List.mem_cons_self
  obtain⟨_,hg,_,es',ep',e1,e2,ent⟩:=frzDD I hd
  obtain⟨rfl,rfl⟩:=dict_ep hod e1
  exact keyStop (calm.but I (fp it List.mem_cons_self)) st hg hod e2 hi fun h' eb=>⟨rfl,I.turned (t':=now.toks) (fun b ob hb e=>eb b ob hb e) f0 f1 f3 f4 f5⟩
def iKeysDDr (w:World) (td:TE):TI:=fun σ H R=>td σ H fun x H1=>∃d o xs,x=.ref d∧H1 d=some (.frz o (DkO w d xs))∧R (ItkD w d o xs) H1
theorem pi_keysDD {X:Cx} {tg e:Expr} {td:TE} (he:PE X e td):PI X tg e (iKeysDDr X.w td):=
 ⟨fun pins now σ H R inv wish=>thn (he.run pins now σ H _ inv wish) fun v mid ⟨x,H1,J,rx,d,o,xs,ex,hd,q⟩=>by
  subst ex
  cases (show v=Value.ref d from rx)
  obtain⟨h1,hg,hx,es,ep,e1,e2,ent⟩:=frzDD J hd
  exact iter_keys h1 hg hx e1 (pi_one (tk:=mid.toks) J _ (turn_DD _ e1) ⟨_,Heap.get?_push_size _ rfl,rfl,by rw[e2];rfl⟩ q)⟩
def iKeysDD (m:EM):FM:=fun u=>M.bind (m u) fun w=>match w with
 | .val (.dd ks _)=>M.pure ks
 | _=>M.bad
theorem mi_keysDD {P:P3} {tg e:Expr} {m:EM} (he:ME P e m):MI P tg e (iKeysDD m):=by
 obtain⟨t,pt,ht⟩:=he.out
 refine MI.mk' (pi_keysDD pt) fun B0 B s st u z R wd sl h=>ht B0 B s st u z _ wd sl (Post.bind h fun w st1 s1 v l1 wd1 r1 h1=>?_)
 cases w with
 | val d=>
  cases d with
  | dd ks us=>
   cases r1 with
   | @dd _ _ p od xs vs hF hk ht hv hr=>
    refine⟨p,od,xs,rfl,by rw[P.hw];exact wd1.sub _ _ hF,h1 s1 _ (Le.refl _) wd1 ?_⟩
    have ln:ks.length=xs.length:=by have:=hk.length;simpa using this
    refine⟨fun s' io ff sb i hi=>⟨by rw[P.hw];exact sb _ _ (ff _ _ hF),by omega⟩,?_,fun s' io ff sb i hi=>⟨by rw[P.hw];exact sb _ _ (ff _ _ hF),by omega⟩⟩
    rintro s' io ff sb i x H' hi ⟨rfl,y,hy,rfl⟩
    obtain⟨d,e1,e2⟩:=hk.get' (i:=i) (v:=.ref y.2.1) (by rw[List.getElem?_map,hy];rfl)
    exact⟨rfl,d,e1,e2.mono ff io⟩
  | _=>exact h1.elim
 | _=>exact h1.elim
theorem upd2 {H:Hp} {p:Addr} {a b:HO}:upd (upd H p a) p b=upd H p b:=upd_upd
theorem pe_newDD {X:Cx} {pos:Pos}:PE X (.Dict [] [] pos) (fun _ H Q=>∀p,H p=none→Q (.ref p) (upd H p (DkO X.w p []))):=
 ⟨fun pins now σ H Q inv wish=>thn (pe_dnewK.run pins now σ H (fun v H'=>∃p,v=.ref p∧H p=none∧H'=upd H p (.dK [])) inv fun p hp=>⟨p,rfl,hp,rfl⟩) fun v mid ⟨x,H1,J,rx,p,ex,hp,eH⟩=>by
  subst ex eH
  obtain⟨z,hd,vs,rel,o,es,ep,g1,g2,g3,_,g5,_⟩:=dk_of (a:=p) J.hok upd_same
  have hv:vs=[]:=by cases rel;rfl
  subst hv
  have hes:es.toList=[]:=by generalize es.toList=l at g5;cases g5;rfl
  have J2:=d_write (a:=p) (h':=mid.heap) (t':=mid.toks) (ob:=DkO X.w p []) J (by rw[upd_same];exact True.intro) ⟨rfl,fun _ _=>rfl⟩ ⟨o,g1⟩ (dkO_new hd (by simp) ⟨o,es,ep,g1,g2,g3,by rw[hes];rfl,by simp,List.nodup_nil⟩)
  rw[upd2] at J2
  exact⟨.ref p,_,J2,rx,wish p hp⟩⟩
def sOwnDD (i:Nat):SM:=fun u st=>.nx (u.set i (some (.bdd [] []))) st
def eNewDD:EM:=fun _ st=>.ok (.val (.ref st.length)) (st++[.ddi [] []])
theorem dkR_nil {K:KW} {F:Hp} {io:Io}:DkR K F io [] [] []:=⟨.nil,rfl,[],.nil,.nil⟩
section
variable {P:P3} {pos:Pos}
theorem me_newDD:ME P (.Dict [] [] pos) eNewDD:=by
 refine ME.mk' pe_newDD fun B0 B s st u z Q wd sl h=>fun p hp=>?_
 rw[P.hw]
 obtain⟨w2,l2,e2⟩:=wd.newO (o:=.ddi [] []) (H':=upd s.H p (DkO P.G.w p [])) hp (same_upd hp) ⟨[],upd_same,dkR_nil⟩
 exact h _ _ l2 w2 (.ref e2)
end
end M3
namespace M3
open PySem PySem.Spec PyProof.Rows L2
abbrev StepD:=Addr→V→V→Hp→(Hp→Prop)→Prop
def StoresD (P:Program) (w:World) (A:Around) (put:StepD):Prop:=∀(Y:Cx),Y.prog=P→Y.w=w→∀(pins:List (Addr×Obj)) (σ:L2.St) (H:Hp) (s:Shared) (D:Addr) (y z:V) (u r:Value) (Nx:Hp→Prop) (Q:Unit→Shared→Prop) (E:Value→Shared→Prop),
 Inv Y pins σ H s→RelV y u→RelV z r→put D y z H Nx→(∀H' s',Inv Y pins σ H' s'→Nx H'→Q () s')→wpAny (model P w) A (dictSet D u r) Q E s
section
variable {X:Cx}
def turnD (J:It) (g:TG) (tt:TT) (tk tv:TE) (put:StepD) (σ:L2.St) (own:List Nat) (D:Addr) (W:Nat→Nat→Hp→Prop) (i m:Nat) (H:Hp):Prop:=
 J.go i H∧∃Nx:Hp→Prop,(∀H',Nx H'→∃m',m'<m∧W (i+1) m' H')∧∀x H',J.yld i H x H'→g x (wipe σ own) H' fun σ2 H2=>wipe σ2 own=wipe σ own∧tt σ2 H2 fun b H3=>
  if b=true then tk σ2 H3 fun y H4=>tv σ2 H4 fun z H5=>put D y z H5 Nx else Nx H3
def tDcG (o0:Addr→HO) (put:StepD) (wi:TI) (g:TG) (tt:TT) (tk tv:TE) (own:List Nat):TE:=fun σ H Q=>wi σ H fun J H1=>∀D,H1 D=none→
 ∃W:Nat→Nat→Hp→Prop,(∃m,W 0 m (upd H1 D (o0 D)))∧∀i m H,W i m H→(J.stop i H∧Q (.ref D) H)∨turnD J g tt tk tv put σ own D W i m H
abbrev laidD (s:Shared):Shared:={ s with heap:=s.heap.push { cls:=.type "dict",data:=.dict #[] } }
theorem pe_dcG {o0:Addr→HO} {put:StepD} {kx vx tg iter:Expr} {ifs:List Expr} {scope:Scope} {own:List (Str×Nat)} {pos:Pos} {wi:TI} {g:TG} {tt:TT} {tk tv:TE}
  (h0:∀(h:Heap) (H':Hp),sysModules<h.objs.size→ObjOk X.prog X.w H' (h.push { cls:=.type "dict",data:=.dict #[] }) h.objs.size (o0 h.objs.size)) (hput:StoresD X.prog X.w X.A put)
  (calm:Cool X) (nd:X.N.Nodup) (hi:PI X tg iter wi) (ok:BlkOk X.N X.env.scope scope own) (hg:InBlk X scope fun Y=>PG Y tg g) (hc:InBlk X scope fun Y=>PTs Y ifs tt) (hkey:InBlk X scope fun Y=>PE Y kx tk) (hval:InBlk X scope fun Y=>PE Y vx tv)
  (nofold:∀x,foldedSetIterable iter X.env x=pure x:=by intro _;rfl):PE X (.DictComp kx vx [⟨tg,iter,ifs,0⟩] scope pos) (tDcG o0 put wi g tt tk tv (own.map (·.2))):=by
 constructor
 intro pins s z H Q I h
 rw[arm_eval_DictComp]
 refine wpAny_comprehension_free (use:=none) rfl nofold (closure_ok fun y hy e=>I.ok.has _ (ok.free y hy e)) ok.kind (fun y hy e=>(ok.uniq y hy).trans (congrArg some e)) (thn (hi.run pins s z H _ I h) fun _ s1 h1=>thn h1 ?_)
 rintro _ s2 ⟨it,fp,tn,J,H2,rfl,I2,T,st2,f2,q⟩
 refine wpAny_newObj_type (newEnv_comp ?_)
 obtain⟨W,⟨m0,w0⟩,turn⟩:=q s2.heap.objs.size (I2.hok.fresh (Nat.le_refl _))
 have O:=comp_open (ho:=o0 s2.heap.objs.size) (ob:={ cls:=.type "dict",data:=.dict #[] }) calm nd ok I2 T st2 f2 fun H'=>h0 s2.heap H' I2.big
 have gG:=InBlk.at hg (laidD s2) (upd H2 s2.heap.objs.size (o0 s2.heap.objs.size)) fp O.cools
 have gT:=InBlk.at hc (laidD s2) (upd H2 s2.heap.objs.size (o0 s2.heap.objs.size)) fp O.cools
 have gK:=InBlk.at hkey (laidD s2) (upd H2 s2.heap.objs.size (o0 s2.heap.objs.size)) fp O.cools
 have gV:=InBlk.at hval (laidD s2) (upd H2 s2.heap.objs.size (o0 s2.heap.objs.size)) fp O.cools
 refine(show codeAny _ _ (.compStart (.DictComp kx vx [⟨tg,iter,ifs,0⟩] scope pos) 0 (.ref it) (.ref s2.heap.objs.size) (blkEnv X scope (laidD s2))) (compPost _ _ _ none _ (.ref s2.heap.objs.size) (laidD s2).heap.objs.size) (blkFirst scope (laidD s2)) from ?_)
 revert O gG gT gK gV w0 turn
 show (∀i m H,W i m H→_)→W 0 m0 (upd H2 s2.heap.objs.size (o0 s2.heap.objs.size))→Opened X pins z scope own fp tn (laidD s2) (upd H2 s2.heap.objs.size (o0 s2.heap.objs.size)) (blkEnv X scope (laidD s2)) (blkFirst scope (laidD s2))→_
 generalize upd H2 s2.heap.objs.size (o0 s2.heap.objs.size)=Hd
 generalize s2.heap.objs.size=D
 generalize laidD s2=start
 generalize blkEnv X scope start=ce
 generalize blkFirst scope start=first
 intro turn w0 O gG gT gK gV
 refine(fun loop=>codeAny_compStart_dict loop (T.self X.A 0 _ _ _ O.st loop)) ?_
 refine compLoop_anyD (fun n now=>∃i H',(Inv (X.blk start Hd scope ce fp) [] (wipe z (own.map (·.2))) H' now∧tn i now.heap∧∀b∈fp,H' b=none)∧W i n H') (fun n s5=>?_) m0 ⟨0,Hd,⟨O.ins,O.st,O.clear⟩,w0⟩
 rintro⟨i,H5,⟨I5,st5,n5⟩,w5⟩
 rcases turn i n H5 w5 with⟨stop,qq⟩ | ⟨go,Nx,hNx,step⟩
 ·refine thnF (T.done (X.blk start Hd scope ce fp) rfl rfl rfl O.cool i [] s5 _ H5 (fun _ _=>False) I5 (O.foot I5 n5) st5 stop) ?_
  rintro _ s6 ⟨rfl,I6⟩
  obtain⟨I7,⟨m,hn⟩,fC⟩:=O.back I6
  exact out_val I7 qq hn fC
 ·refine thnF (T.item (X.blk start Hd scope ce fp) rfl rfl rfl O.cool i [] s5 _ H5 (fun _ _=>False) I5 (O.foot I5 n5) st5 go) ?_
  rintro _ s6 ⟨u,rfl,h6⟩
  refine thnF h6 fun _ s7 ⟨x,H7,I7,r7,y7,st7,n7⟩=>?_
  refine thnF (gG.run _ s7 _ H7 x u _ (I7.pinned (O.foot I7 n7) (T.obj _ _ st7)) r7 (step x H7 y7)) fun _ s8 ⟨z8,H8,I8,same,q8⟩=>?_
  have fin:∀{s':Shared} {H':Hp},Inv (X.blk start Hd scope ce fp) ([]++pinsAt fp s7.heap) z8 H' s'→Nx H'→∃m,m<n∧∃i H',(Inv (X.blk start Hd scope ce fp) [] (wipe z (own.map (·.2))) H' s'∧tn i s'.heap∧∀b∈fp,H' b=none)∧W i m H':=fun {s' H'} I' nx=>
   have ⟨m',less,w'⟩:=hNx H' nx
   ⟨m',less,i+1,H',Turn.next (X:=X.blk start Hd scope ce fp) T st7 I' (wiped same).1 (wiped same).2,w'⟩
  refine thnF (gT.run _ s8 z8 H8 _ I8 q8) fun b s9 ⟨H9,I9,q9⟩=>?_
  cases b with
  | false=>rw[if_neg Bool.false_ne_true] at q9⊢;exact fin I9 q9
  | true=>
   rw[if_pos rfl] at q9⊢
   refine thnF (gK.run _ s9 z8 H9 _ I9 q9) fun v s10 ⟨yk,H10,I10,r10,q10⟩=>?_
   refine thnF (gV.run _ s10 z8 H10 _ I10 q10) fun v2 s11 ⟨yv,H11,I11,r11,q11⟩=>?_
   exact hput (X.blk start Hd scope ce fp) rfl rfl _ _ _ _ _ _ _ _ _ _ _ _ I11 r10 r11 q11 fun H' s' I' nx=>fin I' nx
end
def putDD (w:World):StepD:=fun D y z H Nx=>∃b xs k,y=.ref b∧H D=some (DkO w D xs)∧(∀x∈xs,KeyH H x.1 x.2.1)∧KeyH H k b∧xs.length<sizeLine∧∀u,RelV z u→Nx (upd H D (DkO w D (storedH xs k b u)))
theorem stores_DD {P:Program} {w:World} {A:Around} (hu:A.units+65<cLine):StoresD P w A (putDD w):=by
 rintro Y eP eW pins σ H s D y z u r Nx Q E I ry rz ⟨b,xs,k,rfl,hD,hk,kb,hz,nx⟩ fin
 subst eP eW
 cases (show u=Value.ref b from ry)
 obtain⟨hd,hl,dd⟩:=dkO_of I.hok (.inl hD) hk
 refine wpAny_dictSet_heap (hsz:=hl) (show A.units+8<cLine by omega) (kb _ _ _ I.hok) dd fun h' dd' sb=>?_
 have hl2:(storedH xs k b r).length≤sizeLine:=by
  unfold storedH
  split <;> simp <;> omega
 exact fin _ _ (d_write I (by rw[hD];exact True.intro) sb (let ⟨q,_,_,hq,_⟩:=dd';⟨q,hq⟩) (dkO_new hd hl2 dd')) (nx r rz)
theorem new_DD {P:Program} {w:World} (h:Heap) (H':Hp) (big:sysModules<h.objs.size):ObjOk P w H' (h.push { cls:=.type "dict",data:=.dict #[] }) h.objs.size (DkO w h.objs.size []):=
 dkO_new (by rw[beq_eq_false_iff_ne];exact Nat.ne_of_gt big) (by simp) (Heap.DictOfH.new h)
end M3
namespace M3
open PySem PySem.Spec PyProof.Rows L2
def dcL (g:GM) (c:TM) (ek ev:EM) (u0:Sl3):List D→List D→List D→M (List D×List D)
 | [],ks,us=>M.pure (ks,us)
 | d :: ds,ks,us=>M.bind (M.of (g d u0)) fun u1=>M.bind (M.quiet (c u1)) fun b=>
  if b=true then M.bind (M.quiet (ek u1)) fun kw=>M.bind (M.quiet (ev u1)) fun vw=>M.bind (M.of kw.d) fun k=>M.bind (M.of vw.d) fun v=>M.bind (M.of k.tk) fun x=>M.bind (M.chk (ks.length<1000000)) fun _=>
   dcL g c ek ev u0 ds (ddPut ks us k x v).1 (ddPut ks us k x v).2
  else dcL g c ek ev u0 ds ks us
def eDc (mi:FM) (g:GM) (c:TM) (ek ev:EM) (own:List Nat):EM:=fun u=>M.bind (mi u) fun ds=>M.bind (dcL g c ek ev (wipe3 u own) ds [] []) fun q=>M.pure (.val (.dd q.1 q.2))
section
variable {P:P3} {pos:Pos}
theorem of_quietE {α β:Type} {m:M α} {f:α→M β} {st:Store} {γ:Type} {R:S3→β→γ→Prop} {G:G3} {B:Addr→Prop} {E:XK} {s:S3} {Q:γ→Hp→Prop} (h:Post G B R E s Q (M.bind (M.quiet m) f st)):∃a st',m st=.ok a st'∧Post G B R E s Q (f a st'):=by
 unfold M.bind M.quiet at h
 cases e:m st with
 | ok a st'=>rw[e] at h;exact⟨a,st',rfl,h⟩
 | err c x st'=>rw[e] at h;exact h.elim
 | bad=>rw[e] at h;exact h.elim
theorem me_dc {kx vx tg iter:Expr} {ifs:List Expr} {scope:Scope} {own:List (Str×Nat)} {mi:FM} {g:GM} {gs:List Nat} {c:TM} {mk mv:EM} (hu:P.X.A.units+65<cLine) (hc:Cool P.X) (hN:P.X.N.Nodup) (hi:MI P tg iter mi) (ok:BlkOk P.X.N P.X.env.scope scope own)
  (hg:∀(s:Shared) (H:Hp) (C:Addr) (cl:List (Str×Addr)) (fp:List Addr),CoolS P.X.A s H (frs P.X.stack) fp→MG (P.blk s H scope C cl fp) tg g gs) (ht:∀(s:Shared) (H:Hp) (C:Addr) (cl:List (Str×Addr)) (fp:List Addr),CoolS P.X.A s H (frs P.X.stack) fp→MIfs (P.blk s H scope C cl fp) ifs c)
  (hk:∀(s:Shared) (H:Hp) (C:Addr) (cl:List (Str×Addr)) (fp:List Addr),CoolS P.X.A s H (frs P.X.stack) fp→ME (P.blk s H scope C cl fp) kx mk) (hv:∀(s:Shared) (H:Hp) (C:Addr) (cl:List (Str×Addr)) (fp:List Addr),CoolS P.X.A s H (frs P.X.stack) fp→ME (P.blk s H scope C cl fp) vx mv)
  (hgs:∀i∈gs,i∈own.map (·.2):=by decide) (hs:∀x,foldedSetIterable iter P.X.env x=pure x:=by intro _;rfl) :
  ME P (.DictComp kx vx [⟨tg,iter,ifs,0⟩] scope pos) (eDc mi g c mk mv (own.map (·.2))):=by
 obtain⟨ti,pi,hti⟩:=hi.out
 refine ME.mk' (pe_lockOn (pe_dcG (own:=own) (o0:=fun p=>DkO P.X.w p []) (put:=putDD P.X.w) (g:=tG P.G P.hx g gs) (tt:=tT P.G P.hx noW c) (tk:=tE P.G P.hx noW mk) (tv:=tE P.G P.hx noW mv) (fun h H' big=>new_DD h H' big) (stores_DD hu) hc hN pi ok
  (fun s H C cl fp co=>(hg s H C cl fp co).pg) (fun s H C cl fp co=>(ht s H C cl fp co).pts) (fun s H C cl fp co=>(hk s H C cl fp co).pe) (fun s H C cl fp co=>(hv s H C cl fp co).pe) hs)) fun B0 B s st u z Q wd sl h=>?_
 refine hti B0 B s st u z _ wd sl (Post.bind h fun ds st1 s1 J l1 wd1 im h1=>?_)
 intro p hp
 rw[P.hw]
 obtain⟨wd2,l2⟩:=own_wd (ho:=DkO P.G.w p []) wd1 hp
 have nb:¬B p:=wd1.freshB hp
 have fin:∀(s':S3) (st':Store) (ks us:List D) (xs:DkX),Le B s1 s'→Wd P.G (plus B p) st' s'→s'.H p=some (DkO P.G.w p xs)→DkR P.G.R s'.F s'.io ks us xs→Post P.G B (RepW P.G P.hx B) (fun c d H=>P.wx c d z H) s' Q (M.pure (.val (.dd ks us)) st')→
   ∃d u,V.ref p=.ref d∧s'.H d=some u∧Mut (some u)∧∀od,Q (.ref p) (upd s'.H d (.frz od u)):=by
  intro s' st' ks us xs l' w' hq dr pf
  refine⟨p,_,rfl,hq,True.intro,fun od=>?_⟩
  have hF:=(w'.hid p (.inr rfl)).1
  have dr':=dr.mono (F':=upd s'.F p (.frz od (DkO P.G.w p xs))) (same_upd hF) (IoLe.refl _)
  obtain⟨vs,hv,hr⟩:=dr'.vals
  have wd1:Wd P.G B st' ⟨s'.io,upd s'.F p (.frz od (DkO P.G.w p xs)),upd s'.H p (.frz od (DkO P.G.w p xs))⟩:=freeze_wd (own_put w' nb _) nb upd_same
  exact pf ⟨s'.io,upd s'.F p (.frz od (DkO P.G.w p xs)),upd s'.H p (.frz od (DkO P.G.w p xs))⟩ (.ref p) ⟨IoLe.refl _,same_upd hF,fun a ba=>upd_ne fun y=>nb (y▸ba)⟩ wd1 (show Rep _ _ _ (.dd ks us) (.ref p) from .dd upd_same dr'.keys dr'.tk hv hr)
 refine⟨fun i n H'=>n=ds.length - i∧i≤ds.length∧∃(s':S3) (st':Store) (ks us:List D) (xs:DkX),s'.H=H'∧Le B s1 s'∧Wd P.G (plus B p) st' s'∧s'.H p=some (DkO P.G.w p xs)∧DkR P.G.R s'.F s'.io ks us xs∧
   Post P.G B (RepW P.G P.hx B) (fun c d H=>P.wx c d z H) s' Q (M.bind (dcL g c mk mv (wipe3 u (own.map (·.2))) (ds.drop i) ks us) (fun q=>M.pure (.val (.dd q.1 q.2))) st'),
  ⟨_,rfl,Nat.zero_le _,_,st1,[],[],[],rfl,l2,wd2,upd_same,dkR_nil,Post.mono l2 h1⟩,?_⟩
 rintro i n H' ⟨rfl,hi,s',st',ks,us,xs,rfl,l',w',hq,dr,pf⟩
 rcases Nat.lt_or_ge i ds.length with hlt | hge
 ·right
  refine⟨im.go s' l'.io l'.fr w'.sub i hlt,fun H2=>i+1≤ds.length∧∃(s':S3) (st':Store) (ks us:List D) (xs:DkX),s'.H=H2∧Le B s1 s'∧Wd P.G (plus B p) st' s'∧s'.H p=some (DkO P.G.w p xs)∧DkR P.G.R s'.F s'.io ks us xs∧
   Post P.G B (RepW P.G P.hx B) (fun c d H=>P.wx c d z H) s' Q (M.bind (dcL g c mk mv (wipe3 u (own.map (·.2))) (ds.drop (i+1)) ks us) (fun q=>M.pure (.val (.dd q.1 q.2))) st'),fun H2 q=>⟨_,by omega,rfl,q.1,q.2⟩,fun x H2 y=>?_⟩
  obtain⟨rfl,d,ed,rd⟩:=im.yld s' l'.io l'.fr w'.sub i x _ hlt y
  rw[List.drop_eq_getElem_cons hlt] at pf
  have ed':ds[i]=d:=by rw[List.getElem?_eq_getElem hlt] at ed;cases ed;rfl
  rw[ed'] at pf
  unfold dcL at pf
  have assoc:∀{α β γ:Type} (m:M α) (f:α→M β) (f2:β→M γ) (st:Store),M.bind (M.bind m f) f2 st=M.bind m (fun a=>M.bind (f a) f2) st:=fun m f f2 st=>by
   unfold M.bind
   cases m st <;> rfl
  rw[assoc] at pf
  obtain⟨u1,eg,pf⟩:=Post.of_of pf
  have slw:Slo P.G P.hx B0 (plus B p) s' (wipe3 u (own.map (·.2))) (L2.wipe z (own.map (·.2))):=((sl.mono' (l1.trans l')).more fun a b=>.inl b).wipe _
  refine⟨B0,plus B p,s',st',wipe3 u (own.map (·.2)),d,u1,rfl,w',slw,rd,eg,fun z2 sl2 b2=>⟨?_,?_⟩⟩
  ·rw[b2.wipe hgs,lc_ok.wipe_wipe]
  ·rw[assoc] at pf
   obtain⟨k,st3,ek,pf⟩:=of_quietE pf
   refine⟨B0,plus B p,s',st',u1,rfl,w',sl2,?_⟩
   rw[ek]
   intro s3 k' l3 w3 rk
   subst rk
   have hq3:s3.H p=some (DkO P.G.w p xs):=(l3.hid p (.inr rfl)).trans hq
   have dr3:=dr.mono l3.fr l3.io
   have pf:=Post.mono (plus_le l3) pf
   cases k with
   | false=>exact⟨hlt,s3,st3,ks,us,xs,rfl,l'.trans (plus_le l3),w3,hq3,dr3,pf⟩
   | true=>
    rw[if_pos rfl] at pf⊢
    rw[assoc] at pf
    obtain⟨kw,st4,ekw,pf⟩:=of_quietE pf
    refine⟨B0,plus B p,s3,st3,u1,rfl,w3,sl2.mono' l3,?_⟩
    rw[ekw]
    intro s4 v4 l4 w4 r4
    rw[assoc] at pf
    obtain⟨vw,st5,evw,pf⟩:=of_quietE pf
    refine⟨B0,plus B p,s4,st4,u1,rfl,w4,(sl2.mono' l3).mono' l4,?_⟩
    rw[evw]
    intro s5 v5 l5 w5 r5
    rw[assoc] at pf
    obtain⟨k,hk,pf1⟩:=Post.of_of pf
    clear pf
    rw[assoc] at pf1
    obtain⟨v,hv,pf2⟩:=Post.of_of pf1
    clear pf1
    rw[assoc] at pf2
    obtain⟨x,hx,pf3⟩:=Post.of_of pf2
    clear pf2
    rw[assoc] at pf3
    obtain⟨hz,pf9⟩:=Post.of_chk pf3
    clear pf3
    have ekd:=d_val hk
    have evd:=d_val hv
    subst ekd evd
    have dr5:=(dr3.mono l4.fr l4.io).mono l5.fr l5.io
    have hq5:s5.H p=some (DkO P.G.w p xs):=(l5.hid p (.inr rfl)).trans ((l4.hid p (.inr rfl)).trans hq3)
    have r4':Rep P.G.R s5.F s5.io k v4:=Rep.mono l5.fr l5.io r4
    obtain⟨b,eb,kb⟩:=tk_ok (H:=s5.H) w5.sub r4' hx
    subst eb
    refine⟨b,xs,x,rfl,hq5,dr5.keyH w5.sub,kb,by rw[←(dd_len dr5).1];exact szl hz,fun uv ruv=>?_⟩
    have w6:=own_put w5 nb (DkO P.G.w p (storedH xs x b uv))
    have l6:Le B s5 ⟨s5.io,s5.F,upd s5.H p (DkO P.G.w p (storedH xs x b uv))⟩:=⟨IoLe.refl _,Same.refl _,fun a ba=>upd_ne fun y=>nb (y▸ba)⟩
    exact⟨hlt,_,st5,_,_,_,rfl,(((l'.trans (plus_le l3)).trans (plus_le l4)).trans (plus_le l5)).trans l6,w6,upd_same,(dd_put hx r4' ruv r5 dr5),Post.mono (((plus_le l4).trans (plus_le l5)).trans l6) pf9⟩
 ·left
  have e:ds.drop i=[]:=List.drop_eq_nil_of_le hge
  rw[e] at pf
  exact⟨im.stop s' l'.io l'.fr w'.sub i hge,fin s' st' ks us xs l' w' hq dr pf⟩
end
end M3
namespace M3
open PySem PySem.Spec PyProof.Rows L2
section
variable {P:P3} {pos p kpos:Pos} {x:Str} {e:Expr} {es:List Expr} {kws:List Keyword} {m:EM} {ma mk:AM} {nm:Option Str}
structure MkOkK (Pg:Program) (w:World) (K:PySem.W.Frag) (mg:Str→Option Value) (base:Heap) (G:G3) (k:Nat) (x:Str) (c:String) (n:Nat) (ks:List Str) (arr:List D→List D→List D) (N:Nat) (mf:List D→M D):Prop where
 ex:∃(C f:Addr) (fd:FuncData) (ps:List Str) (g:List Value→List Value→List Value) (gV hV:List V→List V→List V),mg x=some (.ref C)∧G.cls c=some C∧Mk K C f∧KBn K fd ps (n+1) ks g gV∧
  (∀v vs zs,gV (v :: vs) zs=v :: hV vs zs)∧(∀F io vs zs ds es,RepL G.R F io ds vs→RepL G.R F io es zs→ds.length=n→es.length=ks.length→RepL G.R F io (arr ds es) (hV vs zs))∧(∀ds es,ds.length=n→es.length=ks.length→(arr ds es).length=N)∧
  FnOk Pg w K mg base (CXq Pg w) k f fd ps (spM G (N+1) mf)
def eCallK (n m N:Nat) (arr:List D→List D→List D) (mf:List D→M D) (ma mk:AM):EM:=fun u=>M.bind (ma u) fun ws=>M.bind (mk u) fun zs=>M.bind (M.of (asDs ws)) fun ds=>M.bind (M.of (asDs zs)) fun es=>M.bind (M.chk (ds.length=n∧es.length=m∧(arr ds es).length=N)) fun _=>
 M.bind (mf (arr ds es)) fun d=>M.pure (.val d)
def eMkK (c:String) (n m:Nat) (arr:List D→List D→List D) (mf:List D→M D) (ma mk:AM):EM:=fun u=>M.bind (ma u) fun ws=>M.bind (mk u) fun zs=>M.bind (M.of (asDs ws)) fun ds=>M.bind (M.of (asDs zs)) fun es=>M.bind (M.chk (ds.length=n∧es.length=m)) fun _=>mMake c mf (arr ds es)
def ddOw (w:W):M (List D×List D):=fun st=>match w with
 | .val (.ref k)=>match st[k]? with
  | some (.ddi ks us)=>.ok (ks,us) st
  | _=>.bad
 | _=>.bad
def sSetDS (mo mi me:EM):SM:=fun u st=>match M.bind (me u) (fun w=>M.bind (M.of w.d) fun d=>M.bind (mo u) fun ow=>M.bind (mi u) fun k=>M.bind (M.of k.d) fun kd=>M.bind (M.of kd.tk) fun x=>M.bind (ddOw ow) fun q=>M.bind (M.chk (q.1.length<1000000)) fun _=>fun st=>match ow with
  | .val (.ref j)=>.ok () (st.set j (.ddi (ddPut q.1 q.2 kd x d).1 (ddPut q.1 q.2 kd x d).2))
  | _=>.bad) st with
 | .ok _ st'=>.nx u st'
 | .err c x st'=>.err c x u st'
 | .bad=>.bad
theorem me_dd0:ME P (.Dict [] [] pos) (eC (.dd [] [])):=by
 refine ME.mk' (pe_lockOn pe_newDD) fun B0 B s st u z Q wd sl h=>fun p hp=>?_
 refine⟨p,_,rfl,upd_same,True.intro,fun od=>?_⟩
 rw[upd2,P.hw]
 obtain⟨w2,l2⟩:=wd.froz hp (.frz od (DkO P.G.w p []))
 exact h ⟨s.io,upd s.F p (.frz od (DkO P.G.w p [])),upd s.H p (.frz od (DkO P.G.w p []))⟩ (.ref p) l2 w2 (show Rep _ _ _ (.dd [] []) (.ref p) from .dd upd_same .nil rfl .nil .nil)
end
section
variable {P:P3}
def isi2F:List W→Option W
 | [.val (.dd _ _),.val (.ty T)]=>(kitB "dict" T).map fun b=>.val (.bl b)
 | ws=>isiF ws
theorem cm_isi2:CallM P (.builtin "isinstance") isi2F:=by
 obtain⟨r,hr,hq⟩:=cm_isi (P:=P)
 refine⟨fun vs H Q=>r vs H Q∨∃p T b xs,vs=[.ref p,.ty T]∧RdD H p (DkO P.X.w p xs)∧kitB "dict" T=some b∧Q (.bl b) H,?_,fun B s st ws w vs Q wd rs e k=>?_⟩
 ·rintro pins s σ H vs us Q I rv (h | ⟨p,T,b,xs,rfl,hp,e,q⟩)
  ·exact hr pins s σ H vs us Q I rv h
  ·obtain⟨u1,u2,rfl,r1,r2⟩:=vals2 rv
   cases (show u1=Value.ref p from r1)
   cases (show u2=Value.type T from r2)
   obtain⟨⟨h1,h2,h3,o,es,ep,g1,g2,g3,g4⟩,_,_⟩:=hp.ok I.hok
   exact PySem.W.kia_one PySem.W.kitx_dict I.kIn ⟨o,g1,g2.1⟩ (kit_ty e) (fun z=>nomatch z) fun tk=>⟨.bl b,H,I.tok tk,rfl,q⟩
 ·unfold isi2F at e
  split at e
  ·rename_i ks us T
   cases rs with
   | cons r1 rs=>
    cases rs with
    | cons r2 rs=>
     cases rs
     cases r2
     cases h3:kitB "dict" T with
     | none=>rw[h3] at e;cases e
     | some b=>
      rw[h3] at e
      cases e
      cases r1 with
      | dd hF hk ht hv hrr=>exact .inr ⟨_,_,b,_,rfl,by rw[P.hw];exact .inr (.inl ⟨_,wd.sub _ _ hF⟩),h3,k s _ (Le.refl _) wd .bl⟩
  ·exact .inl (hq B s st ws w vs Q wd rs e k)
end
end M3
namespace M3
open PySem PySem.Spec PyProof.Rows L2
theorem nil_all {α:Type} {p:α→Prop}:∀c∈([]:List α),p c:=fun _ h=>by cases h
theorem cons_all {α:Type} {p:α→Prop} {a:α} {l:List α} (h:p a) (t:∀c∈l,p c):∀c∈a :: l,p c:=fun c hc=>by
 rcases List.mem_cons.mp hc with rfl | hc
 ·exact h
 ·exact t c hc
theorem exm_ref' {K:PySem.W.Frag} {C:Addr} {cls:Value} {b:Bool} (h1:PySem.W.subIn K (.ref C) (.type "BaseException")=some true) (hd:PySem.W.hasDictIn K C=true) (ht:PySem.W.typeIn K (.ref C)=some (.type "type")) (h4:PySem.W.subIn K cls (.ref C)=some b):PySem.W.exmOne K cls (.ref C)=some b:=
 PySem.W.exm_ref h1 hd ht h4
def subT (tab:List (String×Bool)):String→Option Bool:=fun c=>tab.lookup c
theorem subT_ok {tab:List (String×Bool)} {p:String×Bool→Prop} (h:∀q∈tab,p q):∀c b,subT tab c=some b→p (c,b):=fun c b e=>h _ (lookup_mem e)
section
variable {P:Program} {w:World} {K:PySem.W.Frag} {mg:Str→Option Value} {base:Heap}
theorem okD {CX:CXH} {x qual:Str} {params:Arguments} {body:List Stmt} {scope:Scope} {dvs:List V} {kws:List (Str×V)} {f:Addr} {fd:FuncData} {N ps:List Str} {k:Nat} {sp:Sp} (F:FunD K x qual params body scope dvs kws f fd) (S:FnScope N ps scope) (len:∀vs H Q E,sp vs H Q E→vs.length=ps.length)
  (hbody:∀(cdv:Value) (A:Around) (outer:List Env) (s:Shared) (H:Hp) (vs:List V) (Q:VK) (E:XK),Room k (cxOf CX P w K mg base N qual scope f cdv A outer s H E)→sp vs H Q E→
   ∃t,PSs (cxOf CX P w K mg base N qual scope f cdv A outer s H E) body t∧t { nx:=fun _ H'=>Q .non H',rt:=Q } (L2.start N vs) H):FnOk P w K mg base CX (k+1) f fd ps sp:=by
 obtain⟨oc,od,dV,kV,doc,pm,an,cdv,ct,osl,rfl,lk,hcd,_,_⟩:=F.ex
 exact fn_of lk hcd S len (hbody cdv)
theorem fn_okD {G:G3} (hK:K=G.K) (hw:w=G.w) {x qual:Str} {st:Stmt} {dvs:List V} {kws:List (Str×V)} {f:Addr} {fd:FuncData} {N ps:List Str} {k:Nat} {mb:SM} (F:FunD K x qual (defArgs st) (defBody st) (defScope st) dvs kws f fd) (S:FnScope N ps (defScope st))
  (h:∀(cdv:Value) (A:Around) (outer:List Env) (s:Shared) (H:Hp) (E:XK),Room k (cxOf (CXq P w) P w K mg base N qual (defScope st) f cdv A outer s H E)→
   MSs ⟨cxOf (CXq P w) P w K mg base N qual (defScope st) f cdv A outer s H E,G,none,fun cls d _ H=>E cls d H,hK,hw⟩ (defBody st) mb) :
  FnOk P w K mg base (CXq P w) (k+1) f fd ps (spM G ps.length (mfn N.length mb)):=by
 refine okD F S (fun vs H Q E h=>h.1) fun cdv A outer s0 H vs Q E hr ⟨hl,B,s,o,ds,e,wd,rl,hp⟩=>?_
 subst e
 obtain⟨t,pt,ht⟩:=(h cdv A outer s0 s.H E hr).out
 refine⟨t,pt,ht B B s o _ _ _ (fun _ b=>b) wd (slo_start (N:=N) rl) ?_⟩
 unfold mfn at hp
 cases em:mb (ds.map (fun d=>some (.val d))++List.replicate (N.length - ds.length) none) o with
 | nx u' st'=>rw[em] at hp;exact fun B' s' z' b l w sl=>hp s' .non l (w.less b) .non
 | rt w st'=>
  rw[em] at hp
  cases w with
  | val d=>exact fun B' s' v b l w r=>hp s' v l (w.less b) r
  | bor xs=>
   rintro B' s' v b l w ⟨p,vs',rfl,bp,nb,hq,r⟩
   have w':Wd G (plus B p) st' s':=w.less fun a q=>q.elim (b a) fun z=>z▸bp
   exact hp ⟨s'.io,upd s'.F p (.lst vs'),s'.H⟩ (.ref p) (l.trans (freeze_le w')) (freeze_wd w' nb hq) (.lst upd_same (r.mono (freeze_le w').fr (freeze_le w').io))
  | _=>exact hp.elim
 | bk u' st'=>rw[em] at hp;exact hp.elim
 | ct u' st'=>rw[em] at hp;exact hp.elim
 | err c x u' st'=>rw[em] at hp;exact fun B' s' z' cv dd b l w sl q=>hp s' cv dd l (w.less b) q
 | bad=>rw[em] at hp;exact hp.elim
end
end M3
namespace PySem
open Sem (wp)
def LsAt (h:Heap) (a:Addr) (xs:List Value):Prop:=∃n,h.get? a=some { cls:=.type "list",data:=.seq xs.toArray n }
theorem LsAt.is {h:Heap} {a:Addr} {xs:List Value} (l:LsAt h a xs):h.IsList a xs.toArray:=by obtain⟨n,e⟩:=l;exact⟨_,e,rfl,n,rfl⟩
theorem LsAt.lt {h:Heap} {a:Addr} {xs:List Value} (l:LsAt h a xs):a<h.objs.size:=by obtain⟨n,e⟩:=l;exact Heap.lt_size e
def Kept2 (I S:Addr) (h h':Heap):Prop:=∀b o,b≠I→b≠S→h.get? b=some o→h'.get? b=some o
section
variable {prog:Program} {w:World} {A:Around} {R:Result→Shared→Prop} {I S ax:Addr} {refs:List Addr} {segs:List (List Value)}
theorem sum_lists_loop (hIS:I≠S) (haI:ax≠I) (haS:ax≠S) (base:Nat) (hlen:refs.length=segs.length) (hz:(segs.map (·.length)).sum≤1000000) :
  ∀(k i:Nat) (s:Shared) (T:Addr) (c:Nat) (acc:List Value),segs.length - i=k→i≤segs.length→base≤s.heap.objs.size→s.heap.IsListIter I ax i→s.heap.IsList ax (refs.map Value.ref).toArray→
   (∀(j:Nat) (b:Addr) (xs:List Value),refs[j]?=some b→segs[j]?=some xs→b≠I∧b≠S∧LsAt s.heap b xs)→
   s.heap.get? S=some { cls:=.type "list",data:=.seq #[.ref T] c }→T≠I→T≠S→LsAt s.heap T acc→acc.length≤((segs.take i).map (·.length)).sum→(i=0∨base≤T)→M3.CoolBut2 A s.heap I S→
   (∀(s':Shared) (T':Addr),Kept2 I S s.heap s'.heap→s'={ s with heap:=s'.heap,toks:=s'.toks }→LsAt s'.heap T' (acc++(segs.drop i).flatten)→(T'=T∨base≤T')→(i<segs.length→base≤T')→R (.ok (.ret (.ref T'))) s')→
   codeAny (model prog w) A (.builtin "sum.loop" ⟨[.ref I,.ref S,rawInt 2,rawInt 0],[]⟩) R s:=by
 intro k
 induction k with
 | zero=>
  intro i s T c acc hk hi hb hit hl hs hS hTI hTS hT ha hbT hh hR
  have hin:i=segs.length:=by omega
  apply codeAny_builtin F.entry_sum_loop;rw[Around.under_plainId F.plain_sum_loop];change wpAny _ A.in1 (seqItems? (.ref S) >>= _) _ _ s
  apply wpAny_bind;apply wpAny_seqItems hS rfl;change wpAny _ A.in1 (tryCatch (pyNext (.ref I)) _ >>= _) _ _ s
  refine wpAny_bind (wpAny_tryCatch (M3.listStop (A:=A.in1) (M3.CoolBut2.but hh) hit hl (by simp[hlen,hin]) fun h' eb=>?_))
  refine wpAny_pure (hR { s with heap:=h' } T (fun b o b1 b2 e=>eb b o b1 e) rfl ?_ (.inl rfl) (by omega))
  obtain⟨n,e⟩:=hT
  rw[List.drop_eq_nil_of_le (by omega)]
  exact⟨n,by simpa using eb T _ hTI e⟩
 | succ k ih=>
  intro i s T c acc hk hi hb hit hl hs hS hTI hTS hT ha hbT hh hR
  have hlt:i<segs.length:=by omega
  have hlr:i<refs.length:=by omega
  have hx:(refs.map Value.ref).toArray[i]?=some (.ref refs[i]):=by simp[hlr]
  obtain⟨rI,rS,hr⟩:=hs i refs[i] segs[i] (List.getElem?_eq_getElem hlr) (List.getElem?_eq_getElem hlt)
  have hsum:((segs.take (i+1)).map (·.length)).sum=((segs.take i).map (·.length)).sum+segs[i].length:=by
   rw[List.take_succ_eq_append_getElem hlt,List.map_append,List.sum_append,List.map_singleton,List.sum_singleton]
  have hle:((segs.take (i+1)).map (·.length)).sum≤(segs.map (·.length)).sum:=by
   conv=>rhs;rw[←List.take_append_drop (i+1) segs]
   rw[List.map_append,List.sum_append];omega
  apply codeAny_builtin F.entry_sum_loop;rw[Around.under_plainId F.plain_sum_loop];change wpAny _ A.in1 (seqItems? (.ref S) >>= _) _ _ s
  apply wpAny_bind;apply wpAny_seqItems hS rfl;change wpAny _ A.in1 (tryCatch (pyNext (.ref I)) _ >>= _) _ _ s
  refine wpAny_bind (wpAny_tryCatch (wpAny_pyNext_list_item (A:=A.in1) hit hl hx fun h' hit' sb=>?_))
  show wpAny _ A.in1 ((holding [Value.ref refs[i]] (binaryOp .Add (.ref T) (.ref refs[i]))).attempt >>= _) _ _ _
  have kp:∀b o,b≠I→s.heap.get? b=some o→h'.get? b=some o:=fun b o hb e=>(sb.2 b hb).trans e
  obtain⟨nT,eT⟩:=hT
  obtain⟨nr,er⟩:=hr
  refine wpAny_bind (wpAny_attempt (wpAny_holding (PySem.P.add_list (s:={ s with heap:=h' }) (kp _ _ hTI eT) (kp _ _ rI er) ?_ (by simp only[List.size_toArray];rw[sizeLine_eq];omega))))
  have ht':h'.objs.size=s.heap.objs.size:=sb.1
  have sI:S≠I:=fun z=>hIS z.symm
  have hS1:(h'.push { cls:=.type "list",data:=.seq (acc.toArray++segs[i].toArray) }).get? S=some { cls:=.type "list",data:=.seq #[.ref T] c }:=Heap.get?_push_of_some _ (kp _ _ sI hS)
  show wpAny _ A.in1 (updateSeq S (fun _=>#[.ref h'.objs.size]) >>= _) _ _ _
  refine wpAny_bind (wpAny_updateSeq hS1 rfl ?_)
  have hS2:=Heap.get?_update_self (Obj.mapSeq fun _=>#[Value.ref h'.objs.size]) hS1 rfl
  apply wpAny_bind;apply wpAny_letGo
  have up:∀{h:Heap} {f:Obj→Obj} {b:Addr} {o:Obj},b≠S→h.get? b=some o→(h.update S f).get? b=some o:=fun {h f b o} hb e=>(Heap.get?_update_other _ _ (Ne.symm hb)).trans e
  have k1:∀b o,b≠S→h'.get? b=some o→(((h'.push { cls:=.type "list",data:=.seq (acc.toArray++segs[i].toArray) }).update S (Obj.mapSeq fun _=>#[Value.ref h'.objs.size])).update S (Obj.mapSeq fun _=>#[Value.ref h'.objs.size])).get? b=some o:=
   fun b o hb e=>up hb (up hb (Heap.get?_push_of_some _ e))
  have nS:h'.objs.size≠S:=Nat.ne_of_gt (Heap.lt_size (kp _ _ sI hS))
  have nI:h'.objs.size≠I:=by
   obtain⟨o,e,_⟩:=id hit'
   exact Nat.ne_of_gt (Heap.lt_size e)
  have kN:=up (f:=Obj.mapSeq fun _=>#[Value.ref h'.objs.size]) nS (up (f:=Obj.mapSeq fun _=>#[Value.ref h'.objs.size]) nS (Heap.get?_push_size h' (o:={ cls:=.type "list",data:=.seq (acc.toArray++segs[i].toArray) }) rfl))
  have sz:=Heap.lt_size kN
  refine wpAny_bind (wpAny_updateSeq hS2 rfl (wpAny_pure ⟨plainId_quiet F.plain_sum_loop _,ih (i+1) _ h'.objs.size _ (acc++segs[i]) (by omega) hlt (Nat.le_trans (by rw[ht'];exact hb) (Nat.le_of_lt sz)) (hit'.at fun o e=>k1 _ _ hIS e) (hl.at fun o e=>k1 _ _ haS (kp _ _ haI e))
   (fun j b xs e1 e2=>?_) (Heap.get?_update_self _ hS2 rfl) nI nS ⟨_,by rw[←List.append_toArray];exact kN⟩ (by rw[List.length_append,hsum];omega) (.inr (by rw[ht'];exact hb)) (hh.keep fun b o b1 b2 e=>k1 _ _ b2 (kp _ _ b1 e)) fun s' T' q1 q2 q3 q4 q5=>?_⟩))
  ·obtain⟨z1,z2,n,z3⟩:=hs j b xs e1 e2
   exact⟨z1,z2,n,k1 _ _ z2 (kp _ _ z1 z3)⟩
  ·refine hR s' T' (fun b o b1 b2 e=>q1 b o b1 b2 (k1 _ _ b2 (kp _ _ b1 e))) q2 ?_ (.inr ?_) fun _=>?_
   ·rw[List.drop_eq_getElem_cons hlt,List.flatten_cons,←List.append_assoc];exact q3
   ·rcases q4 with z | z
    ·rw[z,ht'];exact hb
    ·exact z
   ·rcases q4 with z | z
    ·rw[z,ht'];exact hb
    ·exact z
end
section
variable {prog:Program} {w:World} {A:Around} {E:Value→Shared→Prop} {s:Shared} {ax st:Addr} {refs:List Addr} {segs:List (List Value)} {acc:List Value} {Q:Value→Shared→Prop}
theorem args_sum2 (a b:Value):argsOk "sum" ⟨[a,b],[]⟩:=by unfold argsOk;kernel_rfl
theorem call_sum_lists (hh:M3.CoolAt A s.heap) (hl:s.heap.IsList ax (refs.map Value.ref).toArray) (hlen:refs.length=segs.length) (hz:(segs.map (·.length)).sum≤1000000)
  (hs:∀(j:Nat) (b:Addr) (xs:List Value),refs[j]?=some b→segs[j]?=some xs→LsAt s.heap b xs) (hst:LsAt s.heap st [])
  (h:∀(s':Shared) (T:Addr),(∀b o,s.heap.get? b=some o→s'.heap.get? b=some o)→s'={ s with heap:=s'.heap,toks:=s'.toks }→LsAt s'.heap T segs.flatten→(T=st∧segs=[]∨s.heap.objs.size≤T)→Q (.ref T) s') :
  wpAny (model prog w) A (call (.builtin "sum") [.ref ax,.ref st]) Q E s:=by
 refine call_function_tree F.kind_sum F.plain_sum F.entry_sum (args_sum2 _ _) ?_
 unfold Builtin.«sum»
 simp only[List.length_nil,List.length_cons,show ¬(0+1+1+0 > 2) by decide,if_false]
 refine wpAny_bind (wpAny_of_eq (show Builtin.Builtins.bindParams "sum" ["start"] 0 ⟨[.ref st],[]⟩=pure [some (.ref st)] from rfl) ?_)
 refine wpAny_bind (L2.iter_any hl fun s₂ e2 hit hne=>?_)
 apply wpAny_bind;apply wpAny_pure
 have hst2:LsAt s₂.heap st []:=by
  obtain⟨n,e⟩:=hst
  exact⟨n,by rw[e2];exact Heap.get?_push_of_some _ e⟩
 have ty:s₂.TypeIs (.ref st) "list":=by
  obtain⟨n,e⟩:=hst2
  exact⟨_,e,rfl⟩
 simp only[List.forIn_nil,List.forIn_cons]
 refine wpAny_bind (wpAny_bind (wpAny_bind (wpAny_isInstance (T:="list") (b:=false) ty F.sub_list_str ?_)))
 rw[if_neg (Bool.false_ne_true ·)]
 refine wpAny_pure (wpAny_bind (wpAny_bind (wpAny_isInstance (T:="list") (b:=false) ty F.sub_list_bytes ?_)))
 rw[if_neg (Bool.false_ne_true ·)]
 refine wpAny_pure (wpAny_bind (wpAny_bind (wpAny_isInstance (T:="list") (b:=false) ty F.sub_list_bytearray ?_)))
 rw[if_neg (Bool.false_ne_true ·)]
 apply wpAny_pure;apply wpAny_pure;refine wpAny_bind <| wpAny_newObj_type ?_
 have e2':s₂.heap=s.heap.push { cls:=.type "list_iterator",data:=.fields #[.ref ax,.int 0 0] }:=by rw[e2]
 have z2:s₂.heap.objs.size=s.heap.objs.size+1:=by rw[e2',Heap.size_push]
 have k2:∀{b:Addr} {o:Obj},s.heap.get? b=some o→s₂.heap.get? b=some o:=fun {b o} e=>by rw[e2'];exact Heap.get?_push_of_some _ e
 have hax:ax<s.heap.objs.size:=by
  obtain⟨o,e,_⟩:=hl
  exact Heap.lt_size e
 have lt2:∀{b:Addr},b<s.heap.objs.size→b≠s₂.heap.objs.size:=fun {b} hb=>Nat.ne_of_lt (by rw[z2];exact Nat.lt_succ_of_lt hb)
 refine wpAny_pure ⟨plainId_quiet F.plain_sum_loop _,sum_lists_loop (A:=A) (I:=s.heap.objs.size) (S:=s₂.heap.objs.size) (Nat.ne_of_lt (by rw[z2];exact Nat.lt_succ_self _)) hne (lt2 hax) s.heap.objs.size hlen hz segs.length 0 _ st 0 [] rfl (Nat.zero_le _)
  ?_ (hit.1.at fun o e=>Heap.get?_push_of_some _ e) (hit.2.at fun o e=>Heap.get?_push_of_some _ e) (fun j b xs e1 e3=>?_) (Heap.get?_push_size _ rfl) (Nat.ne_of_lt hst.lt) (lt2 hst.lt) ?_ (Nat.zero_le _) (.inl rfl) (hh.but2 (Nat.le_refl _) (by rw[z2];exact Nat.le_succ _) fun b o e=>Heap.get?_push_of_some _ (k2 e)) fun s' T' q1 q2 q3 q4 q5=>?_⟩
 ·show s.heap.objs.size≤(s₂.heap.push _).objs.size
  rw[Heap.size_push,z2]
  exact Nat.le_trans (Nat.le_succ _) (Nat.le_succ _)
 ·have lb:=hs j b xs e1 e3
  obtain⟨n,e⟩:=lb
  exact⟨Nat.ne_of_lt (Heap.lt_size e),lt2 (Heap.lt_size e),n,Heap.get?_push_of_some _ (k2 e)⟩
 ·obtain⟨n,e⟩:=hst2
  exact⟨n,Heap.get?_push_of_some _ e⟩
 ·refine h s' T' (fun b o e=>q1 b o (Nat.ne_of_lt (Heap.lt_size e)) (lt2 (Heap.lt_size e)) (Heap.get?_push_of_some _ (k2 e))) ?_ (by simpa using q3) ?_
  ·rw[q2,e2]
  ·rcases q4 with z | z
   ·cases hsg:segs with
    | nil=>exact .inl ⟨z,rfl⟩
    | cons a l=>exact .inr (q5 (by rw[hsg];exact Nat.succ_pos _))
   ·exact .inr z
end
end PySem
namespace M3
open PySem PySem.Spec PyProof.Rows L2
section
variable {X:Cx} {s:Shared} {H:Hp} {σ:L2.St} {pins:List (Addr×Obj)}
theorem vals_refs:∀(bs:List Addr) {its:List Value},Vals (bs.map V.ref) its→its=bs.map Value.ref
 | [],_,r=>by cases r;rfl
 | b :: bs,_,r=>by
  rw[List.map_cons] at r
  cases r with
  | cons r t=>cases r;rw[vals_refs bs t];rfl
theorem segs_of (I:Inv X pins σ H s):∀(bs:List Addr) (zs:List (List V)),bs.length=zs.length→(∀(j:Nat) (b:Addr) (z:List V),bs[j]?=some b→zs[j]?=some z→H b=some (.lst z))→
  ∃segs:List (List Value),bs.length=segs.length∧(∀(j:Nat) (b:Addr) (xs:List Value),bs[j]?=some b→segs[j]?=some xs→LsAt s.heap b xs)∧Vals zs.flatten segs.flatten∧(segs.map (·.length)).sum=(zs.map (·.length)).sum
 | [],[],_,_=>⟨[],rfl,fun j b xs e=>by simp at e,.nil,rfl⟩
 | b :: bs,z :: zs,hl,h=>by
  obtain⟨segs,e1,e2,e3,e4⟩:=segs_of I bs zs (by simpa using hl) fun j b z q1 q2=>h (j+1) b z (by simpa using q1) (by simpa using q2)
  obtain⟨_,its,n,r,hl2,e⟩:=I.lstM (h 0 b z rfl rfl)
  refine⟨its :: segs,by simp[e1],fun j b' xs q1 q2=>?_,?_,by simp[e4,hl2]⟩
  ·cases j with
   | zero=>simp at q1 q2;subst q1 q2;exact⟨n,e⟩
   | succ j=>exact e2 j b' xs (by simpa using q1) (by simpa using q2)
  ·rw[List.flatten_cons,List.flatten_cons]
   exact r.append e3
def rSumL (K:PySem.W.Frag):List V→Hp→VK→Prop:=fun xs H Q=>∃(a st:Addr) (bs:List Addr) (zs:List (List V)),xs=[.ref a,.ref st]∧SqL K H a (bs.map V.ref)∧bs.length=zs.length∧(∀(j:Nat) (b:Addr) (z:List V),bs[j]?=some b→zs[j]?=some z→H b=some (.lst z))∧
 H st=some (.lst [])∧(zs.map (·.length)).sum≤1000000∧(zs=[]→Q (.ref st) H)∧(∀p,H p=none→Q (.ref p) (upd H p (.lst zs.flatten)))
theorem call_sumL (hc:Cool X):CallR X (.builtin "sum") (rSumL X.K):=by
 rintro pins s σ H _ us Q I r ⟨a,sa,bs,zs,rfl,hq,hl,hb,hst,hz,q0,q1⟩
 cases r with
 | cons r1 r=>
  cases r with
  | cons r2 r=>
   cases r
   cases r1
   cases r2
   obtain⟨its,rv,pl,_⟩:=I.list hq
   obtain⟨segs,e1,e2,e3,e4⟩:=segs_of I bs zs hl hb
   obtain⟨_,its0,n0,r0,hl0,e0⟩:=I.lstM hst
   cases r0
   have hi:its=bs.map Value.ref:=vals_refs bs rv
   have isl:s.heap.IsList a (bs.map Value.ref).toArray:=by rw[←hi];exact pl.isList
   refine call_sum_lists (hc.at I) isl e1 (by rw[e4];exact hz) e2 ⟨n0,e0⟩ fun s' T k es lt hT=>?_
   obtain⟨m,eT⟩:=lt
   rw[es]
   rcases hT with⟨z,hsg⟩ | hT
   ·subst z
    refine⟨V.ref _,H,I.kept k,rfl,q0 ?_⟩
    cases zs with
    | nil=>rfl
    | cons z zs=>rw[hsg] at e1;rw[e1] at hl;cases hl
   ·refine⟨.ref T,_,I.laid (o:=.lst zs.flatten) k hT ⟨?_,segs.flatten,m,e3,eT⟩,rfl,q1 T (I.hok.fresh hT)⟩
    rw[List.length_flatten]
    exact szL hz
end
def D.lists:List D→Option (List (List D))
 | []=>some []
 | .lst xs :: ds=>(D.lists ds).map (xs :: ·)
 | _ :: _=>none
theorem lists_ok {K:KW} {F:Hp} {io:Io}:∀{ds:List D} {vs:List V} {xss:List (List D)},RepL K F io ds vs→D.lists ds=some xss→
  ∃(bs:List Addr) (zs:List (List V)),vs=bs.map V.ref∧bs.length=zs.length∧(∀(j:Nat) (b:Addr) (z:List V),bs[j]?=some b→zs[j]?=some z→F b=some (.lst z))∧RepL K F io xss.flatten zs.flatten∧(zs.map (·.length)).sum=xss.flatten.length∧xss.length=zs.length
 | [],_,_,.nil,e=>by
  unfold D.lists at e
  cases e
  exact⟨[],[],rfl,rfl,fun j b z q=>by simp at q,.nil,rfl,rfl⟩
 | d :: ds,_,xss,.cons r t,e=>by
  cases d with
  | lst xs=>
   unfold D.lists at e
   cases h:D.lists ds with
   | none=>rw[h] at e;cases e
   | some yss=>
    rw[h] at e
    cases e
    obtain⟨bs,zs,h1,h2,h3,h4,h5,h6⟩:=lists_ok t h
    cases r with
    | @lst _ vs p hp rl=>
     refine⟨p :: bs,vs :: zs,by rw[h1];rfl,by simp[h2],fun j b z q1 q2=>?_,?_,?_,by simp[h6]⟩
     ·cases j with
      | zero=>simp at q1 q2;subst q1 q2;exact hp
      | succ j=>exact h3 j b z (by simpa using q1) (by simpa using q2)
     ·rw[List.flatten_cons,List.flatten_cons];exact rl.append h4
     ·rw[List.flatten_cons,List.length_append,List.map_cons,List.sum_cons,h5,rl.length]
  | _=>unfold D.lists at e;cases e
def sumLF:List W→Option W
 | [.val (.lst ds),.val (.lst [])]=>(D.lists ds).bind fun xss=>if xss.flatten.length≤1000000 then some (.val (.lst xss.flatten)) else none
 | _=>none
theorem cm_sumL {P:P3} (hc:Cool P.X):CallM P (.builtin "sum") sumLF:=by
 refine⟨_,call_sumL hc,fun B s st ws w vs Q wd r e k=>?_⟩
 unfold sumLF at e
 split at e
 ·rename_i ds
  cases h:D.lists ds with
  | none=>rw[h] at e;cases e
  | some xss=>
   rw[h,Option.bind_some] at e
   split at e
   ·rename_i hz
    cases e
    cases r with
    | cons r1 r=>
     cases r with
     | cons r2 r=>
      cases r
      cases r1 with
      | lst h1 rl1=>
       cases r2 with
       | lst h2 rl2=>
        cases rl2
        obtain⟨bs,zs,rfl,e2,e3,e4,e5,e6⟩:=lists_ok rl1 h
        refine⟨_,_,bs,zs,rfl,.inl (.inl (wd.sub _ _ h1)),e2,fun j b z q1 q2=>wd.sub _ _ (e3 j b z q1 q2),wd.sub _ _ h2,by rw[e5];exact hz,fun hzs=>?_,fun p hp=>?_⟩
        ·have:xss=[]:=by
          cases xss with
          | nil=>rfl
          | cons a l=>rw[hzs] at e6;cases e6
         subst this
         exact k s _ (Le.refl _) wd (.lst h2 .nil)
        ·obtain⟨wd2,l2⟩:=wd.froz hp (.lst zs.flatten)
         exact k _ _ l2 wd2 (.lst upd_same (e4.mono l2.fr l2.io))
   ·cases e
 ·cases e
end M3
namespace PySem
open Sem (wp)
def newTexts:List Str→List Str→Nat
 | _,[]=>0
 | acc,x :: xs=>(if x∈acc then 0 else 1)+newTexts (acc++[x]) xs
section
variable {prog:Program} {w:World} {A:Around} {R:Result→Shared→Prop} {I S ax:Addr} {vs:Array Value}
theorem texts_fill (hIS:I≠S) (haI:ax≠I) (haS:ax≠S):∀(rest acc:List Str) (s:Shared) (n:Nat),acc.length+rest.length=vs.size→vs.size≤1000→
  (∀(j:Nat) (x:Str),(acc++rest)[j]?=some x→∃t,vs[j]?=some (.str x t))→s.heap.IsListIter I ax acc.length→s.heap.IsList ax vs→s.heap.SetOf (strKind prog w) S (fun k=>acc.any (· == k)) n→n≤acc.length→M3.CoolBut2 A s.heap I S→
  (∀s':Shared,Kept2 I S s.heap s'.heap→s'={ s with heap:=s'.heap,toks:=s'.toks }→s'.heap.SetOf (strKind prog w) S (fun k=>(acc++rest).any (· == k)) (n+newTexts acc rest)→R (.ok (.ret .none)) s')→
  codeAny (model prog w) A (.builtin "set.update.loop" ⟨[.ref S,.ref I],[]⟩) R s:=by
 intro rest
 induction rest with
 | nil=>
  intro acc s n hl hz hv hit hls hS hn hh hR
  have sI:S≠I:=fun z=>hIS z.symm
  apply codeAny_builtin PyProof.Rows.F.entry_set_update_loop;rw[Around.under_plainId PyProof.Rows.F.plain_set_update_loop];change wpAny _ A.in1 (pyNext (.ref I) >>= _) _ _ s
  refine wpAny_bind (M3.listStop (A:=A.in1) (M3.CoolBut2.but hh) hit hls (by simp at hl;simp[hl]) fun h' eb=>?_)
  refine wpAny_pure (hR { s with heap:=h' } (fun b o b1 _ e=>eb b o b1 e) rfl ?_)
  obtain⟨o,es,ep,t,ho,more⟩:=hS
  rw[List.append_nil]
  exact⟨o,es,ep,t,eb S o sI ho,more⟩
 | cons x rest ih=>
  intro acc s n hl hz hv hit hls hS hn hh hR
  have sI:S≠I:=fun z=>hIS z.symm
  obtain⟨t,hx⟩:=hv acc.length x (by simp)
  apply codeAny_builtin PyProof.Rows.F.entry_set_update_loop;rw[Around.under_plainId PyProof.Rows.F.plain_set_update_loop];change wpAny _ A.in1 (pyNext (.ref I) >>= _) _ _ s
  refine wpAny_bind (wpAny_pyNext_list_item (A:=A.in1) hit hls hx fun h' hit' sb=>?_)
  have hS1:h'.SetOf (strKind prog w) S (fun k=>acc.any (· == k)) n:=by
   obtain⟨o,es,ep,tb,ho,more⟩:=hS
   exact⟨o,es,ep,tb,(sb.2 S sI).trans ho,more⟩
  change wpAny _ A.in1 (holding [Value.str x t] (setAdd S (.str x t)) >>= _) _ _ _
  apply wpAny_bind;apply wpAny_holding;unfold setAdd;apply wpAny_holding;apply wpAny_bind
  refine(strKind prog w).pyHash (k:=x) (strKind_is _ _ _ _) ?_
  refine wpAny_setAddHashed_of (knd:=strKind prog w) (strKind_is _ _ _ _) rfl hS1 (by unfold scanBound;simp at hl;omega) fun h2 sb2 hS2=>?_
  have old:∀b o,b≠S→h'.get? b=some o→h2.get? b=some o:=fun b o hb e=>(sb2.2 b hb).trans e
  refine wpAny_pure ⟨plainId_quiet PyProof.Rows.F.plain_set_update_loop _,ih (acc++[x]) _ _ (by simp at hl⊢;omega) hz (by simpa using hv) (by rw[List.length_append];exact hit'.at fun o e=>old _ _ hIS e) (hls.at fun o e=>old _ _ haS ((sb.2 _ haI).trans e))
   (PyProof.Rows.SetOf_congr hS2 (fun k=>?_) rfl) (by simp;split <;> omega) (hh.keep fun b o b1 b2 e=>old b o b2 ((sb.2 b b1).trans e)) fun s' q1 q2 q3=>hR s' (fun b o b1 b2 e=>q1 b o b1 b2 (old b o b2 ((sb.2 b b1).trans e))) q2 ?_⟩
  ·by_cases z:k=x
   ·subst z;simp
   ·have z':(x == k)=false:=by simpa using fun e:x=k=>z e.symm
    simp[z,z']
  ·have e:∀c:Nat,(if (acc.any fun y=>y == x)=true then n else n+1)+c=n+((if x∈acc then 0 else 1)+c):=fun c=>by
    by_cases z:x∈acc
    ·rw[if_pos (List.any_eq_true.mpr ⟨x,z,by simp⟩),if_pos z];omega
    ·rw[if_neg (fun q=>by obtain⟨y,hy,e⟩:=List.any_eq_true.mp q;exact z (beq_iff_eq.mp e▸hy)),if_neg z];omega
   rw[newTexts,←e]
   simpa using q3
end
section
variable {prog:Program} {w:World} {A:Around} {E:Value→Shared→Prop} {s:Shared}
abbrev newSetObj (led:Bool):Obj:={ cls:=.type "set",dict:=none,data:=.set #[] 0 (.fresh 0 0 led) }
set_option maxHeartbeats 3200000 in
theorem call_set_texts {l:Addr} {items:Array Value} {xs:List Str} {Q:Value→Shared→Prop} (hh:M3.CoolAt A s.heap) (hl:s.heap.IsList l items) (hi:PyProof.Rows.StrsAre items.toList xs) (hz:items.size≤1000)
  (h:∀(h':Heap) (tk:Nat),h'.SetOf (strKind prog w) s.heap.objs.size (fun k=>xs.any (· == k)) (newTexts [] xs)→(∀b o,b<s.heap.objs.size→s.heap.get? b=some o→h'.get? b=some o)→Q (.ref s.heap.objs.size) { s with heap:=h',toks:=tk }) :
  wpAny (model prog w) A (call (.type "set") [.ref l]) Q E s:=by
 obtain⟨mroHead,mroRest,hmro⟩:=F.called_set.mro
 have hmade:=F.called_set.made
 have hsub:=F.called_set.sub
 have hnt:=F.called_set.notType
 have hcc:=F.called_set.canCreate
 have hone:=F.typeCall_set_1 (.ref l)
 apply wpAny_call;apply codeAny_of_tree;change wpAny _ _ (callAny (.type "set") _) _ _ _
 refine wpAny_pure ⟨Code.quiet_builtin _ (by decide +kernel),codeAny_builtin F.entry_type_call ?_⟩;rw[Around.under_plain (weight_type_call_type "set" [.ref l] []) rfl]
 repeat (any_goals (first | assumption | wp_step))
 refine codeAny_mono (code_set_new_1 (.ref l) (E:=E) (Q₁:=fun obj s₁=>∃led:Bool,obj=.ref s.heap.objs.size∧s₁={ s with heap:=s.heap.push (newSetObj led) }) fun led=>⟨led,rfl,rfl⟩) fun r s₁ hr=>?_
 match r,hr with
 | .error e,hr=>exact hr
 | .ok .next,hr=>exact hr.elim
 | .ok .brk,hr=>exact hr.elim
 | .ok .cont,hr=>exact hr.elim
 | .ok (.ret obj),hr=>
 obtain⟨led,rfl,rfl⟩:=hr
 have new:(s.heap.push (newSetObj led)).get? s.heap.objs.size=some (newSetObj led):=Heap.get?_push_size _ rfl
 have ty:Shared.TypeIs { s with heap:=s.heap.push (newSetObj led) } (.ref s.heap.objs.size) "set":=⟨_,new,rfl⟩
 have hli:=F.called_set.init.lookup
 have hbi:=F.called_set.init.bind (.ref s.heap.objs.size)
 repeat (any_goals (first | assumption | wp_step))
 have lt:l<s.heap.objs.size:=hl.imp (fun _ q=>Heap.lt_size q.1) |>.choose_spec
 let Done:Value→Shared→Prop:=fun r s₂=>r=.none∧∃h' tk,s₂={ s with heap:=h',toks:=tk }∧h'.SetOf (strKind prog w) s.heap.objs.size (fun k=>xs.any (· == k)) (newTexts [] xs)∧∀b o,b<s.heap.objs.size→s.heap.get? b=some o→h'.get? b=some o
 refine codeAny_mono (codeAny_call_builtin (R:=wants Done E) F.called_set.init.plain F.entry_set_init (check_set_init_1 ty ?_)) fun r₂ s₂ hr₂=>?_
 ·obtain⟨⟨ocls,odict,odata,oslots⟩,there,isL,nl,body⟩:=hl
  dsimp only at isL body
  subst isL body
  have there1:(s.heap.push (newSetObj led)).get? l=some { cls:=.type "list",dict:=odict,data:=.seq items nl,slots:=oslots }:=Heap.get?_push_of_some _ there
  have lst1:(s.heap.push (newSetObj led)).IsList l items:=⟨_,there1,rfl,nl,rfl⟩
  have nd:(Value.type "list" == Value.type "dict")=false:=by decide
  have n1:=F.sub_list_set
  have n2:=F.sub_list_frozenset
  unfold Builtin.«set.__init__» noKeywords Builtin.Frozenset.updateFrom
  generalize walkIt:pyIter=it
  wp_walk
  subst walkIt
  refine wpAny_pyIter_list lst1 (wpAny_bind (wpAny_runValue ?_))
  have sz1:(s.heap.push (newSetObj led)).objs.size=s.heap.objs.size+1:=Heap.size_push ..
  have lenE:xs.length=items.size:=by rw[←PyProof.Rows.StrsAre.len_eq hi,Array.length_toList]
  refine texts_fill (I:=(s.heap.push (newSetObj led)).objs.size) (S:=s.heap.objs.size) (ax:=l) (vs:=items) (by rw[sz1];exact Nat.succ_ne_self _) (by rw[sz1];exact Nat.ne_of_lt (Nat.lt_succ_of_lt lt)) (Nat.ne_of_lt lt) xs [] _ 0 (by simpa using lenE) hz
   (fun j x e=>?_) ⟨_,Heap.get?_push_size _ rfl,rfl,rfl⟩ (lst1.push _) ?_ (Nat.le_refl _) ((hh.but2 (by rw[sz1];exact Nat.le_succ _) (Nat.le_refl _) fun b o e=>Heap.get?_push_of_some _ (Heap.get?_push_of_some _ e)).around (by first | rfl | simp)) fun s' q1 q2 q3=>?_
  ·have e:xs[j]?=some x:=by simpa using e
   obtain⟨lj,ej⟩:=List.getElem?_eq_some_iff.mp e
   have hj:j<items.size:=by rw[←lenE];exact lj
   obtain⟨t,ht⟩:=SS.strs_at hi j items[j] (by simp[hj])
   exact⟨t,by rw[Array.getElem?_eq_getElem hj,ht,List.getD_eq_getElem?_getD,e];rfl⟩
  ·have there2:((s.heap.push (newSetObj led)).push { cls:=.type "list_iterator",data:=.fields #[.ref l,.int 0 0] }).get? s.heap.objs.size=some (newSetObj led):=Heap.get?_push_of_some _ new
   exact PyProof.Rows.SetOf_congr ((PyProof.Rows.setObjOf_fresh (knd:=strKind prog w) led).setOf there2 (by unfold scanBound;omega)) (fun _=>rfl) rfl
  ·refine wpAny_pure (wpAny_pure ⟨rfl,s'.heap,s'.toks,by rw[q2],by simpa using q3,fun b o lb e=>?_⟩)
   exact q1 b o (by rw[sz1];exact Nat.ne_of_lt (Nat.lt_succ_of_lt lb)) (Nat.ne_of_lt lb) (Heap.get?_push_of_some _ (Heap.get?_push_of_some _ e))
 ·match r₂,hr₂ with
  | .error _,q=>exact q
  | .ok .next,q=>exact q.elim
  | .ok .brk,q=>exact q.elim
  | .ok .cont,q=>exact q.elim
  | .ok (.ret _),q=>
   obtain⟨rfl,h',tk,rfl,hS',hk'⟩:=q
   repeat (any_goals (first | assumption | wp_step))
   exact h _ _ hS' hk'
end
end PySem
namespace M3
open PySem PySem.Spec PyProof.Rows L2
section
variable {X:Cx} {a:Expr} {ta:TE} {p p2 q pos:Pos}
theorem pe_lenSet3 (hc:Cool X) (hg:Gl X "len") (hm:X.mg "len" = none) (hg2:Gl X "set") (hm2:X.mg "set" = none) (ha:PE X a ta) (na:starEach [a] X.env=(false,eval a X.env) :: starEach [] X.env:=by rfl) :
  PE X (.Call (.Name "len" p) [.Call (.Name "set" p2) [a] [] q] [] pos) (fun σ H Q=>ta σ H fun x H1=>∃(l:Addr) (xs:List Str),x=.ref l∧SqL X.K H1 l (xs.map V.str)∧xs.length≤1000∧Q (.int (newTexts [] xs)) H1):=by
 refine⟨fun pins now σ H Q inv wish=>Call_ (ld_blt inv hg hm boot_len (PyProof.Rows.callWith_builtin1 (PyProof.Rows.args_cons (Call_ (ld_blt inv hg2 hm2 boot_set ?_)) rfl) rfl rfl))⟩
 refine PyProof.Rows.callWith_type1 (PyProof.Rows.args_cons (thn (ha.run pins now σ H _ inv wish) fun v later got=>PyProof.Rows.args_nil ?_) na) na rfl
 obtain⟨_,H1,J,rx,l,xs,rfl,at_,few,rest⟩:=got
 obtain rfl:v=.ref l:=rx
 obtain⟨its,vals,lst,-⟩:=J.list at_
 have many:its.length=xs.length:=by rw[←vals.length,List.length_map]
 refine call_set_texts (hc.at J) lst.isList (by simpa using strsAre_of vals) (by simpa[many] using few) fun h' tk made kept=>PyProof.Rows.args_nil ?_
 have le:∀(ys acc:List Str),newTexts acc ys≤ys.length:=fun ys=>by
  induction ys with
  | nil=>intro acc;exact Nat.le_refl _
  | cons y ys ih=>intro acc;have:=ih (acc++[y]);unfold newTexts;split <;> simp <;> omega
 have:=le xs []
 obtain⟨o,es,ep,t,ho,hex,hd,-,-,-,hf,hn⟩:=made
 have J2:Inv X pins σ H1 { later with heap:=h',toks:=tk }:=J.kept fun b o e=>kept b o (Heap.lt_size e) e
 exact call_len_set ho hex hd hf (by rw[hn];omega) ⟨.int _,H1,J2.tok _,⟨_,by rw[hn]⟩,rest⟩
end
def lenSetF (w:W):Option W:=w.ls.bind fun ds=>(D.strs ds).bind fun xs=>if xs.length≤1000 then some (.val (.int (newTexts [] xs))) else none
def eLenSet (m:EM):EM:=fun u=>M.bind (m u) fun w=>M.of (lenSetF w)
theorem me_lenSet {P:P3} {a:Expr} {m:EM} {p p2 q pos:Pos} (hc:Cool P.X) (hg:Gl P.X "len") (hm:P.X.mg "len" = none) (hg2:Gl P.X "set") (hm2:P.X.mg "set" = none) (ha:ME P a m) (na:starEach [a] P.X.env=(false,eval a P.X.env) :: starEach [] P.X.env:=by rfl) :
  ME P (.Call (.Name "len" p) [.Call (.Name "set" p2) [a] [] q] [] pos) (eLenSet m):=by
 obtain⟨t,pt,ht⟩:=ha.out
 refine ME.mk' (pe_lenSet3 hc hg hm hg2 hm2 pt na) fun B0 B s st u z Q wd sl h=>ht B0 B s st u z _ wd sl (Post.bind h fun w st1 s1 v l1 wd1 r1 h1=>?_)
 obtain⟨w',e,h1⟩:=of_eq h1
 unfold lenSetF at e
 cases e1:w.ls with
 | none=>rw[e1] at e;cases e
 | some ds=>
  rw[e1,Option.bind_some] at e
  cases e2:D.strs ds with
  | none=>rw[e2] at e;cases e
  | some xs=>
   rw[e2,Option.bind_some] at e
   split at e
   ·rename_i hz
    cases e
    obtain⟨l,vs,rfl,hp,rl⟩:=ls_ok wd1 r1 e1
    obtain rfl:=strs_ok rl e2
    exact⟨l,xs,rfl,.inl (.inl hp),hz,h1.pure wd1 .int⟩
   ·cases e
end M3
namespace M3
open PySem PySem.W PySem.Calls PyProof.Rows
theorem weight_mem {n:Int}:∀{ns:List Int},n∈ns→(if n == 0 then 0 else n.natAbs.log2+1)≤WData.weightAll (ns.map WData.int)
 | m :: ns,h=>by
  rw[List.map_cons,WData.weightAll,WData.weight]
  rcases List.mem_cons.mp h with e | h
  ·rw[←e];omega
  ·have:=weight_mem h;omega
theorem bits_of {ns:List Int} (h:WData.layableAll [WData.list (ns.map WData.int)]=true):∀n∈ns,n.natAbs.log2≤1048576:=by
 intro n hn
 have h1:(WData.list (ns.map WData.int)).layable=true:=by simpa[WData.layableAll] using h
 have h2:=(layableW_iff.mp h1).2.2
 rw[WData.weight] at h2
 have h3:=weight_mem hn
 by_cases z:n=0
 ·subst z;decide
 ·rw[if_neg (by simpa using z)] at h3;omega
theorem walk3 {l:OpenLaw} {n k:Nat} {q:Program} {loose:List Str} {XP:(Str→Option Value)→Heap→Prop} {YP:World→Heap→Prop} {d:DefRec} {K:Params→Frag} {x:Str} {m:List D→M D}
  (hn:l.most=some n) (hn2:n≤sizeLine) (hdf:d.params.defaults=[]) (hr:L2.Room k callerA) (hY:∀(w:World) (h:Heap),YP w h→(K w.params).In h)
  (F:∀(w:World) (mg:Str→Option Value) (fa:Addr) (h:Heap),(K w.params).In h→h.Ns mainGlobals mg→mg d.name=some (.ref fa)→∃(G:G3) (fd:FuncData),G.K=K w.params∧G.tabs=[]∧(∀(s:Shared) (u:Value),BindsTo s fd ⟨[u],[]⟩ [(x,u)])∧
    ∀base:Heap,(K w.params).In base→base.Ns mainGlobals mg→L2.FnOk l.prog w (K w.params) mg base (L2.CX l.prog w) k fa fd [x] (spM G 1 m))
  (hm:∀ns:List Int,ns.length≤n→(∀i∈ns,i.natAbs.log2≤1048576)→∃st,m [.ro (ns.map .int)] []=.ok (.bl true) st):WalkO q loose XP YP l.row.toRowW d [] (fun f vs=>PySem.call f vs):=by
 intro w s₀ s₁ mg mb Gr Y fa o pm cd doc dV kV ho hd hcd hD hmg hg args vals as hpre hlay hrd hwl hlo
 cases Dflts.none hD hdf
 cases Dflts.noKw hD
 obtain⟨a,vs,ns,rfl,rfl,hobj,hints,hlen⟩:=Att.script_of hn hpre hwl
 have KX:=hY w _ Y
 obtain⟨G,fd,hK,hT0,hb,hF⟩:=F w mg fa _ KX Gr.T.g hmg
 obtain⟨st,hst⟩:=hm ns hlen (bits_of hlay)
 refine enter_call (codeAny_mono (L2.law_call (CX:=L2.CX l.prog w) KX Gr.T.g Gr.T.b Gr.T.builtins Gr.T.nolimit hg hobj hints (Nat.le_trans hlen hn2) hr hF hb (fun H hO hS=>?_) fun H e s' hq=>?_) fun r s' hq=>?_)
 ·refine⟨rfl,fun _=>False,⟨fun _=>none,H,H⟩,[],[.ro (ns.map .int)],rfl,⟨fun _ _ e=>e,fun _ z=>z.elim,(fun b o e ps q=>by subst q;rcases hO b with z | ⟨_,_,z⟩ <;> (rw[show H b=_ from e] at z;cases z)),(fun _ _ z=>nomatch z),(fun _ _ _ _ _ z=>nomatch z),(fun _ _ z=>nomatch z),(fun _ _ z=>nomatch z),(by rw[hT0];exact fun _ z=>nomatch z)⟩,.cons (.ro (by show L2.SqL G.K _ _ _;rw[hK];exact hS) ?_) .nil,?_⟩
  ·clear hst hobj hints hlen hS hlay hrd hwl hpre
   induction ns with
   | nil=>exact .nil
   | cons i ns ih=>exact .cons .int ih
  ·rw[hst]
   intro s2 v l2 w2 r2
   cases r2
   rfl
 ·obtain⟨_,_,_,_,_,_,_,_,_,_,_,_,z⟩:=hq
  exact z
 ·obtain⟨rfl,h2,h3,h4⟩:=hq
  exact⟨.inl ⟨.bool true,.bool true,[],rfl,fun _=>rfl,.bool true,Att.post_true l _,fun _=>⟨List.Pairwise.nil,fun _ hm=>(nomatch hm)⟩⟩,h2,h3,h4⟩
end M3
namespace M3
open PySem L2
def run {α:Type} (r:Res α) (k:Res α→Prop):Prop:=k r
def srun (r:SRes) (k:SRes→Prop):Prop:=k r
theorem of_run {α:Type} {r x:Res α} (h:run r (fun y=>y=x)):r=x:=h
theorem srun_mono {r:SRes} {k k':SRes→Prop} (h:srun r k) (i:∀r,k r→k' r):srun r k':=i _ h
section
variable {α β γ:Type} {k:Res α→Prop} {kb:Res β→Prop} {ks:SRes→Prop} {st:Store} {u:Sl3}
@[simp] theorem run_ok (a:α):run (.ok a st) k=k (.ok a st):=rfl
@[simp] theorem run_err (c x):run (.err c x st:Res α) k=k (.err c x st):=rfl
@[simp] theorem run_bad:run (.bad:Res α) k=k .bad:=rfl
@[simp] theorem srun_nx:srun (.nx u st) ks=ks (.nx u st):=rfl
@[simp] theorem srun_rt (w):srun (.rt w st) ks=ks (.rt w st):=rfl
@[simp] theorem srun_bk:srun (.bk u st) ks=ks (.bk u st):=rfl
@[simp] theorem srun_ct:srun (.ct u st) ks=ks (.ct u st):=rfl
@[simp] theorem srun_err (c x):srun (.err c x u st) ks=ks (.err c x u st):=rfl
@[simp] theorem srun_bad:srun .bad ks=ks .bad:=rfl
def kBind (f:α→M β) (k:Res β→Prop):Res α→Prop
 | .ok a st=>run (f a st) k
 | .err c x st=>k (.err c x st)
 | .bad=>k .bad
@[simp] theorem kBind_ok (f:α→M β) (a):kBind f kb (.ok a st)=run (f a st) kb:=rfl
@[simp] theorem kBind_err (f:α→M β) (c x):kBind f kb (.err c x st)=kb (.err c x st):=rfl
@[simp] theorem kBind_bad (f:α→M β):kBind f kb .bad=kb .bad:=rfl
@[simp] theorem run_bind (m:M α) (f:α→M β):run (M.bind m f st) kb=run (m st) (kBind f kb):=by
 unfold run M.bind kBind
 cases m st <;> rfl
@[simp] theorem run_pure (a:α):run (M.pure a st) k=k (.ok a st):=rfl
@[simp] theorem run_Mbad:run (M.bad st) k=k .bad:=rfl
@[simp] theorem run_of_some (a:α):run (M.of (some a) st) k=k (.ok a st):=rfl
@[simp] theorem run_of_none:run (M.of (none:Option α) st) k=k .bad:=rfl
@[simp] theorem run_of_ite (p:Prop) [Decidable p] (a b:Option α):run (M.of (if p then a else b) st) k=if p then run (M.of a st) k else run (M.of b st) k:=by split <;> rfl
@[simp] theorem run_chk (p:Prop) [Decidable p] {k:Res Unit→Prop}:run (M.chk p st) k=if p then k (.ok () st) else k .bad:=by unfold run M.chk;split <;> rfl
def kQuiet (k:Res α→Prop):Res α→Prop
 | .ok a st=>k (.ok a st)
 | _=>k .bad
@[simp] theorem kQuiet_ok (a):kQuiet k (.ok a st)=k (.ok a st):=rfl
@[simp] theorem kQuiet_err (c x):kQuiet k (.err c x st)=k .bad:=rfl
@[simp] theorem kQuiet_bad:kQuiet k (.bad:Res α)=k .bad:=rfl
@[simp] theorem run_quiet (m:M α):run (M.quiet m st) k=run (m st) (kQuiet k):=by unfold run M.quiet kQuiet;cases m st <;> rfl
end
section
variable {k:Res W→Prop} {ka:Res (List W)→Prop} {kt:Res Bool→Prop} {kf:Res (List D)→Prop} {kd:Res D→Prop} {ki:Res (Option Int)→Prop} {ks:SRes→Prop} {st:Store} {u:Sl3} {a b c m:EM} {ma ms:AM} {fm:FM} {t t':TM} {g g':W→W→Option W}
def kVar (st:Store) (k:Res W→Prop):Option (Option W)→Prop
 | some (some w)=>k (.ok w st)
 | _=>k .bad
@[simp] theorem kVar_some (w):kVar st k (some (some w))=k (.ok w st):=rfl
@[simp] theorem kVar_none:kVar st k (some none)=k .bad:=rfl
@[simp] theorem kVar_out:kVar st k none=k .bad:=rfl
@[simp] theorem run_eVar (i:Nat):run (eVar i u st) k=kVar st k u[i]?:=by
 unfold run eVar kVar
 cases u[i]? with
 | none=>rfl
 | some o=>cases o <;> rfl
@[simp] theorem run_eC (d:D):run (eC d u st) k=k (.ok (.val d) st):=rfl
@[simp] theorem run_aNil:run (aNil u st) ka=ka (.ok [] st):=rfl
@[simp] theorem run_aCons:run (aCons m ms u st) ka=run (m u st) (kBind (fun w=>M.bind (ms u) fun ws=>M.pure (w :: ws)) ka):=run_bind _ _
@[simp] theorem run_eTup:run (eTup ma u st) k=run (ma u st) (kBind (fun ws=>M.bind (M.of (asDs ws)) fun ds=>M.bind (M.chk (ds.length≤1000000)) fun _=>M.pure (.val (.tup ds))) k):=run_bind _ _
@[simp] theorem run_fLst:run (fLst ma u st) kf=run (ma u st) (kBind (fun ws=>M.bind (M.of (asDs ws)) fun ds=>M.bind (M.chk (ds.length≤1000000)) fun _=>M.pure ds) kf):=run_bind _ _
@[simp] theorem run_eF:run (eF fm u st) k=run (fm u st) (kBind (fun xs=>M.pure (.val (.lst xs))) k):=run_bind _ _
@[simp] theorem run_eBin:run (eBin g a b u st) k=run (a u st) (kBind (fun x=>M.bind (b u) fun y=>M.of (g x y)) k):=run_bind _ _
@[simp] theorem run_tOf:run (tOf m u st) kt=run (m u st) (kBind (fun w=>M.of w.bool) kt):=run_bind _ _
@[simp] theorem run_tTru:run (tTru m u st) kt=run (m u st) (kBind (fun w=>M.of w.tru) kt):=run_bind _ _
@[simp] theorem run_eAnd:run (eAnd a b u st) k=run (a u st) (kBind (fun w=>M.bind (M.of w.tru) fun c=>if c=true then b u else M.pure w) k):=run_bind _ _
@[simp] theorem run_eOr:run (eOr a b u st) k=run (a u st) (kBind (fun w=>M.bind (M.of w.tru) fun c=>if c=true then M.pure w else b u) k):=run_bind _ _
@[simp] theorem run_eNot:run (eNot a u st) k=run (a u st) (kBind (fun w=>M.bind (M.of w.tru) fun c=>M.pure (.val (.bl (!c)))) k):=run_bind _ _
@[simp] theorem run_tAnd3:run (tAnd3 t t' u st) kt=run (t u st) (kBind (fun c=>if c=true then t' u else M.pure false) kt):=run_bind _ _
@[simp] theorem run_tOr3:run (tOr3 t t' u st) kt=run (t u st) (kBind (fun c=>if c=true then M.pure true else t' u) kt):=run_bind _ _
@[simp] theorem run_tNot3:run (tNot3 t u st) kt=run (t u st) (kBind (fun c=>M.pure (!c)) kt):=run_bind _ _
@[simp] theorem run_ite {α:Type} {k:Res α→Prop} (p:Prop) [Decidable p] (x y:M α):run ((if p then x else y) st) k=if p then run (x st) k else run (y st) k:=by split <;> rfl
@[simp] theorem run_eChain:run (eChain g g' a b c u st) k=run (a u st) (kBind (fun x=>M.bind (b u) fun y=>M.bind (M.of (g x y)) fun q=>M.bind (M.of q.bool) fun q=>if q=true then M.bind (c u) fun w=>M.of (g' y w) else M.pure (.val (.bl false))) k):=run_bind _ _
@[simp] theorem run_eIf:run (eIf t a b u st) k=run (t u st) (kBind (fun c=>if c=true then a u else b u) k):=run_bind _ _
@[simp] theorem run_pNone:run (pNone u st) ki=ki (.ok none st):=rfl
@[simp] theorem run_pSome (i:Int) (h:m u st=.ok (.val (.int i)) st):run (pSome m u st) ki=ki (.ok (some i) st):=by unfold run pSome M.bind;rw[h];rfl
def kPart (k:Res (Option Int)→Prop):Res W→Prop
 | .ok (.val (.int i)) st=>k (.ok (some i) st)
 | .ok _ _=>k .bad
 | .err c x st=>k (.err c x st)
 | .bad=>k .bad
@[simp] theorem kPart_ok (i:Int):kPart ki (.ok (.val (.int i)) st)=ki (.ok (some i) st):=rfl
@[simp] theorem run_pSome':run (pSome m u st) ki=run (m u st) (kPart ki):=by
 unfold run pSome M.bind kPart
 cases m u st with
 | ok w st'=>
  cases w with
  | val d=>cases d <;> rfl
  | _=>rfl
 | _=>rfl
def slA (x:W) (a b:Option Int):Option W:=match x.ls with
 | some xs=>some (.val (.lst (cutD xs a b)))
 | none=>slF x a b
@[simp] theorem slA_lst (xs a b):slA (.val (.lst xs)) a b=some (.val (.lst (cutD xs a b))):=rfl
@[simp] theorem slA_bor (xs a b):slA (.bor xs) a b=some (.val (.lst (cutD xs a b))):=rfl
@[simp] theorem slA_tup (xs a b):slA (.val (.tup xs)) a b=some (.val (.tup (cutD xs a b))):=rfl
@[simp] theorem slA_str (z a b):slA (.val (.str z)) a b=if z.length≤1000000 then some (.val (.str (cutS z a b))) else none:=rfl
@[simp] theorem run_eSlA {l h:Sl3→M (Option Int)}:run (eSlA m l h u st) k=run (m u st) (kBind (fun x=>M.bind (l u) fun a=>M.bind (h u) fun b=>M.of (slA x a b)) k):=by
 have e:eSlA m l h u=M.bind (m u) fun x=>M.bind (l u) fun a=>M.bind (h u) fun b=>M.of (slA x a b):=by
  unfold eSlA slA
  congr 1
  funext x
  cases x.ls <;> rfl
 rw[e];exact run_bind _ _
@[simp] theorem run_eB (g:List W→Option W):run (eB g ma u st) k=run (ma u st) (kBind (fun ws=>M.of (g ws)) k):=run_bind _ _
@[simp] theorem run_fB (g:List W→Option (List D)):run (fB g ma u st) kf=run (ma u st) (kBind (fun ws=>M.of (g ws)) kf):=run_bind _ _
@[simp] theorem run_eCall (n:Nat) (f:List D→M D):run (eCall n f ma u st) k=run (ma u st) (kBind (fun ws=>M.bind (M.of (asDs ws)) fun ds=>M.bind (M.chk (ds.length=n)) fun _=>M.bind (f ds) fun d=>M.pure (.val d)) k):=run_bind _ _
def kSeqs (k:Res (List D)→Prop):Res W→Prop
 | .ok (.val d) st=>run (M.of d.walk st) k
 | .ok _ _=>k .bad
 | .err c x st=>k (.err c x st)
 | .bad=>k .bad
@[simp] theorem kSeqs_ok (d:D):kSeqs kf (.ok (.val d) st)=run (M.of d.walk st) kf:=rfl
@[simp] theorem run_iSeq:run (iSeq m u st) kf=run (m u st) (kSeqs kf):=by
 unfold run iSeq M.bind kSeqs
 cases m u st with
 | ok w st'=>cases w <;> rfl
 | _=>rfl
@[simp] theorem rng1_int (j:Int):rng1 [.val (.int j)]=if -1000000≤j∧j≤1000000 then some (rangeD 0 j.toNat) else none:=rfl
@[simp] theorem rng2_int (i j:Int):rng2 [.val (.int i),.val (.int j)]=if -1000000≤i∧i≤1000000∧-1000000≤j∧j≤1000000 then some (rangeD i (j - i).toNat) else none:=rfl
@[simp] theorem run_iRange1:run (iRange1 ma u st) kf=run (ma u st) (kBind (fun ws=>M.of (rng1 ws)) kf):=run_bind _ _
@[simp] theorem run_iRange2:run (iRange2 ma u st) kf=run (ma u st) (kBind (fun ws=>M.of (rng2 ws)) kf):=run_bind _ _
@[simp] theorem run_fLc {gm:GM} {own:List Nat}:run (fLc fm gm t m own u st) kf=run (fm u st) (kBind (fun ds=>lcL gm t m (wipe3 u own) ds []) kf):=run_bind _ _
@[simp] theorem lcL_nil {gm:GM} {u0:Sl3} (acc):lcL gm t m u0 [] acc=M.pure acc:=rfl
@[simp] theorem lcL_cons {gm:GM} {u0:Sl3} (d ds acc):run (lcL gm t m u0 (d :: ds) acc st) kf=run (M.of (gm d u0) st) (kBind (fun u1=>M.bind (M.quiet (t u1)) fun k=>
  if k=true then M.bind (M.quiet (m u1)) fun w=>M.bind (M.of w.d) fun x=>M.bind (M.chk (acc.length<1000000)) fun _=>lcL gm t m u0 ds (acc++[x])
  else lcL gm t m u0 ds acc) kf):=run_bind _ _
@[simp] theorem run_tYes3:run (tYes3 u st) kt=kt (.ok true st):=rfl
@[simp] theorem gName3_eq (i d):gName3 i d u=some (u.set i (some (.val d))):=rfl
@[simp] theorem gNil3_eq:gNil3 [] u=some u:=rfl
@[simp] theorem gCons3_eq (g gs d ds):gCons3 g gs (d :: ds) u=(g d u).bind (gs ds):=rfl
@[simp] theorem gTup3_eq (n gs ds):gTup3 n gs (.tup ds) u=if ds.length=n then gs ds u else none:=rfl
def kSeq (b:SM) (k:SRes→Prop):SRes→Prop
 | .nx u st=>srun (b u st) k
 | r=>k r
@[simp] theorem kSeq_nx (s:SM):kSeq s ks (.nx u st)=srun (s u st) ks:=rfl
@[simp] theorem kSeq_rt (s:SM) (w):kSeq s ks (.rt w st)=ks (.rt w st):=rfl
@[simp] theorem kSeq_bk (s:SM):kSeq s ks (.bk u st)=ks (.bk u st):=rfl
@[simp] theorem kSeq_ct (s:SM):kSeq s ks (.ct u st)=ks (.ct u st):=rfl
@[simp] theorem kSeq_err (s:SM) (c x):kSeq s ks (.err c x u st)=ks (.err c x u st):=rfl
@[simp] theorem kSeq_bad (s:SM):kSeq s ks .bad=ks .bad:=rfl
@[simp] theorem run_sSeq (s s':SM):srun (sSeq s s' u st) ks=srun (s u st) (kSeq s' ks):=by unfold srun sSeq kSeq;cases s u st <;> rfl
@[simp] theorem run_sNext:srun (sNext u st) ks=ks (.nx u st):=rfl
@[simp] theorem run_sBreak:srun (sBreak u st) ks=ks (.bk u st):=rfl
@[simp] theorem run_sCont:srun (sCont u st) ks=ks (.ct u st):=rfl
@[simp] theorem run_sRetN:srun (sRetN u st) ks=ks (.rt (.val .non) st):=rfl
def kSet (i:Nat) (u:Sl3) (k:SRes→Prop):Res W→Prop
 | .ok (.val d) st=>k (.nx (u.set i (some (.val d))) st)
 | .ok _ _=>k .bad
 | .err c x st=>k (.err c x u st)
 | .bad=>k .bad
def kRetV (u:Sl3) (k:SRes→Prop):Res W→Prop
 | .ok (.val d) st=>k (.rt (.val d) st)
 | .ok _ _=>k .bad
 | .err c x st=>k (.err c x u st)
 | .bad=>k .bad
def kDrop (u:Sl3) (k:SRes→Prop):Res W→Prop
 | .ok _ st=>k (.nx u st)
 | .err c x st=>k (.err c x u st)
 | .bad=>k .bad
def kOwnS (i:Nat) (u:Sl3) (k:SRes→Prop):Res (List D)→Prop
 | .ok xs st=>k (.nx (u.set i (some (.bor xs))) st)
 | .err c x st=>k (.err c x u st)
 | .bad=>k .bad
def kFor (gm:GM) (s:SM) (u:Sl3) (k:SRes→Prop):Res (List D)→Prop
 | .ok ds st=>srun (forL gm s ds u st) k
 | .err c x st=>k (.err c x u st)
 | .bad=>k .bad
def kIf (s s':SM) (u:Sl3) (k:SRes→Prop):Res Bool→Prop
 | .ok c st=>if c=true then srun (s u st) k else srun (s' u st) k
 | .err c x st=>k (.err c x u st)
 | .bad=>k .bad
@[simp] theorem kSet_ok (i d):kSet i u ks (.ok (.val d) st)=ks (.nx (u.set i (some (.val d))) st):=rfl
@[simp] theorem kSet_err (i c x):kSet i u ks (.err c x st)=ks (.err c x u st):=rfl
@[simp] theorem kSet_bad (i):kSet i u ks .bad=ks .bad:=rfl
@[simp] theorem kRetV_ok (d):kRetV u ks (.ok (.val d) st)=ks (.rt (.val d) st):=rfl
@[simp] theorem kRetV_err (c x):kRetV u ks (.err c x st)=ks (.err c x u st):=rfl
@[simp] theorem kRetV_bad:kRetV u ks .bad=ks .bad:=rfl
@[simp] theorem kDrop_ok (w):kDrop u ks (.ok w st)=ks (.nx u st):=rfl
@[simp] theorem kDrop_err (c x):kDrop u ks (.err c x st)=ks (.err c x u st):=rfl
@[simp] theorem kOwnS_ok (i xs):kOwnS i u ks (.ok xs st)=ks (.nx (u.set i (some (.bor xs))) st):=rfl
@[simp] theorem kFor_ok (gm s ds):kFor gm s u ks (.ok ds st)=srun (forL gm s ds u st) ks:=rfl
@[simp] theorem kFor_err (gm s c x):kFor gm s u ks (.err c x st)=ks (.err c x u st):=rfl
@[simp] theorem kIf_ok (s s' c):kIf s s' u ks (.ok c st)=if c=true then srun (s u st) ks else srun (s' u st) ks:=rfl
@[simp] theorem kIf_err (s s' c x):kIf s s' u ks (.err c x st)=ks (.err c x u st):=rfl
@[simp] theorem run_sSet (i:Nat):srun (sSet i m u st) ks=run (m u st) (kSet i u ks):=by
 unfold srun sSet run kSet
 cases m u st with
 | ok w st'=>cases w <;> rfl
 | _=>rfl
@[simp] theorem run_sRetV:srun (sRetV m u st) ks=run (m u st) (kRetV u ks):=by
 unfold srun sRetV run kRetV
 cases m u st with
 | ok w st'=>cases w <;> rfl
 | _=>rfl
@[simp] theorem run_sDrop:srun (sDrop m u st) ks=run (m u st) (kDrop u ks):=by unfold srun sDrop run kDrop;cases m u st <;> rfl
@[simp] theorem run_sOwn (i:Nat):srun (sOwn i fm u st) ks=run (fm u st) (kOwnS i u ks):=by unfold srun sOwn run kOwnS;cases fm u st <;> rfl
@[simp] theorem run_sIf (s s':SM):srun (sIf t s s' u st) ks=run (t u st) (kIf s s' u ks):=by
 unfold srun sIf run kIf
 cases t u st with
 | ok c st'=>cases c <;> rfl
 | _=>rfl
def kRetOwn (st:Store) (k:SRes→Prop):Option (Option W)→Prop
 | some (some (.bor xs))=>k (.rt (.bor xs) st)
 | _=>k .bad
@[simp] theorem kRetOwn_bor (xs):kRetOwn st ks (some (some (.bor xs)))=ks (.rt (.bor xs) st):=rfl
@[simp] theorem run_sRetO (i:Nat):srun (sRetO i u st) ks=kRetOwn st ks u[i]?:=by
 unfold srun sRetO kRetOwn
 cases u[i]? with
 | none=>rfl
 | some o=>
  cases o with
  | none=>rfl
  | some w=>cases w <;> rfl
def kApp (i:Nat) (u:Sl3) (xs:List D) (k:SRes→Prop):Res W→Prop
 | .ok (.val d) st=>if xs.length<1000000 then k (.nx (u.set i (some (.bor (xs++[d])))) st) else k .bad
 | .ok _ _=>k .bad
 | .err c x st=>k (.err c x u st)
 | .bad=>k .bad
def kAppTo (i:Nat) (m:EM) (u:Sl3) (st:Store) (k:SRes→Prop):Option (Option W)→Prop
 | some (some (.bor xs))=>run (m u st) (kApp i u xs k)
 | _=>k .bad
@[simp] theorem kApp_ok (i xs d):kApp i u xs ks (.ok (.val d) st)=if xs.length<1000000 then ks (.nx (u.set i (some (.bor (xs++[d])))) st) else ks .bad:=rfl
@[simp] theorem kAppTo_bor (i xs):kAppTo i m u st ks (some (some (.bor xs)))=run (m u st) (kApp i u xs ks):=rfl
@[simp] theorem run_sApp (i:Nat):srun (sApp i m u st) ks=kAppTo i m u st ks u[i]?:=by
 unfold srun sApp kAppTo run kApp
 cases u[i]? with
 | none=>rfl
 | some o=>
  cases o with
  | none=>rfl
  | some w=>
   cases w with
   | bor xs=>
    dsimp only
    cases m u st with
    | ok w st'=>
     cases w with
     | val d=>dsimp only;split <;> rfl
     | _=>rfl
    | _=>rfl
   | _=>rfl
@[simp] theorem run_sFor {gm:GM} (s:SM):srun (sFor fm gm s u st) ks=run (fm u st) (kFor gm s u ks):=by unfold srun sFor run kFor;cases fm u st <;> rfl
@[simp] theorem run_forL_nil {gm:GM} (s:SM):srun (forL gm s [] u st) ks=ks (.nx u st):=rfl
@[simp] theorem wipe3_nil:wipe3 u []=u:=rfl
@[simp] theorem wipe3_cons (v vs):wipe3 u (v :: vs)=(wipe3 u vs).set v none:=rfl
def kTurn (f:Sl3→Store→Prop) (k:SRes→Prop):SRes→Prop
 | .nx u st=>f u st
 | .ct u st=>f u st
 | .bk u st=>k (.nx u st)
 | r=>k r
@[simp] theorem kTurn_nx (f):kTurn f ks (.nx u st)=f u st:=rfl
@[simp] theorem kTurn_ct (f):kTurn f ks (.ct u st)=f u st:=rfl
@[simp] theorem kTurn_bk (f):kTurn f ks (.bk u st)=ks (.nx u st):=rfl
@[simp] theorem kTurn_rt (f w):kTurn f ks (.rt w st)=ks (.rt w st):=rfl
@[simp] theorem kTurn_err (f c x):kTurn f ks (.err c x u st)=ks (.err c x u st):=rfl
@[simp] theorem kTurn_bad (f):kTurn f ks .bad=ks .bad:=rfl
theorem run_forL_cons {gm:GM} (s:SM) {d:D} {ds:List D} {u1:Sl3} (h:gm d u=some u1):srun (forL gm s (d :: ds) u st) ks=srun (s u1 st) (kTurn (fun u st=>srun (forL gm s ds u st) ks) ks):=by
 unfold srun
 rw[forL,h]
 dsimp only
 unfold kTurn
 cases s u1 st <;> rfl
theorem forL_run {gm:GM} {s:SM} {ds:List D} (I:Nat→Sl3→Store→Prop) (h0:I 0 u st) (turn:∀i d u st,ds[i]?=some d→I i u st→∃u1,gm d u=some u1∧srun (s u1 st) (kTurn (I (i+1)) ks)) (fin:∀u st,I ds.length u st→ks (.nx u st)):srun (forL gm s ds u st) ks:=by
 have all:∀(n i:Nat) (u:Sl3) (st:Store),i+n=ds.length→I i u st→srun (forL gm s (ds.drop i) u st) ks:=by
  intro n
  induction n with
  | zero=>
   intro i u st hi hI
   rw[List.drop_eq_nil_of_le (by omega)]
   have:i=ds.length:=by omega
   subst this
   exact fin u st hI
  | succ n ih=>
   intro i u st hi hI
   have hl:i<ds.length:=by omega
   rw[List.drop_eq_getElem_cons hl]
   obtain⟨u1,e,t⟩:=turn i ds[i] u st (List.getElem?_eq_getElem hl) hI
   rw[run_forL_cons s e]
   refine srun_mono t fun r hr=>?_
   cases r with
   | nx u' st'=>exact ih (i+1) u' st' (by omega) hr
   | ct u' st'=>exact ih (i+1) u' st' (by omega) hr
   | _=>exact hr
 have:=all ds.length 0 u st (by omega) h0
 simpa using this
theorem whileL_run {t:TM} {s:SM} (I:Nat→Sl3→Store→Prop) (n m:Nat) (hn:m<n) (h0:I m u st) (turn:∀m u st,I m u st→run (t u st) (fun r=>match r with
  | .ok true st1=>srun (s u st1) (kTurn (fun u st=>∃m',m'<m∧I m' u st) ks)
  | .ok false st1=>ks (.nx u st1)
  | .err c x st1=>ks (.err c x u st1)
  | .bad=>ks .bad)):srun (whileL t s n u st) ks:=by
 induction n generalizing m u st with
 | zero=>omega
 | succ n ih=>
  have q:=turn m u st h0
  unfold run at q
  unfold srun
  rw[whileL]
  cases e:t u st with
  | ok c st1=>
   rw[e] at q
   cases c with
   | true=>
    dsimp only at q⊢
    unfold srun at q
    cases e2:s u st1 with
    | nx u' st'=>rw[e2] at q;obtain⟨m',hm,hI⟩:=q;exact ih m' (by omega) hI
    | ct u' st'=>rw[e2] at q;obtain⟨m',hm,hI⟩:=q;exact ih m' (by omega) hI
    | bk u' st'=>rw[e2] at q;exact q
    | rt w st'=>rw[e2] at q;exact q
    | err c x u' st'=>rw[e2] at q;exact q
    | bad=>rw[e2] at q;exact q
   | false=>exact q
  | err c x st1=>rw[e] at q;exact q
  | bad=>rw[e] at q;exact q
theorem lcL_eq {gm:GM} {u0:Sl3} (p:D→Bool) (f:D→D):∀(ds acc:List D),(∀d∈ds,∃u1,gm d u0=some u1∧t u1 st=.ok (p d) st∧(p d=true→m u1 st=.ok (.val (f d)) st))→acc.length+ds.length≤1000000→
  lcL gm t m u0 ds acc st=.ok (acc++(ds.filter p).map f) st
 | [],acc,_,_=>by simp[lcL,M.pure]
 | d :: ds,acc,h,hz=>by
  obtain⟨u1,e1,e2,e3⟩:=h d List.mem_cons_self
  have ih:=fun acc=>lcL_eq p f ds acc fun d hd=>h d (List.mem_cons_of_mem _ hd)
  simp only[List.length_cons] at hz
  apply of_run
  rw[lcL_cons,e1]
  simp only[run_of_some,kBind_ok,run_bind,run_quiet,e2,run_ok,kQuiet_ok,run_ite]
  cases hp:p d with
  | false=>
   rw[if_neg Bool.false_ne_true,ih acc (by omega)]
   simp[hp]
  | true=>
   rw[if_pos rfl,e3 hp]
   simp only[run_ok,kQuiet_ok,kBind_ok,run_bind,W.d,run_of_some,run_chk]
   rw[if_pos (by omega),ih _ (by simp;omega)]
   simp[hp]
def kRet (k:Res D→Prop):SRes→Prop
 | .nx _ st=>k (.ok .non st)
 | .rt (.val d) st=>k (.ok d st)
 | .rt (.bor xs) st=>k (.ok (.lst xs) st)
 | .err c x _ st=>k (.err c x st)
 | _=>k .bad
@[simp] theorem kRet_nx:kRet kd (.nx u st)=kd (.ok .non st):=rfl
@[simp] theorem kRet_rt (d):kRet kd (.rt (.val d) st)=kd (.ok d st):=rfl
@[simp] theorem kRet_bor (xs):kRet kd (.rt (.bor xs) st)=kd (.ok (.lst xs) st):=rfl
@[simp] theorem kRet_err (c x):kRet kd (.err c x u st)=kd (.err c x st):=rfl
@[simp] theorem kRet_bad:kRet kd .bad=kd .bad:=rfl
theorem run_mfn (N:Nat) (mb:SM) (ds:List D):run (mfn N mb ds st) kd=srun (mb (ds.map (fun d=>some (.val d))++List.replicate (N - ds.length) none) st) (kRet kd):=by
 unfold run mfn srun kRet
 cases mb (ds.map (fun d=>some (.val d))++List.replicate (N - ds.length) none) st with
 | rt w st'=>cases w <;> rfl
 | _=>rfl
end
@[simp] theorem asDs_nil:asDs []=some []:=rfl
@[simp] theorem asDs_cons (d:D) (ws:List W):asDs (.val d :: ws)=(asDs ws).map (d :: ·):=rfl
@[simp] theorem W_d_val (d:D):(W.val d).d=some d:=rfl
@[simp] theorem W_bool_bl (b:Bool):(W.val (.bl b)).bool=some b:=rfl
@[simp] theorem W_rd_val (d:D):(W.val d).rd=some d:=rfl
@[simp] theorem W_rd_bor (xs:List D):(W.bor xs).rd=some (.lst xs):=rfl
@[simp] theorem W_ls_lst (xs:List D):(W.val (.lst xs)).ls=some xs:=rfl
@[simp] theorem W_ls_bor (xs:List D):(W.bor xs).ls=some xs:=rfl
@[simp] theorem walk_tup (xs:List D):(D.tup xs).walk=some xs:=rfl
@[simp] theorem walk_ctup (xs:List D):(D.ctup xs).walk=some xs:=rfl
@[simp] theorem walk_lst (xs:List D):(D.lst xs).walk=some xs:=rfl
@[simp] theorem walk_ro (xs:List D):(D.ro xs).walk=some xs:=rfl
@[simp] theorem walk_str (x:Str):(D.str x).walk=some (x.cps.toList.map fun c=>.str ⟨#[c]⟩):=rfl
@[simp] theorem items_ctup (xs:List D):(D.ctup xs).items=some xs:=rfl
@[simp] theorem items_tup (xs:List D):(D.tup xs).items=some xs:=rfl
@[simp] theorem items_lst (xs:List D):(D.lst xs).items=some xs:=rfl
@[simp] theorem items_ro (xs:List D):(D.ro xs).items=some xs:=rfl
@[simp] theorem tru_non:(W.val .non).tru=some false:=rfl
@[simp] theorem tru_bl (b:Bool):(W.val (.bl b)).tru=some b:=rfl
@[simp] theorem tru_int (i:Int):(W.val (.int i)).tru=some (i != 0):=rfl
@[simp] theorem tru_tup (xs:List D):(W.val (.tup xs)).tru=some (!xs.isEmpty):=rfl
@[simp] theorem tru_lst (xs:List D):(W.val (.lst xs)).tru=some (!xs.isEmpty):=rfl
@[simp] theorem tru_bor (xs:List D):(W.bor xs).tru=some (!xs.isEmpty):=rfl
@[simp] theorem addF_int (i j:Int):addF (.val (.int i)) (.val (.int j))=some (.val (.int (i+j))):=rfl
@[simp] theorem addF_str (x y:Str):addF (.val (.str x)) (.val (.str y))=if x.length+y.length≤1000000 then some (.val (.str (x++y))) else none:=rfl
@[simp] theorem addF_tup (xs ys:List D):addF (.val (.tup xs)) (.val (.tup ys))=if xs.length+ys.length≤1000000 then some (.val (.tup (xs++ys))) else none:=rfl
@[simp] theorem addF_lst (xs ys:List D):addF (.val (.lst xs)) (.val (.lst ys))=if xs.length+ys.length≤1000000 then some (.val (.lst (xs++ys))) else none:=rfl
@[simp] theorem addF_bl (xs ys:List D):addF (.bor xs) (.val (.lst ys))=if xs.length+ys.length≤1000000 then some (.val (.lst (xs++ys))) else none:=rfl
@[simp] theorem addF_lb (xs ys:List D):addF (.val (.lst xs)) (.bor ys)=if xs.length+ys.length≤1000000 then some (.val (.lst (xs++ys))) else none:=rfl
@[simp] theorem addF_bb (xs ys:List D):addF (.bor xs) (.bor ys)=if xs.length+ys.length≤1000000 then some (.val (.lst (xs++ys))) else none:=rfl
@[simp] theorem subF_int (i j:Int):subF (.val (.int i)) (.val (.int j))=some (.val (.int (i - j))):=rfl
@[simp] theorem modF_int (i j:Int):modF (.val (.int i)) (.val (.int j))=if 0<j then some (.val (.int (i % j))) else none:=by simp[modF,intF]
@[simp] theorem divF_int (i j:Int):divF (.val (.int i)) (.val (.int j))=if 0<j∧j<1073741824 then some (.val (.int (i / j))) else none:=by simp[divF,intF]
@[simp] theorem powF_int (i j:Int):powF (.val (.int i)) (.val (.int j))=if 0≤j∧j≤1000∧i.natAbs<1000000 then some (.val (.int (i ^ j.toNat))) else none:=by simp[powF,intF]
@[simp] theorem mulF_int (i j:Int):mulF (.val (.int i)) (.val (.int j))=if mulC i j=true then some (.val (.int (i * j))) else none:=rfl
@[simp] theorem mulF_str (x:Str) (j:Int):mulF (.val (.str x)) (.val (.int j))=if MulS x j=true then some (.val (.str (Txt.mul x j))) else none:=rfl
@[simp] theorem ltF_int (i j:Int):ltF (.val (.int i)) (.val (.int j))=some (.val (.bl (decide (i<j)))):=rfl
@[simp] theorem leF_int (i j:Int):leF (.val (.int i)) (.val (.int j))=some (.val (.bl (decide (i≤j)))):=rfl
@[simp] theorem gtF_int (i j:Int):gtF (.val (.int i)) (.val (.int j))=some (.val (.bl (decide (j<i)))):=rfl
@[simp] theorem geF_int (i j:Int):geF (.val (.int i)) (.val (.int j))=some (.val (.bl (decide (j≤i)))):=rfl
@[simp] theorem isNF_non (b:Bool):isNF b (.val .non) (.val .non)=some (.val (.bl (!b))):=by cases b <;> rfl
@[simp] theorem isNF_int (b:Bool) (i):isNF b (.val (.int i)) (.val .non)=some (.val (.bl b)):=rfl
@[simp] theorem isNF_str (b:Bool) (i):isNF b (.val (.str i)) (.val .non)=some (.val (.bl b)):=rfl
@[simp] theorem isNF_tup (b:Bool) (i):isNF b (.val (.tup i)) (.val .non)=some (.val (.bl b)):=rfl
@[simp] theorem isNF_lst (b:Bool) (i):isNF b (.val (.lst i)) (.val .non)=some (.val (.bl b)):=rfl
@[simp] theorem lenF_str (z:Str):lenF [.val (.str z)]=if z.length≤1000000 then some (.val (.int z.length)) else none:=rfl
@[simp] theorem lenF_tup (xs:List D):lenF [.val (.tup xs)]=some (.val (.int xs.length)):=rfl
@[simp] theorem lenF_lst (xs:List D):lenF [.val (.lst xs)]=some (.val (.int xs.length)):=rfl
@[simp] theorem lenF_ro (xs:List D):lenF [.val (.ro xs)]=some (.val (.int xs.length)):=rfl
@[simp] theorem lenF_bor (xs:List D):lenF [.bor xs]=some (.val (.int xs.length)):=rfl
@[simp] theorem intCF_int (i:Int):intCF [.val (.int i)]=some (.val (.int i)):=rfl
@[simp] theorem intCF_bl (b:Bool):intCF [.val (.bl b)]=some (.val (.int (if b then 1 else 0))):=rfl
@[simp] theorem tupCF_lst (xs:List D):tupCF [.val (.lst xs)]=some (.val (.tup xs)):=rfl
@[simp] theorem tupCF_tup (xs:List D):tupCF [.val (.tup xs)]=some (.val (.tup xs)):=rfl
@[simp] theorem tupCF_bor (xs:List D):tupCF [.bor xs]=some (.val (.tup xs)):=rfl
@[simp] theorem lstCF_lst (xs:List D):lstCF [.val (.lst xs)]=some xs:=rfl
@[simp] theorem lstCF_tup (xs:List D):lstCF [.val (.tup xs)]=some xs:=rfl
@[simp] theorem lstCF_bor (xs:List D):lstCF [.bor xs]=some xs:=rfl
@[simp] theorem ixF_lst (xs:List D) (i:Int):ixF (.val (.lst xs)) (.val (.int i))=(atI xs i).map .val:=rfl
@[simp] theorem ixF_tup (xs:List D) (i:Int):ixF (.val (.tup xs)) (.val (.int i))=(atI xs i).map .val:=rfl
@[simp] theorem ixF_ro (xs:List D) (i:Int):ixF (.val (.ro xs)) (.val (.int i))=(atI xs i).map .val:=rfl
@[simp] theorem ixF_bor (xs:List D) (i:Int):ixF (.bor xs) (.val (.int i))=(atI xs i).map .val:=rfl
@[simp] theorem ixF_str (z:Str) (i:Int):ixF (.val (.str z)) (.val (.int i))=if z.length≤1000000 then (atI z.cps.toList i).map fun c=>.val (.str ⟨#[c]⟩) else none:=rfl
theorem atN {α:Type} (xs:List α) (i:Nat):atI xs (i:Int)=xs[i]?:=by
 unfold atI ixN
 rw[if_pos (by omega)]
 by_cases h:i<xs.length
 ·rw[if_pos (by omega)];simp
 ·rw[if_neg (by omega)];simp[List.getElem?_eq_none (by omega:xs.length≤i)]
theorem atI_int {α:Type} (xs:List α) {i:Int} (h:0≤i):atI xs i=xs[i.toNat]?:=by
 have:=atN xs i.toNat
 rwa [Int.toNat_of_nonneg h] at this
end M3
namespace M3
open PySem L2
section
variable {α β γ:Type} {k:Res α→Prop} {kw:Res W→Prop} {ks:SRes→Prop} {st:Store} {u:Sl3} {m a b:EM} {g:GM}
@[simp] theorem run_eM1 (g:Str→W→Option W):run (eM1 g a b u st) kw=run (a u st) (kBind (fun x=>M.bind (M.of x.str?) fun z=>M.bind (b u) fun y=>M.of (g z y)) kw):=run_bind _ _
@[simp] theorem run_eCnt:run (eCnt a b u st) kw=run (a u st) (kBind (fun x=>M.bind (M.of x.tup?) fun xs=>M.bind (b u) fun y=>M.of (cntF xs y)) kw):=run_bind _ _
def kNeg (k:Res W→Prop):Res W→Prop
 | .ok (.val (.int i)) st=>k (.ok (.val (.int (-i))) st)
 | .ok _ _=>k .bad
 | .err c x st=>k (.err c x st)
 | .bad=>k .bad
@[simp] theorem kNeg_ok (i):kNeg kw (.ok (.val (.int i)) st)=kw (.ok (.val (.int (-i))) st):=rfl
@[simp] theorem run_eNeg:run (eNeg a u st) kw=run (a u st) (kNeg kw):=by
 unfold run eNeg M.bind kNeg
 cases a u st with
 | ok w st'=>cases w with
  | val d=>cases d <;> rfl
  | _=>rfl
 | _=>rfl
@[simp] theorem str?_str (x:Str):(W.val (.str x)).str?=some x:=rfl
@[simp] theorem tup?_tup (xs:List D):(W.val (.tup xs)).tup?=some xs:=rfl
@[simp] theorem startsF_str (x y:Str):startsF x (.val (.str y))=some (.val (.bl (Txt.startswith x y))):=rfl
@[simp] theorem splitF_str (x y:Str):splitF x (.val (.str y))=if y.length≠0∧x.length≤900000 then some (.val (.lst ((Txt.split x y).map .str))) else none:=rfl
theorem strs_map:∀xs:List Str,D.strs (xs.map .str)=some xs
 | []=>rfl
 | x :: xs=>by rw[List.map_cons,D.strs,strs_map xs];rfl
@[simp] theorem joinF_strs (x:Str) (xs:List Str):joinF x (.val (.lst (xs.map .str)))=if (xs.map (·.length)).sum+xs.length * x.length≤1000000 then some (.val (.str (Txt.join x xs))) else none:=by
 show (D.strs (xs.map .str)).bind _=_
 rw[strs_map];rfl
theorem bls_map:∀xs:List Bool,D.bls (xs.map .bl)=some xs
 | []=>rfl
 | x :: xs=>by rw[List.map_cons,D.bls,bls_map xs];rfl
@[simp] theorem allF_bls (xs:List Bool):allF [.val (.lst (xs.map .bl))]=some (.val (.bl (xs.all id))):=by
 show (D.bls (xs.map .bl)).map _=_
 rw[bls_map];rfl
@[simp] theorem anyF_bls (xs:List Bool):anyF [.val (.lst (xs.map .bl))]=some (.val (.bl (xs.any id))):=by
 show (D.bls (xs.map .bl)).map _=_
 rw[bls_map];rfl
theorem bls_mapF {α:Type} (f:α→Bool) (xs:List α):(xs.map fun x=>D.bl (f x))=(xs.map f).map .bl:=by rw[List.map_map];rfl
@[simp] theorem allF_mapF {α:Type} (f:α→Bool) (xs:List α):allF [.val (.lst (xs.map fun x=>D.bl (f x)))]=some (.val (.bl (xs.all f))):=by
 rw[bls_mapF,allF_bls,List.all_map];rfl
@[simp] theorem anyF_mapF {α:Type} (f:α→Bool) (xs:List α):anyF [.val (.lst (xs.map fun x=>D.bl (f x)))]=some (.val (.bl (xs.any f))):=by
 rw[bls_mapF,anyF_bls,List.any_map];rfl
@[simp] theorem inF_sign (neg:Bool) (c:Nat) (b:Str):inF neg (.val (.str ⟨#[c]⟩)) (.val (.str b))=some (.val (.bl (if neg then !decide (c∈b.cps.toList) else decide (c∈b.cps.toList)))):=rfl
@[simp] theorem srun_sFrz (i:Nat) (xs:List D) (h:u[i]?=some (some (.bor xs))):srun (sFrz i u st) ks=ks (.nx (u.set i (some (.val (.lst xs)))) st):=by
 unfold srun sFrz;rw[h]
def kAsg (g:GM) (u:Sl3) (ks:SRes→Prop):Res W→Prop
 | .ok (.val d) st=>(match g d u with
  | some u'=>ks (.nx u' st)
  | none=>ks .bad)
 | .ok _ _=>ks .bad
 | .err c x st=>ks (.err c x u st)
 | .bad=>ks .bad
def kAsg2 (st:Store) (ks:SRes→Prop):Option Sl3→Prop
 | some u'=>ks (.nx u' st)
 | none=>ks .bad
@[simp] theorem kAsg2_some (u'):kAsg2 st ks (some u')=ks (.nx u' st):=rfl
@[simp] theorem kAsg_ok (d:D):kAsg g u ks (.ok (.val d) st)=kAsg2 st ks (g d u):=by unfold kAsg kAsg2;rfl
@[simp] theorem srun_sAsg:srun (sAsg m g u st) ks=run (m u st) (kAsg g u ks):=by
 unfold srun sAsg run kAsg
 cases m u st with
 | ok w st'=>cases w with
  | val d=>dsimp only;cases g d u <;> rfl
  | _=>rfl
 | _=>rfl
@[simp] theorem srun_sPop (i:Nat) (xs:List D) (h:u[i]?=some (some (.bor xs))):srun (sPop i u st) ks=if xs.isEmpty=true then ks .bad else ks (.nx (u.set i (some (.bor xs.dropLast))) st):=by
 unfold srun sPop;rw[h];dsimp only;split <;> rfl
end
end M3
namespace M3
open PySem L2
section
variable {α β γ:Type} {k:Res α→Prop} {kw:Res W→Prop} {kf:Res (List D)→Prop} {ks:SRes→Prop} {kd:Res D→Prop} {st:Store} {u:Sl3} {m a b mo:EM} {ma mk:AM} {g:GM}
def kIns (st:Store) (k:Res (Nat×String×List (Str×D))→Prop) (i:Nat):Option MO→Prop
 | some (.ins c fs)=>k (.ok (i,c,fs) st)
 | _=>k .bad
@[simp] theorem kIns_ins {k} (i c fs):kIns st k i (some (.ins c fs))=k (.ok (i,c,fs) st):=rfl
@[simp] theorem run_insOf (i:Nat) (k):run (insOf (.val (.ref i)) st) k=kIns st k i st[i]?:=by
 unfold run insOf kIns
 dsimp only
 cases st[i]? with
 | none=>rfl
 | some o=>cases o <;> rfl
@[simp] theorem run_eFld (cs:List String) (f:Str):run (eFld cs f m u st) kw=run (m u st) (kBind (fun w=>M.bind (insOf w) fun q=>M.bind (M.chk (q.2.1∈cs)) fun _=>M.bind (M.of (q.2.2.lookup f)) fun d=>M.pure (.val d)) kw):=run_bind _ _
def kNx (u:Sl3) (k:SRes→Prop):Res Unit→Prop
 | .ok _ st=>k (.nx u st)
 | .err c x st=>k (.err c x u st)
 | .bad=>k .bad
@[simp] theorem kNx_ok (x):kNx u ks (.ok x st)=ks (.nx u st):=rfl
@[simp] theorem kNx_err (c x):kNx u ks (.err c x st)=ks (.err c x u st):=rfl
@[simp] theorem kNx_bad:kNx u ks .bad=ks .bad:=rfl
@[simp] theorem run_sFldS (cs:List String) (f:Str):srun (sFldS cs f mo m u st) ks=run (m u st) (kBind (fun w=>M.bind (M.of w.d) fun d=>M.bind (mo u) fun x=>M.bind (insOf x) fun q=>M.bind (M.chk (q.2.1∈cs∧q.2.2.length<500)) fun _=>fun st=>.ok () (st.set q.1 (.ins q.2.1 (put3 f d q.2.2)))) (kNx u ks)):=by
 rw[←run_bind]
 unfold srun sFldS run kNx
 cases (M.bind (m u) (fun w=>M.bind (M.of w.d) fun d=>M.bind (mo u) fun x=>M.bind (insOf x) fun q=>M.bind (M.chk (q.2.1∈cs∧q.2.2.length<500)) fun _=>fun st=>Res.ok () (st.set q.1 (.ins q.2.1 (put3 f d q.2.2)))) st) <;> rfl
@[simp] theorem run_fun (f:Store→Res α):run ((fun st=>f st) st) k=run (f st) k:=rfl
def kMade (i:Nat) (k:Res W→Prop):Res D→Prop
 | .ok .non st=>k (.ok (.val (.ref i)) st)
 | .ok _ _=>k .bad
 | .err c x st=>k (.err c x st)
 | .bad=>k .bad
@[simp] theorem kMade_non (i):kMade i kw (.ok .non st)=kw (.ok (.val (.ref i)) st):=rfl
@[simp] theorem kMade_err (i c x):kMade i kw (.err c x st)=kw (.err c x st):=rfl
@[simp] theorem run_mMake (c:String) (mf:List D→M D) (ds:List D):run (mMake c mf ds st) kw=run (mf (.ref st.length :: ds) (st++[.ins c []])) (kMade st.length kw):=by
 unfold run mMake kMade
 cases mf (.ref st.length :: ds) (st++[.ins c []]) with
 | ok d st'=>cases d <;> rfl
 | _=>rfl
@[simp] theorem run_eMk3 (c:String) (n:Nat) (dd:List D) (mf:List D→M D):run (eMk3 c n dd mf ma u st) kw=run (ma u st) (kBind (fun ws=>M.bind (M.of (asDs ws)) fun ds=>M.bind (M.chk (ds.length=n)) fun _=>mMake c mf (ds++dd)) kw):=run_bind _ _
@[simp] theorem run_eMkK (c:String) (n k:Nat) (arr) (mf:List D→M D):run (eMkK c n k arr mf ma mk u st) kw=run (ma u st) (kBind (fun ws=>M.bind (mk u) fun zs=>M.bind (M.of (asDs ws)) fun ds=>M.bind (M.of (asDs zs)) fun es=>M.bind (M.chk (ds.length=n∧es.length=k)) fun _=>mMake c mf (arr ds es)) kw):=run_bind _ _
@[simp] theorem run_eCallK (n k N:Nat) (arr) (mf:List D→M D):run (eCallK n k N arr mf ma mk u st) kw=run (ma u st) (kBind (fun ws=>M.bind (mk u) fun zs=>M.bind (M.of (asDs ws)) fun ds=>M.bind (M.of (asDs zs)) fun es=>M.bind (M.chk (ds.length=n∧es.length=k∧(arr ds es).length=N)) fun _=>M.bind (mf (arr ds es)) fun d=>M.pure (.val d)) kw):=run_bind _ _
@[simp] theorem run_eMeth (f:Str) (n:Nat) (tab:List (String×(List D→M D))):run (eMeth f n tab mo ma u st) kw=run (mo u st) (kBind (fun w=>M.bind (insOf w) fun q=>M.bind (M.chk (q.2.2.lookup f=none)) fun _=>M.bind (M.of (tab.lookup q.2.1)) fun mf=>
 M.bind (ma u) fun ws=>M.bind (M.of (asDs ws)) fun ds=>M.bind (M.chk (ds.length=n)) fun _=>M.bind (mf (.ref q.1 :: ds)) fun d=>M.pure (.val d)) kw):=run_bind _ _
@[simp] theorem run_eProp (c:String) (mf:List D→M D):run (eProp c mf mo u st) kw=run (mo u st) (kBind (fun w=>M.bind (insOf w) fun q=>M.bind (M.chk (q.2.1=c)) fun _=>M.bind (M.quiet (mf [.ref q.1])) fun d=>M.pure (.val d)) kw):=run_bind _ _
@[simp] theorem run_eNewDD:run (eNewDD u st) kw=kw (.ok (.val (.ref st.length)) (st++[.ddi [] []])):=rfl
@[simp] theorem run_sRaise (c):srun (sRaise c u st) ks=ks (.err c .non u st):=rfl
@[simp] theorem run_sBad:srun (sBad u st) ks=ks .bad:=rfl
def kTry0 (k:SRes→Prop):SRes→Prop
 | .err _ _ _ _=>k .bad
 | r=>k r
@[simp] theorem kTry0_nx:kTry0 ks (.nx u st)=ks (.nx u st):=rfl
@[simp] theorem kTry0_rt (w):kTry0 ks (.rt w st)=ks (.rt w st):=rfl
@[simp] theorem run_sTry0 (s:SM):srun (sTry0 s u st) ks=srun (s u st) (kTry0 ks):=by unfold srun sTry0 kTry0;cases s u st <;> rfl
def kTry (i:Option Nat) (sub:String→Option Bool) (ms:SM) (k:SRes→Prop):SRes→Prop
 | .err c x u st=>srun (match sub c with
  | some true=>if noExn u=true then sSuite i ms c x u st else .bad
  | some false=>.err c x u st
  | none=>.bad) k
 | r=>k r
@[simp] theorem kTry_nx (i sub ms):kTry i sub ms ks (.nx u st)=ks (.nx u st):=rfl
@[simp] theorem kTry_rt (i sub ms w):kTry i sub ms ks (.rt w st)=ks (.rt w st):=rfl
@[simp] theorem kTry_bk (i sub ms):kTry i sub ms ks (.bk u st)=ks (.bk u st):=rfl
@[simp] theorem kTry_ct (i sub ms):kTry i sub ms ks (.ct u st)=ks (.ct u st):=rfl
@[simp] theorem kTry_err (i sub ms c x):kTry i sub ms ks (.err c x u st)=srun (match sub c with
  | some true=>if noExn u=true then sSuite i ms c x u st else .bad
  | some false=>.err c x u st
  | none=>.bad) ks:=rfl
@[simp] theorem run_sTry (i sub) (mb ms:SM):srun (sTry i sub mb ms u st) ks=srun (mb u st) (kTry i sub ms ks):=by unfold srun sTry kTry;cases mb u st <;> rfl
def kSuite (i:Option Nat) (k:SRes→Prop):SRes→Prop
 | .nx u2 st2=>if noExn (match i with | some i=>u2.set i none | none=>u2)=true then k (.nx (match i with | some i=>u2.set i none | none=>u2) st2) else k .bad
 | .bk u2 st2=>if noExn (match i with | some i=>u2.set i none | none=>u2)=true then k (.bk (match i with | some i=>u2.set i none | none=>u2) st2) else k .bad
 | .ct u2 st2=>if noExn (match i with | some i=>u2.set i none | none=>u2)=true then k (.ct (match i with | some i=>u2.set i none | none=>u2) st2) else k .bad
 | .rt w st2=>k (.rt w st2)
 | _=>k .bad
@[simp] theorem kSuite_rt (i w):kSuite i ks (.rt w st)=ks (.rt w st):=rfl
@[simp] theorem kSuite_nx (i):kSuite i ks (.nx u st)=if noExn (match i with | some i=>u.set i none | none=>u)=true then ks (.nx (match i with | some i=>u.set i none | none=>u) st) else ks .bad:=rfl
@[simp] theorem run_sSuite (i:Option Nat) (ms:SM) (c x):srun (sSuite i ms c x u st) ks=srun (ms (match i with | some i=>u.set i (some (.exn c x)) | none=>u) st) (kSuite i ks):=by
 unfold srun sSuite kSuite
 dsimp only
 cases i <;> (dsimp only;generalize ms _ st=r;cases r <;> (try rfl) <;> (dsimp only;split <;> rfl))
def kIsE (tab:String→Option Bool) (st:Store) (k:Res W→Prop):Option (Option W)→Prop
 | some (some (.exn c _))=>(match tab c with
  | some b=>k (.ok (.val (.bl b)) st)
  | none=>k .bad)
 | _=>k .bad
@[simp] theorem run_eIsE (i:Nat) (tab):run (eIsE i tab u st) kw=kIsE tab st kw u[i]?:=by
 unfold run eIsE kIsE
 cases u[i]? with
 | none=>rfl
 | some o=>
  cases o with
  | none=>rfl
  | some w=>
   cases w with
   | exn c x=>dsimp only;cases tab c <;> rfl
   | _=>rfl
@[simp] theorem kIsE_exn (tab) (c x):kIsE tab st kw (some (some (.exn c x)))=(match tab c with
  | some b=>kw (.ok (.val (.bl b)) st)
  | none=>kw .bad):=rfl
@[simp] theorem run_sOwnD (i:Nat):srun (sOwnD i u st) ks=ks (.nx (u.set i (some (.bod [] []))) st):=rfl
@[simp] theorem run_sOwnDD (i:Nat):srun (sOwnDD i u st) ks=ks (.nx (u.set i (some (.bdd [] []))) st):=rfl
theorem run_sFrzD (i:Nat) {xs us} (h:u[i]?=some (some (.bod xs us))):srun (sFrzD i u st) ks=ks (.nx (u.set i (some (.val (.dict xs us)))) st):=by unfold srun sFrzD;rw[h]
theorem run_sRetD (i:Nat) {xs us} (h:u[i]?=some (some (.bod xs us))):srun (sRetD i u st) ks=ks (.rt (.val (.dict xs us)) st):=by unfold srun sRetD;rw[h]
def kPutK (i:Nat) (u:Sl3) (ds:List Key) (us:List D) (d:D) (k:SRes→Prop):Res W→Prop
 | .ok (.val kd) st=>(match kd.key with
  | some x=>if ds.length<1000000 then k (.nx (u.set i (some (.bod (putK3 ds us x d).1 (putK3 ds us x d).2))) st) else k .bad
  | none=>k .bad)
 | .err c x st=>k (.err c x u st)
 | _=>k .bad
def kSetK (i:Nat) (mi:EM) (u:Sl3) (ds:List Key) (us:List D) (k:SRes→Prop):Res W→Prop
 | .ok (.val d) st=>run (mi u st) (kPutK i u ds us d k)
 | .err c x st=>k (.err c x u st)
 | _=>k .bad
@[simp] theorem kPutK_str (i ds us d) (z:Str):kPutK i u ds us d ks (.ok (.val (.str z)) st)=if ds.length<1000000 then ks (.nx (u.set i (some (.bod (putK3 ds us (.inr z) d).1 (putK3 ds us (.inr z) d).2))) st) else ks .bad:=rfl
@[simp] theorem kSetK_ok (i mi ds us d):kSetK i mi u ds us ks (.ok (.val d) st)=run (mi u st) (kPutK i u ds us d ks):=rfl
theorem run_sSetK (i:Nat) (mi me:EM) {ds us} (h:u[i]?=some (some (.bod ds us))):srun (sSetK i mi me u st) ks=run (me u st) (kSetK i mi u ds us ks):=by
 unfold srun sSetK kSetK run kPutK
 rw[h]
 dsimp only
 cases me u st with
 | ok w st1=>
  cases w with
  | val d=>
   dsimp only
   cases mi u st1 with
   | ok w2 st2=>
    cases w2 with
    | val kd=>
     dsimp only
     cases kd.key with
     | none=>rfl
     | some x=>dsimp only;split <;> rfl
    | _=>rfl
   | _=>rfl
  | _=>rfl
 | _=>rfl
def kPutDD (i:Nat) (u:Sl3) (xs us:List D) (d:D) (k:SRes→Prop):Res W→Prop
 | .ok (.val kd) st=>(match kd.tk with
  | some x=>if xs.length<1000000 then k (.nx (u.set i (some (.bdd (ddPut xs us kd x d).1 (ddPut xs us kd x d).2))) st) else k .bad
  | none=>k .bad)
 | .err c x st=>k (.err c x u st)
 | _=>k .bad
def kSetDD (i:Nat) (mi:EM) (u:Sl3) (xs us:List D) (k:SRes→Prop):Res W→Prop
 | .ok (.val d) st=>run (mi u st) (kPutDD i u xs us d k)
 | .err c x st=>k (.err c x u st)
 | _=>k .bad
@[simp] theorem kSetDD_ok (i mi xs us d):kSetDD i mi u xs us ks (.ok (.val d) st)=run (mi u st) (kPutDD i u xs us d ks):=rfl
@[simp] theorem run_eInDD (neg:Bool):run (eInDD neg a b u st) kw=run (a u st) (kBind (fun k=>M.bind (b u) fun d=>M.bind (M.of k.d) fun kd=>M.bind (M.of kd.tk) fun x=>M.bind (ddOf d) fun q=>M.pure (.val (.bl (if neg then !ddHas q.1 x else ddHas q.1 x)))) kw):=run_bind _ _
@[simp] theorem run_eGetDD:run (eGetDD a b u st) kw=run (a u st) (kBind (fun d=>M.bind (b u) fun k=>M.bind (M.of k.d) fun kd=>M.bind (M.of kd.tk) fun x=>M.bind (ddOf d) fun q=>M.bind (M.of (ddAt q.1 q.2 x)) fun y=>M.pure (.val y)) kw):=run_bind _ _
@[simp] theorem run_ddOf_dd (xs us) (k):run (ddOf (.val (.dd xs us)) st) k=k (.ok (xs,us) st):=rfl
@[simp] theorem run_ddOf_bdd (xs us) (k):run (ddOf (.bdd xs us) st) k=k (.ok (xs,us) st):=rfl
def kDdi (st:Store) (k:Res (List D×List D)→Prop):Option MO→Prop
 | some (.ddi ks us)=>k (.ok (ks,us) st)
 | some (.rdd ks us)=>k (.ok (ks,us) st)
 | _=>k .bad
def kDdw (st:Store) (k:Res (List D×List D)→Prop):Option MO→Prop
 | some (.ddi ks us)=>k (.ok (ks,us) st)
 | _=>k .bad
@[simp] theorem kDdi_ddi {k} (xs us):kDdi st k (some (.ddi xs us))=k (.ok (xs,us) st):=rfl
@[simp] theorem kDdi_rdd {k} (xs us):kDdi st k (some (.rdd xs us))=k (.ok (xs,us) st):=rfl
@[simp] theorem kDdw_ddi {k} (xs us):kDdw st k (some (.ddi xs us))=k (.ok (xs,us) st):=rfl
@[simp] theorem run_ddOw_ref (i:Nat) (k):run (ddOw (.val (.ref i)) st) k=kDdw st k st[i]?:=by
 unfold run ddOw kDdw
 dsimp only
 cases st[i]? with
 | none=>rfl
 | some o=>cases o <;> rfl
@[simp] theorem run_ddOf_ref (i:Nat) (k):run (ddOf (.val (.ref i)) st) k=kDdi st k st[i]?:=by
 unfold run ddOf kDdi
 dsimp only
 cases st[i]? with
 | none=>rfl
 | some o=>cases o <;> rfl
@[simp] theorem run_iKeysDD (xs us) (h:m u st=.ok (.val (.dd xs us)) st):run (iKeysDD m u st) kf=kf (.ok xs st):=by unfold run iKeysDD M.bind;rw[h];rfl
@[simp] theorem run_eDc {mi:FM} {c:TM} {own:List Nat}:run (eDc mi g c a b own u st) kw=run (mi u st) (kBind (fun ds=>M.bind (dcL g c a b (wipe3 u own) ds [] []) fun q=>M.pure (.val (.dd q.1 q.2))) kw):=run_bind _ _
@[simp] theorem dcL_nil {c:TM} {u0:Sl3} (xs us):dcL g c a b u0 [] xs us=M.pure (xs,us):=rfl
def kAug (i:Nat) (u:Sl3) (k:SRes→Prop):Res W→Prop
 | .ok (.val d) st=>k (.nx (u.set i (some (.val d))) st)
 | .err c x st=>k (.err c x u st)
 | _=>k .bad
@[simp] theorem kAug_ok (i d):kAug i u ks (.ok (.val d) st)=ks (.nx (u.set i (some (.val d))) st):=rfl
@[simp] theorem run_sSetDS (mi:EM):srun (sSetDS mo mi m u st) ks=run (m u st) (kBind (fun w=>M.bind (M.of w.d) fun d=>M.bind (mo u) fun ow=>M.bind (mi u) fun k=>M.bind (M.of k.d) fun kd=>M.bind (M.of kd.tk) fun x=>M.bind (ddOw ow) fun q=>M.bind (M.chk (q.1.length<1000000)) fun _=>fun st=>match ow with
  | .val (.ref j)=>.ok () (st.set j (.ddi (ddPut q.1 q.2 kd x d).1 (ddPut q.1 q.2 kd x d).2))
  | _=>.bad) (kNx u ks)):=by
 rw[←run_bind]
 unfold srun sSetDS run kNx
 generalize (M.bind (m u) _) st=r
 cases r <;> rfl
end
@[simp] theorem atI_l0 {α:Type} (xs:List α):atI xs 0=xs[0]?:=atI_int xs (by decide)
@[simp] theorem atI_l1 {α:Type} (xs:List α):atI xs 1=xs[1]?:=atI_int xs (by decide)
@[simp] theorem atI_l2 {α:Type} (xs:List α):atI xs 2=xs[2]?:=atI_int xs (by decide)
@[simp] theorem atI_l3 {α:Type} (xs:List α):atI xs 3=xs[3]?:=atI_int xs (by decide)
@[simp] theorem atI_l4 {α:Type} (xs:List α):atI xs 4=xs[4]?:=atI_int xs (by decide)
@[simp] theorem atI_l5 {α:Type} (xs:List α):atI xs 5=xs[5]?:=atI_int xs (by decide)
@[simp] theorem atI_l6 {α:Type} (xs:List α):atI xs 6=xs[6]?:=atI_int xs (by decide)
@[simp] theorem atI_l7 {α:Type} (xs:List α):atI xs 7=xs[7]?:=atI_int xs (by decide)
@[simp] theorem atI_l8 {α:Type} (xs:List α):atI xs 8=xs[8]?:=atI_int xs (by decide)
@[simp] theorem atI_l9 {α:Type} (xs:List α):atI xs 9=xs[9]?:=atI_int xs (by decide)
@[simp] theorem atI_l10 {α:Type} (xs:List α):atI xs 10=xs[10]?:=atI_int xs (by decide)
@[simp] theorem atI_l11 {α:Type} (xs:List α):atI xs 11=xs[11]?:=atI_int xs (by decide)
@[simp] theorem atI_l12 {α:Type} (xs:List α):atI xs 12=xs[12]?:=atI_int xs (by decide)
@[simp] theorem atI_l13 {α:Type} (xs:List α):atI xs 13=xs[13]?:=atI_int xs (by decide)
@[simp] theorem atI_l14 {α:Type} (xs:List α):atI xs 14=xs[14]?:=atI_int xs (by decide)
@[simp] theorem atI_l15 {α:Type} (xs:List α):atI xs 15=xs[15]?:=atI_int xs (by decide)
@[simp] theorem isi2F_tup (xs:List D) (T):isi2F [.val (.tup xs),.val (.ty T)]=isiF [.val (.tup xs),.val (.ty T)]:=rfl
@[simp] theorem isi2F_ctup (xs:List D) (T):isi2F [.val (.ctup xs),.val (.ty T)]=isiF [.val (.ctup xs),.val (.ty T)]:=rfl
@[simp] theorem isi2F_lst (xs:List D) (T):isi2F [.val (.lst xs),.val (.ty T)]=isiF [.val (.lst xs),.val (.ty T)]:=rfl
@[simp] theorem isi2F_str (x:Str) (T):isi2F [.val (.str x),.val (.ty T)]=isiF [.val (.str x),.val (.ty T)]:=rfl
theorem kit_dict:kitB "dict" "dict" = some true:=by decide +kernel
theorem kit_list:kitB "list" "list" = some true:=by decide +kernel
theorem kit_str:kitB "str" "str" = some true:=by decide +kernel
theorem kit_tup:kitB "tuple" "tuple" = some true:=by decide +kernel
@[simp] theorem isi2F_dd (xs us:List D):isi2F [.val (.dd xs us),.val (.ty "dict")]=some (.val (.bl true)):=by unfold isi2F;simp[kit_dict]
@[simp] theorem isiF_lst (xs:List D):isiF [.val (.lst xs),.val (.ty "list")]=some (.val (.bl true)):=by unfold isiF;simp[D.tyn,kit_list]
@[simp] theorem isiF_str (x:Str):isiF [.val (.str x),.val (.ty "str")]=some (.val (.bl true)):=by unfold isiF;simp[D.tyn,kit_str]
@[simp] theorem isiF_ctup (xs:List D):isiF [.val (.ctup xs),.val (.ty "tuple")]=some (.val (.bl true)):=by unfold isiF;simp[D.tyn,kit_tup]
@[simp] theorem dgF_str (xs:List Key) (us:List D) (z:Str):dgF (.val (.dict xs us)) (.val (.str z))=(atK xs us (.inr z)).map .val:=by
 show ((some (atK xs us (.inr z):Option D)).bind fun o=>o.map W.val)=_
 rfl
@[simp] theorem dgF_bod (xs:List Key) (us:List D) (z:Str):dgF (.bod xs us) (.val (.str z))=(atK xs us (.inr z)).map .val:=by
 show ((some (atK xs us (.inr z):Option D)).bind fun o=>o.map W.val)=_
 rfl
theorem lists_map:∀xss:List (List D),D.lists (xss.map .lst)=some xss
 | []=>rfl
 | xs :: xss=>by rw[List.map_cons,D.lists,lists_map xss];rfl
@[simp] theorem sumLF_lists (xss:List (List D)):sumLF [.val (.lst (xss.map .lst)),.val (.lst [])]=if xss.flatten.length≤1000000 then some (.val (.lst xss.flatten)) else none:=by
 show (D.lists (xss.map .lst)).bind _=_
 rw[lists_map];rfl
end M3
namespace M3
open PySem PySem.Spec PyProof.Rows L2
abbrev QM:=Sl3→M (List (D×D))
inductive RepPs (K:KW) (F:Hp) (io:Io):List (D×D)→List (V×V)→Prop where
 | nil:RepPs K F io [] []
 | cons {k v x y ps qs}:Rep K F io k x→Rep K F io v y→RepPs K F io ps qs→RepPs K F io ((k,v) :: ps) ((x,y) :: qs)
theorem RepPs.length {K:KW} {F:Hp} {io:Io}:∀{ps qs},RepPs K F io ps qs→ps.length=qs.length
 | _,_,.nil=>rfl
 | _,_,.cons _ _ t=>congrArg Nat.succ (RepPs.length t)
abbrev BX:=List (NestedKey×Addr×V)
abbrev PX:BX→DkX→Prop:=Paired fun b x=>x.1=b.1∧x.2.1=b.2.1∧RelV b.2.2 x.2.2
theorem PX.length:∀{bs:BX} {xs:DkX},PX bs xs→bs.length=xs.length
 | _,_,.nil=>rfl
 | _,_,.cons _ t=>congrArg Nat.succ (PX.length t)
def ddAll:List (D×D)→List D→List D→Option (List D×List D)
 | [],ks,us=>some (ks,us)
 | (k,v) :: r,ks,us=>k.tk.bind fun x=>ddAll r (ddPut ks us k x v).1 (ddPut ks us k x v).2
end M3
namespace M3
open PySem PySem.Spec PyProof.Rows L2
def lc2L (g:GM) (c:TM) (mi1:FM) (g1:GM) (c1:TM) (e:EM) (vs1:List Nat) (u0:Sl3):List D→List D→M (List D)
 | [],acc=>M.pure acc
 | d :: ds,acc=>M.bind (M.of (g d u0)) fun u1=>M.bind (M.quiet (c u1)) fun k=>
  if k=true then M.bind (M.quiet (mi1 u1)) fun ds1=>M.bind (lcL g1 c1 e (wipe3 u1 vs1) ds1 acc) fun acc'=>lc2L g c mi1 g1 c1 e vs1 u0 ds acc'
  else lc2L g c mi1 g1 c1 e vs1 u0 ds acc
def fLc2 (mi:FM) (g:GM) (c:TM) (mi1:FM) (g1:GM) (c1:TM) (e:EM) (own vs1:List Nat):FM:=fun u=>M.bind (mi u) fun ds=>lc2L g c mi1 g1 c1 e vs1 (wipe3 u own) ds []
theorem bind_assoc3 {α β γ:Type} (m:M α) (f:α→M β) (f2:β→M γ) (st:Store):M.bind (M.bind m f) f2 st=M.bind m (fun a=>M.bind (f a) f2) st:=by
 unfold M.bind
 cases m st <;> rfl
section
variable {P:P3} {pos:Pos}
theorem lc2_ok {mi:FM} {g g1:GM} {gs gs1:List Nat} {c c1:TM} {mi1:FM} {e:EM} {own vs1:List Nat} {ti ti1:TI} (hgs:∀i∈gs,i∈own) (hgs1:∀i∈gs1,i∈vs1)
  (hti:∀(B0 B:Addr→Prop) (s:S3) (st:Store) (u:Sl3) (z:L2.St) (R:It→Hp→Prop),Wd P.G B st s→Slo P.G P.hx B0 B s u z→Post P.G B (fun s ds J=>Itm P.G s ds J) (fun c d H=>P.wx c d z H) s R (mi u st)→ti z s.H R)
  (hti1:∀(B0 B:Addr→Prop) (s:S3) (st:Store) (u:Sl3) (z:L2.St) (R:It→Hp→Prop),Wd P.G B st s→Slo P.G P.hx B0 B s u z→Post P.G B (fun s ds J=>Itm P.G s ds J) (fun c d H=>noW c d z H) s R (mi1 u st)→ti1 z s.H R)
  {B0 B:Addr→Prop} {s:S3} {st:Store} {u:Sl3} {z:L2.St} {Q:VK} (wd:Wd P.G B st s) (sl:Slo P.G P.hx B0 B s u z) (h:PostF P.G B (fun c d H=>P.wx c d z H) s Q (fLc2 mi g c mi1 g1 c1 e own vs1 u st)) :
  tLc2 ti (tG P.G P.hx g gs) (tT P.G P.hx noW c) ti1 (tG P.G P.hx g1 gs1) (tT P.G P.hx noW c1) (tE P.G P.hx noW e) own vs1 z s.H Q:=by
 refine hti B0 B s st u z _ wd sl (PostF.bind h fun ds st1 s1 J l1 wd1 im h1=>?_)
 intro p hp
 obtain⟨wd2,l2⟩:=own_wd (ho:=.lst []) wd1 hp
 have nb:¬B p:=wd1.freshB hp
 refine⟨fun i n H'=>n=ds.length - i∧i≤ds.length∧∃(s':S3) (st':Store) (acc:List D) (vs:List V),s'.H=H'∧Le B s1 s'∧Wd P.G (plus B p) st' s'∧s'.H p=some (.lst vs)∧RepL P.G.R s'.F s'.io acc vs∧
   PostF P.G B (fun c d H=>P.wx c d z H) s' Q (lc2L g c mi1 g1 c1 e vs1 (wipe3 u own) (ds.drop i) acc st'),
  ⟨_,rfl,Nat.zero_le _,_,st1,[],[],rfl,l2,wd2,upd_same,.nil,PostF.mono l2 h1⟩,?_⟩
 rintro i n H' ⟨rfl,hi,s',st',acc,vs,rfl,l',w',hq,rl,pf⟩
 rcases Nat.lt_or_ge i ds.length with hlt | hge
 ·right
  refine⟨im.go s' l'.io l'.fr w'.sub i hlt,fun H2=>i+1≤ds.length∧∃(s':S3) (st':Store) (acc:List D) (vs:List V),s'.H=H2∧Le B s1 s'∧Wd P.G (plus B p) st' s'∧s'.H p=some (.lst vs)∧RepL P.G.R s'.F s'.io acc vs∧
   PostF P.G B (fun c d H=>P.wx c d z H) s' Q (lc2L g c mi1 g1 c1 e vs1 (wipe3 u own) (ds.drop (i+1)) acc st'),fun H2 q=>⟨_,by omega,rfl,q.1,q.2⟩,fun x H2 y=>?_⟩
  obtain⟨rfl,d,ed,rd⟩:=im.yld s' l'.io l'.fr w'.sub i x _ hlt y
  rw[List.drop_eq_getElem_cons hlt] at pf
  have ed':ds[i]=d:=by rw[List.getElem?_eq_getElem hlt] at ed;cases ed;rfl
  rw[ed'] at pf
  unfold lc2L at pf
  obtain⟨u1,eg,pf⟩:=PostF.of_of pf
  have slw:Slo P.G P.hx B0 B s' (wipe3 u own) (L2.wipe z own):=(sl.mono' (l1.trans l')).wipe own
  refine⟨B0,B,s',st',wipe3 u own,d,u1,rfl,w'.less (fun a b=>.inl b),slw,rd,eg,fun z2 sl2 b2=>⟨?_,?_⟩⟩
  ·rw[b2.wipe hgs,lc_ok.wipe_wipe]
  ·obtain⟨k,st3,ek,pf⟩:=of_quiet pf
   refine⟨B0,plus B p,s',st',u1,rfl,w',sl2.more fun a b=>.inl b,?_⟩
   rw[ek]
   intro s3 k' l3 w3 rk
   subst rk
   have hq3:s3.H p=some (.lst vs):=(l3.hid p (.inr rfl)).trans hq
   have rl3:=rl.mono l3.fr l3.io
   have pf:=PostF.mono (plus_le l3) pf
   have sl3:Slo P.G P.hx B0 B s3 u1 z2:=sl2.mono' (plus_le l3)
   cases k with
   | false=>exact⟨hlt,s3,st3,acc,vs,rfl,l'.trans (plus_le l3),w3,hq3,rl3,pf⟩
   | true=>
    rw[if_pos rfl] at pf
    rw[if_pos rfl]
    obtain⟨ds1,st4,ed1,pf⟩:=of_quiet pf
    refine hti1 B0 (plus B p) s3 st3 u1 z2 _ w3 (sl3.more fun a b=>.inl b) ?_
    rw[ed1]
    intro s4 J1 l4 w4 im1
    have hq4:s4.H p=some (.lst vs):=(l4.hid p (.inr rfl)).trans hq3
    have pf:=PostF.mono (plus_le l4) pf
    have sl4:Slo P.G P.hx B0 B s4 u1 z2:=sl3.mono' (plus_le l4)
    refine⟨fun j k H'=>k=ds1.length - j∧j≤ds1.length∧∃(s':S3) (st':Store) (acc:List D) (vs:List V),s'.H=H'∧Le B s4 s'∧Wd P.G (plus B p) st' s'∧s'.H p=some (.lst vs)∧RepL P.G.R s'.F s'.io acc vs∧
      PostF P.G B (fun c d H=>P.wx c d z H) s' Q (M.bind (lcL g1 c1 e (wipe3 u1 vs1) (ds1.drop j) acc) (fun acc'=>lc2L g c mi1 g1 c1 e vs1 (wipe3 u own) (ds.drop (i+1)) acc') st'),
     ⟨_,rfl,Nat.zero_le _,s4,st4,acc,vs,rfl,Le.refl _,w4,hq4,rl3.mono l4.fr l4.io,pf⟩,?_⟩
    rintro j n1 H4 ⟨rfl,hj,s5,st5,acc5,vs5,rfl,l5,w5,hq5,rl5,pf⟩
    rcases Nat.lt_or_ge j ds1.length with jlt | jge
    ·right
     refine⟨im1.go s5 l5.io l5.fr w5.sub j jlt,fun H2=>j+1≤ds1.length∧∃(s':S3) (st':Store) (acc:List D) (vs:List V),s'.H=H2∧Le B s4 s'∧Wd P.G (plus B p) st' s'∧s'.H p=some (.lst vs)∧RepL P.G.R s'.F s'.io acc vs∧
      PostF P.G B (fun c d H=>P.wx c d z H) s' Q (M.bind (lcL g1 c1 e (wipe3 u1 vs1) (ds1.drop (j+1)) acc) (fun acc'=>lc2L g c mi1 g1 c1 e vs1 (wipe3 u own) (ds.drop (i+1)) acc') st'),fun H2 q=>⟨_,by omega,rfl,q.1,q.2⟩,fun x H2 y=>?_⟩
     obtain⟨rfl,d1,ed1,rd1⟩:=im1.yld s5 l5.io l5.fr w5.sub j x _ jlt y
     rw[List.drop_eq_getElem_cons jlt] at pf
     have ed1':ds1[j]=d1:=by rw[List.getElem?_eq_getElem jlt] at ed1;cases ed1;rfl
     rw[ed1'] at pf
     unfold lcL at pf
     rw[bind_assoc3] at pf
     obtain⟨u2,eg1,pf⟩:=PostF.of_of pf
     have slw1:Slo P.G P.hx B0 (plus B p) s5 (wipe3 u1 vs1) (L2.wipe z2 vs1):=((sl4.mono' l5).more fun a b=>.inl b).wipe vs1
     refine⟨B0,plus B p,s5,st5,wipe3 u1 vs1,d1,u2,rfl,w5,slw1,rd1,eg1,fun z3 sl5 b3=>⟨?_,?_⟩⟩
     ·rw[b3.wipe hgs1,lc_ok.wipe_wipe]
     ·rw[bind_assoc3] at pf
      obtain⟨k1,st6,ek1,pf⟩:=of_quiet pf
      refine⟨B0,plus B p,s5,st5,u2,rfl,w5,sl5,?_⟩
      rw[ek1]
      intro s6 k1' l6 w6 rk
      subst rk
      have hq6:s6.H p=some (.lst vs5):=(l6.hid p (.inr rfl)).trans hq5
      have rl6:=rl5.mono l6.fr l6.io
      have pf:=PostF.mono (plus_le l6) pf
      cases k1 with
      | false=>exact⟨jlt,s6,st6,acc5,vs5,rfl,l5.trans (plus_le l6),w6,hq6,rl6,pf⟩
      | true=>
       rw[if_pos rfl] at pf
       rw[bind_assoc3] at pf
       obtain⟨w,st7,ew,pf⟩:=of_quiet pf
       rw[if_pos rfl]
       refine⟨B0,plus B p,s6,st6,u2,rfl,w6,sl5.mono' l6,?_⟩
       rw[ew]
       intro s7 v7 l7 w7 r7
       rw[bind_assoc3] at pf
       obtain⟨x7,ex,pf⟩:=PostF.of_of pf
       rw[bind_assoc3] at pf
       obtain⟨hz,pf⟩:=PostF.of_chk pf
       have hq7:s7.H p=some (.lst vs5):=(l7.hid p (.inr rfl)).trans hq6
       have rl7:=rl6.mono l7.fr l7.io
       have rx:Rep P.G.R s7.F s7.io x7 v7:=by
        cases w with
        | val d=>cases ex;exact r7
        | _=>cases ex
       obtain⟨w8,l8⟩:=grow_wd (xs:=[]) (d:=.non) (v:=.non) w7 nb hq7 (.lst (vs5++[v7]))
       exact⟨vs5,hq7,by rw[←rl7.length];exact szl hz,jlt,_,st7,acc5++[x7],vs5++[v7],rfl,((l5.trans (plus_le l6)).trans (plus_le l7)).trans l8,w8,upd_same,rl7.append (.cons rx .nil),PostF.mono ((plus_le l7).trans l8) pf⟩
    ·left
     have e1:ds1.drop j=[]:=List.drop_eq_nil_of_le jge
     rw[e1] at pf
     exact⟨im1.stop s5 l5.io l5.fr w5.sub j jge,hlt,s5,st5,acc5,vs5,rfl,((l'.trans (plus_le l3)).trans (plus_le l4)).trans l5,w5,hq5,rl5,pf⟩
 ·left
  have e0:ds.drop i=[]:=List.drop_eq_nil_of_le hge
  rw[e0] at pf
  exact⟨im.stop s' l'.io l'.fr w'.sub i hge,pf s' p vs (Le.refl _) w' nb hq rl⟩
theorem ms_setLc2 {i:Nat} {y:Str} {py spos:Pos} {elt tg iter tg1 iter1:Expr} {ifs ifs1:List Expr} {scope:Scope} {own:List (Str×Nat)} {vs1:List Nat} {mi mi1:FM} {g g1:GM} {gs gs1:List Nat} {c c1:TM} {m:EM} (hc:Cool P.X) (hN:P.X.N.Nodup) (hi:MI P tg iter mi) (ok:BlkOk P.X.N P.X.env.scope scope own)
  (hg:∀(s:Shared) (H:Hp) (C:Addr) (cl:List (Str×Addr)) (fp:List Addr),CoolS P.X.A s H (frs P.X.stack) fp→MG (P.blk s H scope C cl fp) tg g gs) (ht:∀(s:Shared) (H:Hp) (C:Addr) (cl:List (Str×Addr)) (fp:List Addr),CoolS P.X.A s H (frs P.X.stack) fp→MIfs (P.blk s H scope C cl fp) ifs c)
  (hi1:∀(s:Shared) (H:Hp) (C:Addr) (cl:List (Str×Addr)) (fp:List Addr),CoolS P.X.A s H (frs P.X.stack) fp→MI (P.blk s H scope C cl fp) tg1 iter1 mi1)
  (hg1:∀(s:Shared) (H:Hp) (C:Addr) (cl:List (Str×Addr)) (fp:List Addr),CoolS P.X.A s H (frs P.X.stack) fp→MG (P.blk s H scope C cl fp) tg1 g1 gs1) (ht1:∀(s:Shared) (H:Hp) (C:Addr) (cl:List (Str×Addr)) (fp:List Addr),CoolS P.X.A s H (frs P.X.stack) fp→MIfs (P.blk s H scope C cl fp) ifs1 c1)
  (he:∀(s:Shared) (H:Hp) (C:Addr) (cl:List (Str×Addr)) (fp:List Addr),CoolS P.X.A s H (frs P.X.stack) fp→ME (P.blk s H scope C cl fp) elt m)
  (hsw:swapsWith (.ListComp elt [⟨tg,iter,ifs,0⟩,⟨tg1,iter1,ifs1,0⟩] scope pos) (some (.Name y py)) spos.line P.X.env=pure true) (hy:P.X.N[i]?=some y:=by rfl) (hyl:P.X.env.scope.names.lookup y=some .local:=by rfl)
  (hv:∀i∈vs1,i∈own.map (·.2):=by decide) (hgs:∀i∈gs,i∈own.map (·.2):=by decide) (hgs1:∀i∈gs1,i∈vs1:=by decide)
  (hs:∀x,foldedSetIterable iter P.X.env x=pure x:=by intro _;rfl) (hs1:∀env x,foldedSetIterable iter1 env x=pure x:=by intro _ _;rfl) :
  MS P (.Assign [.Name y py] (.ListComp elt [⟨tg,iter,ifs,0⟩,⟨tg1,iter1,ifs1,0⟩] scope pos) spos) (sSet i (eF (fLc2 mi g c mi1 g1 c1 m (own.map (·.2)) vs1))):=by
 obtain⟨ti,pi,hti⟩:=hi.out
 refine MS.mk' (ps_setLc2 (own:=own) (vs1:=vs1) (wi1:=tI P.G P.hx noW mi1) (g:=tG P.G P.hx g gs) (tt:=tT P.G P.hx noW c) (g1:=tG P.G P.hx g1 gs1) (tt1:=tT P.G P.hx noW c1) (te:=tE P.G P.hx noW m) hc hN hy hyl hsw pi ok hv (fun s H C cl fp co=>(hg s H C cl fp co).pg) (fun s H C cl fp co=>(ht s H C cl fp co).pts)
  (fun s H C cl fp co=>(hi1 s H C cl fp co).pi) (fun s H C cl fp co=>(hg1 s H C cl fp co).pg) (fun s H C cl fp co=>(ht1 s H C cl fp co).pts) (fun s H C cl fp co=>(he s H C cl fp co).pe) hs hs1) fun B0 B s o u z D b0 wd sl h=>?_
 refine lc2_ok hgs hgs1 hti (fun B0 B s st u z R w l q=>⟨B0,B,s,st,u,rfl,w,l,q⟩) wd sl ?_
 unfold sSet eF M.bind at h
 cases e:fLc2 mi g c mi1 g1 c1 m (own.map (·.2)) vs1 u o with
 | ok xs st'=>
  rw[e] at h
  dsimp only[M.pure] at h
  exact fun s' p vs l w nb hp r=>h B ⟨s'.io,upd s'.F p (.lst vs),s'.H⟩ _ b0 ((l.trans (freeze_le w)).less b0) (freeze_wd w nb hp) ((sl.mono' (l.trans (freeze_le w))).set (.lst upd_same (r.mono (freeze_le w).fr (freeze_le w).io)) i)
 | err c x st'=>rw[e] at h;exact fun s' cv dd l w q=>h B s' z cv dd b0 (l.less b0) w (sl.mono' l) q
 | bad=>rw[e] at h;exact h
end
def sOwnDsD (i:Nat) (q:QM):SM:=fun u st=>match q u st with
 | .ok ps st'=>if ps.length≤15 then match ddAll ps [] [] with
  | some r=>.nx (u.set i (some (.bdd r.1 r.2))) st'
  | none=>.bad
  else .bad
 | _=>.bad
end M3
namespace M3
open PySem PySem.Spec PyProof.Rows L2
section
variable {P:P3} {pos:Pos}
def idxF (xs:List D) (w:W):Option W:=match w with
 | .val (.str x)=>(D.strs xs).bind fun ys=>(ys.findIdx? fun y=>decide (y=x)).map fun j=>.val (.int (j:Int))
 | _=>none
end
def eGetD2 (a b c:EM):EM:=fun u=>M.bind (a u) fun d=>M.bind (ddOf d) fun _=>M.bind (b u) fun k=>M.bind (M.of k.d) fun kd=>M.bind (M.of kd.tk) fun x=>M.bind (c u) fun z=>M.bind (M.of z.d) fun zd=>M.bind (ddOf d) fun q=>M.pure (.val ((ddAt q.1 q.2 x).getD zd))
end M3
namespace M3
open PySem PySem.Spec PyProof.Rows L2
section
variable {a b c:EM} {u:Sl3} {st:Store} {kw} {ks}
@[simp] theorem run_eGetD2:run (eGetD2 a b c u st) kw=run (a u st) (kBind (fun d=>M.bind (ddOf d) fun _=>M.bind (b u) fun k=>M.bind (M.of k.d) fun kd=>M.bind (M.of kd.tk) fun x=>M.bind (c u) fun z=>M.bind (M.of z.d) fun zd=>M.bind (ddOf d) fun q=>M.pure (.val ((ddAt q.1 q.2 x).getD zd))) kw):=run_bind _ _
end
end M3
namespace M3
open PySem PySem.Spec PyProof.Rows L2
def W.arg:W→Option W
 | .val d=>some (.val d)
 | .len xs=>some (.len xs)
 | _=>none
def argsW:List W→Option (List W)
 | []=>some []
 | w :: ws=>match w.arg,argsW ws with
  | some a,some as=>some (a :: as)
  | _,_=>none
theorem arg_eq {w a:W} (e:w.arg=some a):a=w∧a.own=false∧∀c x,a≠.exn c x:=by
 cases w <;> cases e <;> exact⟨rfl,rfl,fun _ _ z=>by cases z⟩
theorem argsW_eq:∀{ws as:List W},argsW ws=some as→as=ws∧∀a∈as,a.own=false∧∀c x,a≠.exn c x
 | [],_,e=>by cases e;exact⟨rfl,fun a h=>by cases h⟩
 | w :: ws,as,e=>by
  unfold argsW at e
  split at e
  ·rename_i a as' h1 h2
   cases e
   obtain⟨rfl,h⟩:=arg_eq h1
   obtain⟨rfl,hs⟩:=argsW_eq h2
   exact⟨rfl,fun b hb=>(List.mem_cons.mp hb).elim (fun z=>z▸h) (hs b)⟩
  ·cases e
def mfnW (N:Nat) (mb:SM):List W→M D:=fun ws st=>match mb (ws.map some++List.replicate (N - ws.length) none) st with
 | .nx _ st'=>.ok .non st'
 | .rt (.val d) st'=>.ok d st'
 | .rt (.bor xs) st'=>.ok (.lst xs) st'
 | .err c x _ st'=>.err c x st'
 | _=>.bad
def spMW (G:G3) (n:Nat) (m:List W→M D):Sp:=fun vs H Q E=>vs.length=n∧∃(B:Addr→Prop) (s:S3) (st:Store) (ws:List W),s.H=H∧Wd G B st s∧RepWs G none B s ws vs∧(∀a∈ws,a.own=false∧∀c x,a≠.exn c x)∧
 Post G B (fun s d v=>Rep G.R s.F s.io d v) E s Q (m ws st)
theorem RepWs.get {G:G3} {X:Hex} {B:Addr→Prop} {s:S3}:∀{ws:List W} {vs:List V} {i:Nat} {w:W},RepWs G X B s ws vs→ws[i]?=some w→∃v,vs[i]?=some v∧RepW G X B s w v
 | _,_,_,_,.nil,e=>by simp at e
 | _,_,0,_,.cons r _,e=>by simp at e;subst e;exact⟨_,rfl,r⟩
 | _,_,i+1,_,.cons _ t,e=>by
  obtain⟨v,h1,h2⟩:=RepWs.get (i:=i) t (by simpa using e)
  exact⟨v,by simpa using h1,h2⟩
theorem RepW.any {G:G3} {X X':Hex} {B:Addr→Prop} {s:S3} {w:W} {v:V} (r:RepW G X B s w v) (h:∀c x,w≠.exn c x):RepW G X' B s w v:=by
 cases w with
 | exn c x=>exact absurd rfl (h c x)
 | _=>exact r
theorem RepWs.any {G:G3} {X X':Hex} {B:Addr→Prop} {s:S3}:∀{ws:List W} {vs:List V},RepWs G X B s ws vs→(∀a∈ws,a.own=false∧∀c x,a≠.exn c x)→RepWs G X' B s ws vs
 | _,_,.nil,_=>.nil
 | _,_,.cons r t,h=>.cons (r.any (h _ List.mem_cons_self).2) (RepWs.any t fun a ha=>h a (List.mem_cons_of_mem _ ha))
theorem slo_startW {G:G3} {X:Hex} {B0 B:Addr→Prop} {s:S3} {N:List Str} {ws:List W} {vs:List V} (r:RepWs G X B s ws vs) (h:∀a∈ws,a.own=false∧∀c x,a≠.exn c x) :
  Slo G X B0 B s (ws.map some++List.replicate (N.length - ws.length) none) (L2.start N vs):=by
 have hl:=r.length
 have at_:∀{i:Nat} {w:W},(ws.map some++List.replicate (N.length - ws.length) none)[i]?=some (some w)→ws[i]?=some w:=fun {i w} e=>by
  by_cases hi:i<ws.length
  ·rw[List.getElem?_append_left (by simpa using hi),List.getElem?_map] at e
   cases q:ws[i]? with
   | none=>rw[q] at e;cases e
   | some d=>rw[q] at e;cases e;rfl
  ·rw[List.getElem?_append_right (by simpa using hi),List.getElem?_replicate] at e
   split at e <;> cases e
 refine⟨by unfold L2.start;simp[hl],fun _=>0,fun i w e=>?_,fun i j w w' o1 o2 e1 e2 _=>?_⟩
 ·obtain⟨v,e2,rv⟩:=r.get (at_ e)
  refine⟨v,?_,rv,fun q=>?_⟩
  ·unfold L2.start
   have hi:i<vs.length:=(List.getElem?_eq_some_iff.mp e2).1
   rw[List.getElem?_append_left (by simpa using hi),List.getElem?_map,e2]
   rfl
  ·rw[(h w (List.mem_of_getElem? (at_ e))).1] at q;cases q
 ·rw[(h w (List.mem_of_getElem? (at_ e1))).1] at o1;cases o1
section
variable {P:Program} {w:World} {K:PySem.W.Frag} {mg:Str→Option Value} {base:Heap}
theorem fn_okW {G:G3} (hK:K=G.K) (hw:w=G.w) {x qual:Str} {st:Stmt} {f:Addr} {fd:FuncData} {N ps:List Str} {k:Nat} {mb:SM} (F:Fun K x qual st f fd) (S:FnScope N ps (defScope st))
  (h:∀(cdv:Value) (A:Around) (outer:List Env) (s:Shared) (H:Hp) (E:XK),Room k (cxOf (CXq P w) P w K mg base N qual (defScope st) f cdv A outer s H E)→
   MSs ⟨cxOf (CXq P w) P w K mg base N qual (defScope st) f cdv A outer s H E,G,none,fun cls d _ H=>E cls d H,hK,hw⟩ (defBody st) mb) :
  FnOk P w K mg base (CXq P w) (k+1) f fd ps (spMW G ps.length (mfnW N.length mb)):=by
 refine okX F S (fun vs H Q E h=>h.1) fun cdv A outer s0 H vs Q E hr ⟨hl,B,s,o,ws,e,wd,rl,ha,hp⟩=>?_
 subst e
 obtain⟨t,pt,ht⟩:=(h cdv A outer s0 s.H E hr).out
 refine⟨t,pt,ht B B s o _ _ _ (fun _ b=>b) wd (slo_startW (N:=N) rl ha) ?_⟩
 unfold mfnW at hp
 cases em:mb (ws.map some++List.replicate (N.length - ws.length) none) o with
 | nx u' st'=>rw[em] at hp;exact fun B' s' z' b l w sl=>hp s' .non l (w.less b) .non
 | rt w st'=>
  rw[em] at hp
  cases w with
  | val d=>exact fun B' s' v b l w r=>hp s' v l (w.less b) r
  | bor xs=>
   rintro B' s' v b l w ⟨p,vs',rfl,bp,nb,hq,r⟩
   have w':Wd G (plus B p) st' s':=w.less fun a q=>q.elim (b a) fun z=>z▸bp
   exact hp ⟨s'.io,upd s'.F p (.lst vs'),s'.H⟩ (.ref p) (l.trans (freeze_le w')) (freeze_wd w' nb hq) (.lst upd_same (r.mono (freeze_le w').fr (freeze_le w').io))
  | _=>exact hp.elim
 | bk u' st'=>rw[em] at hp;exact hp.elim
 | ct u' st'=>rw[em] at hp;exact hp.elim
 | err c x u' st'=>rw[em] at hp;exact fun B' s' z' cv dd b l w sl q=>hp s' cv dd l (w.less b) q
 | bad=>rw[em] at hp;exact hp.elim
end
structure CalW (Pg:Program) (w:World) (K:PySem.W.Frag) (mg:Str→Option Value) (base:Heap) (G:G3) (k:Nat) (x:Str) (n:Nat) (m:List W→M D):Prop where
 ex:∃f fd ps,mg x=some (.ref f)∧PySem.W.keepIn K (.ref f)=true∧Binds K fd ps []∧ps.length=n∧FnOk Pg w K mg base (CXq Pg w) k f fd ps (spMW G n m)
def eCallW (n:Nat) (m:List W→M D) (ma:AM):EM:=fun u=>M.bind (ma u) fun ws=>M.bind (M.of (argsW ws)) fun as=>M.bind (M.chk (as.length=n)) fun _=>M.bind (m as) fun d=>M.pure (.val d)
section
variable {P:P3} {pos p:Pos} {x:Str} {e:Expr} {es:List Expr} {ma:AM} {m:List W→M D} {k j n:Nat}
theorem me_callW (c:CalW P.X.prog P.X.w P.X.K P.X.mg P.X.base P.G k x n m) (hr:Room j P.X) (hk:k≤j) (tk:Takes P.X P.wx) (hg:Gl P.X x) (ha:MA P (e :: es) ma)
  (hdb:(x == ("__debug__" : Str))=false:=by decide) (he:starEach (e :: es) P.X.env=(false,eval e P.X.env) :: starEach es P.X.env:=by rfl) (hpl:(backTo pos (starEach es P.X.env)).any (·.1)=false:=by rfl) :
  ME P (.Call (.Name x p) (e :: es) [] pos) (eCallW n m ma):=by
 obtain⟨f,fd,ps,hm,hkp,hb,hn,F⟩:=c.ex
 obtain⟨t,pt,ht⟩:=ha.out
 refine ME.mk' (pe_callS F (hr.mono hk) hg hm hkp hb (fun σ=>passAt tk σ) pt hdb he hpl) fun B0 B s st u z Q wd sl h=>ht B0 B s st u z _ wd sl (Post.bind h fun ws st1 s1 vs l1 wd1 r1 h1=>?_)
 obtain⟨as,e,h2⟩:=Post.of_of h1
 obtain⟨hl,h3⟩:=Post.of_chk h2
 clear h1 h2
 obtain⟨ea,hh⟩:=argsW_eq e
 subst ea
 refine⟨by rw[←r1.length];exact hl,B,s1,st1,as,rfl,wd1,r1.any hh,hh,?_⟩
 unfold M.bind at h3
 cases em:m as st1 with
 | ok d st'=>rw[em] at h3;exact fun s' v l w r=>h3 s' v l w r
 | err c x st'=>rw[em] at h3;exact h3
 | bad=>rw[em] at h3;exact h3
def eLend (i:Nat) (m:EM):EM:=fun u st=>match u[i]? with
 | some (some (.bor xs))=>match m (u.set i (some (.len xs))) st with
  | .ok (.val d) st'=>.ok (.val d) st'
  | _=>.bad
 | _=>.bad
theorem me_lend (i:Nat) {m:EM} (h:ME P e m):ME P e (eLend i m):=by
 obtain⟨t,pt,ht⟩:=h.out
 refine ME.mk' (pe_lock pt) fun B0 B s st u z Q wd sl h=>?_
 unfold eLend at h
 cases eu:u[i]? with
 | none=>rw[eu] at h;exact h.elim
 | some ow=>
  rw[eu] at h
  cases ow with
  | none=>exact h.elim
  | some w=>
   cases w with
   | bor xs=>
    dsimp only at h
    obtain⟨p,ez,bp,nb,⟨p',vs,e',_,hp,rl⟩,ch⟩:=sl.changeW wd eu rfl
    cases e'
    refine⟨p,.lst vs,hp,True.intro,fun od=>?_⟩
    have hF:=(wd.hid p bp).1
    have sl2:Slo P.G P.hx B0 B ⟨s.io,s.F,upd s.H p (.frz od (.lst vs))⟩ (u.set i (some (.len xs))) z:=by
     obtain⟨hl,ow,h1,h2⟩:=sl
     obtain⟨v0,ez0,r0,q0⟩:=h1 i _ eu
     rw[ez] at ez0
     cases ez0
     obtain⟨eow,_⟩:=q0 rfl
     injection eow with eow
     refine⟨by simpa using hl,ow,fun j w ej=>?_,fun j k w w' o1 o2 e1 e2 e=>?_⟩
     ·rcases get_set ej with⟨rfl,rfl⟩ | ⟨ne,ej⟩
      ·exact⟨.ref p,ez,⟨p,vs,od,rfl,bp,upd_same,rl⟩,fun q=>by cases q⟩
      ·obtain⟨v,ev,rv,qv⟩:=h1 j w ej
       refine⟨v,ev,?_,qv⟩
       have away:w.own=true→∀p',v=.ref p'→p'≠p:=fun ow' p' e' y=>by
        obtain⟨e4,_⟩:=qv ow'
        rw[e'] at e4
        injection e4 with e4
        exact ne (h2 i j (.bor xs) w rfl ow' eu ej (by rw[←e4,y,eow]))
       cases w with
       | val d=>exact rv
       | exn c x=>exact rv
       | bor xs'=>obtain⟨p',vs',rfl,b',hp',rl'⟩:=rv;exact⟨p',vs',rfl,b',(upd_ne (away rfl p' rfl)).trans hp',rl'⟩
       | bod ks us=>obtain⟨p',vs',rfl,b',hp',rl'⟩:=rv;exact⟨p',vs',rfl,b',(upd_ne (away rfl p' rfl)).trans hp',rl'⟩
       | bdd ks us=>obtain⟨p',vs',rfl,b',hp',rl'⟩:=rv;exact⟨p',vs',rfl,b',(upd_ne (away rfl p' rfl)).trans hp',rl'⟩
       | len ys=>obtain⟨p',vs',o,rfl,b',hp',rl'⟩:=rv;exact⟨p',vs',o,rfl,b',(upd_ne (fun y=>by subst y;rw[hp] at hp';cases hp')).trans hp',rl'⟩
     ·rcases get_set e1 with⟨_,q⟩ | ⟨_,e1⟩
      ·subst q;cases o1
      ·rcases get_set e2 with⟨_,q⟩ | ⟨_,e2⟩
       ·subst q;cases o2
       ·exact h2 j k w w' o1 o2 e1 e2 e
    have put:∀{st:Store} {s:S3} {o:HO},OwnH o→Wd P.G B st s→Wd P.G B st ⟨s.io,s.F,upd s.H p o⟩:=fun {st s o} nt w=>by
     refine⟨fun b v eb=>?_,fun a ba=>?_,w.ftb,w.dom,w.inj,fun k v ek t=>?_,w.untM (IoLe.refl _) (Same.refl _),w.tabM (Same.refl _) (upd_tbl (w.ntbl bp))⟩
     ·show upd s.H p o b=some v
      rw[upd_ne (fun y=>by subst y;have eb:s.F b=some v:=eb;rw[(w.hid b bp).1] at eb;cases eb)]
      exact w.sub b v eb
     ·obtain⟨a1,v,a2,a3⟩:=w.hid a ba
      by_cases q:a=p
      ·subst q;exact⟨a1,_,upd_same,nt⟩
      ·exact⟨a1,v,(upd_ne q).trans a2,a3⟩
     ·obtain⟨a,a1,a2,a3,a4⟩:=w.obj k v ek t
      have na:a≠p:=fun y=>a2 (y▸bp)
      exact⟨a,a1,a2,a3,ObjR.mono (s:=s) (s':=⟨s.io,s.F,upd s.H p o⟩) (IoLe.refl _) (Same.refl _) (upd_ne na) a4⟩
    refine ht B0 B ⟨s.io,s.F,upd s.H p (.frz od (.lst vs))⟩ st _ z _ (put (by exact⟨fun _ q=>(by cases q),fun _ _ q=>(by first | exact dkO_code q | exact cellO_code q | (unfold LamX.CodeO at q;cases q))⟩) wd) sl2 ?_
    cases em:m (u.set i (some (.len xs))) st with
    | bad=>rw[em] at h;exact h.elim
    | err c x st'=>rw[em] at h;exact h.elim
    | ok w st'=>
     rw[em] at h
     cases w with
     | val d=>
      intro s' v l w' r
      have at_:s'.H p=some (.frz od (.lst vs)):=(l.hid p bp).trans upd_same
      refine⟨at_,h ⟨s'.io,s'.F,upd s'.H p (.lst vs)⟩ v ⟨l.io,l.fr,fun a ba=>?_⟩ (put (by exact⟨fun _ q=>(by cases q),fun _ _ q=>(by first | exact dkO_code q | exact cellO_code q | (unfold LamX.CodeO at q;cases q))⟩) w') r⟩
      show upd s'.H p (.lst vs) a=s.H a
      by_cases q:a=p
      ·subst q;rw[upd_same,hp]
      ·rw[upd_ne q];exact(l.hid a ba).trans (upd_ne q)
     | _=>exact h.elim
   | _=>exact h.elim
end
section
variable {k:Res W→Prop} {kd:Res D→Prop} {st:Store} {u:Sl3} {m:EM} {ma:AM}
theorem run_mfnW (N:Nat) (mb:SM) (ws:List W):run (mfnW N mb ws st) kd=srun (mb (ws.map some++List.replicate (N - ws.length) none) st) (kRet kd):=by
 unfold run mfnW srun kRet
 cases mb (ws.map some++List.replicate (N - ws.length) none) st with
 | rt w st'=>cases w <;> rfl
 | _=>rfl
@[simp] theorem run_eCallW (n:Nat) (f:List W→M D):run (eCallW n f ma u st) k=run (ma u st) (kBind (fun ws=>M.bind (M.of (argsW ws)) fun as=>M.bind (M.chk (as.length=n)) fun _=>M.bind (f as) fun d=>M.pure (.val d)) k):=run_bind _ _
def kLend (k:Res W→Prop):Res W→Prop
 | .ok (.val d) st'=>k (.ok (.val d) st')
 | _=>k .bad
@[simp] theorem kLend_ok (d:D):kLend k (.ok (.val d) st)=k (.ok (.val d) st):=rfl
theorem run_eLend (i:Nat) {xs:List D} (h:u[i]?=some (some (.bor xs))):run (eLend i m u st) k=run (m (u.set i (some (.len xs))) st) (kLend k):=by
 unfold run eLend kLend
 rw[h]
 dsimp only
 cases m (u.set i (some (.len xs))) st with
 | ok w st'=>cases w <;> rfl
 | _=>rfl
@[simp] theorem lstCF_len (xs:List D):lstCF [.len xs]=some xs:=rfl
@[simp] theorem lenF_len (xs:List D):lenF [.len xs]=some (.val (.int xs.length)):=rfl
@[simp] theorem ixF_len (xs:List D) (i:Int):ixF (.len xs) (.val (.int i))=(atI xs i).map .val:=rfl
@[simp] theorem argsW_nil:argsW []=some []:=rfl
@[simp] theorem argsW_val (d:D) (ws:List W):argsW (.val d :: ws)=(argsW ws).map (.val d :: ·):=by
 rw[argsW];cases argsW ws <;> rfl
@[simp] theorem argsW_len (xs:List D) (ws:List W):argsW (.len xs :: ws)=(argsW ws).map (.len xs :: ·):=by
 rw[argsW];cases argsW ws <;> rfl
end
end M3
namespace M3
open PySem PySem.Spec PyProof.Rows L2
def cntL (xs:List D) (w:W):Option W:=w.rd.bind fun d=>match D.pys xs,d.py with
 | some ps,some p=>if SeqAt.shaped p=true∧SeqAt.shaped (.list ps)=true then some (.val (.int ((ps.countP fun z=>PyData.eqv z p:Nat):Int))) else none
 | _,_=>none
def eCntL (a b:EM):EM:=fun u=>M.bind (a u) fun x=>M.bind (M.of x.ls) fun xs=>M.bind (b u) fun y=>M.bind (M.of x.ls) fun _=>M.of (cntL xs y)
@[simp] theorem run_eCntL {a b:EM} {u:Sl3} {st:Store} {kw:Res W→Prop}:run (eCntL a b u st) kw=run (a u st) (kBind (fun x=>M.bind (M.of x.ls) fun xs=>M.bind (b u) fun y=>M.bind (M.of x.ls) fun _=>M.of (cntL xs y)) kw):=run_bind _ _
def lstOf (w:W):M (Nat×List D):=fun st=>match w with
 | .val (.ref k)=>match st[k]? with
  | some (.lst xs)=>.ok (k,xs) st
  | _=>.bad
 | _=>.bad
def eLenS (m:EM):EM:=fun u=>M.bind (m u) fun w=>M.bind (lstOf w) fun q=>M.pure (.val (.int (q.2.length:Int)))
def ePop0S (m:EM):EM:=fun u=>M.bind (m u) fun w=>M.bind (lstOf w) fun q=>fun st=>match q.2 with
 | d :: ds=>.ok (.val d) (st.set q.1 (.lst ds))
 | []=>.bad
def eAppS (mo m:EM):EM:=fun u=>M.bind (mo u) fun w=>M.bind (lstOf w) fun _=>M.bind (m u) fun y=>M.bind (M.of y.d) fun d=>M.bind (lstOf w) fun q=>M.bind (M.chk (q.2.length<1000000)) fun _=>fun st=>.ok (.val .non) (st.set q.1 (.lst (q.2++[d])))
def mulLF:W→W→Option W
 | .val (.lst xs),.val (.int n)=>if 0≤n∧n≤1000∧xs.length≤1000 then some (.val (.lst (List.replicate n.toNat xs).flatten)) else none
 | _,_=>none
@[simp] theorem mulLF_lst (xs:List D) (n:Int):mulLF (.val (.lst xs)) (.val (.int n))=if 0≤n∧n≤1000∧xs.length≤1000 then some (.val (.lst (List.replicate n.toNat xs).flatten)) else none:=rfl
structure CalD (Pg:Program) (w:World) (K:PySem.W.Frag) (mg:Str→Option Value) (base:Heap) (G:G3) (k:Nat) (x:Str) (n:Nat) (dd:List D) (mf:List D→M D):Prop where
 ex:∃f fd ps dvs dsv,mg x=some (.ref f)∧PySem.W.keepIn K (.ref f)=true∧Binds K fd ps dsv∧Vals dvs dsv∧(∀F io,RepL G.R F io dd dvs)∧FnOk Pg w K mg base (CXq Pg w) k f fd ps (spM G (n+dd.length) mf)
def eCallD (n:Nat) (dd:List D) (mf:List D→M D) (ma:AM):EM:=fun u=>M.bind (ma u) fun ws=>M.bind (M.of (asDs ws)) fun ds=>M.bind (M.chk (ds.length=n)) fun _=>M.bind (mf (ds++dd)) fun d=>M.pure (.val d)
@[simp] theorem run_eCallD {n:Nat} {dd:List D} {mf:List D→M D} {ma:AM} {u:Sl3} {st:Store} {kw:Res W→Prop}:run (eCallD n dd mf ma u st) kw=run (ma u st) (kBind (fun ws=>M.bind (M.of (asDs ws)) fun ds=>M.bind (M.chk (ds.length=n)) fun _=>M.bind (mf (ds++dd)) fun d=>M.pure (.val d)) kw):=run_bind _ _
section
variable {α:Type} {kw:Res W→Prop} {kf:Res (List D)→Prop} {ks:SRes→Prop} {st:Store} {u:Sl3} {mo m:EM} {fm:FM}
def kNewL (k:Res W→Prop):Res (List D)→Prop
 | .ok xs st=>k (.ok (.val (.ref st.length)) (st++[.lst xs]))
 | .err c x st=>k (.err c x st)
 | .bad=>k .bad
@[simp] theorem kNewL_ok (xs):kNewL kw (.ok xs st)=kw (.ok (.val (.ref st.length)) (st++[.lst xs])):=rfl
@[simp] theorem run_eNewL:run (eNewL fm u st) kw=run (fm u st) (kNewL kw):=by
 unfold run eNewL kNewL
 cases fm u st <;> rfl
def kLst (st:Store) (k:Res (Nat×List D)→Prop) (i:Nat):Option MO→Prop
 | some (.lst xs)=>k (.ok (i,xs) st)
 | _=>k .bad
@[simp] theorem kLst_lst {k} (i xs):kLst st k i (some (.lst xs))=k (.ok (i,xs) st):=rfl
@[simp] theorem run_lstOf (i:Nat) (k):run (lstOf (.val (.ref i)) st) k=kLst st k i st[i]?:=by
 unfold run lstOf kLst
 dsimp only
 cases st[i]? with
 | none=>rfl
 | some o=>cases o <;> rfl
@[simp] theorem run_eLenS:run (eLenS m u st) kw=run (m u st) (kBind (fun w=>M.bind (lstOf w) fun q=>M.pure (.val (.int (q.2.length:Int)))) kw):=run_bind _ _
@[simp] theorem run_ePop0S:run (ePop0S m u st) kw=run (m u st) (kBind (fun w=>M.bind (lstOf w) fun q=>fun st=>match q.2 with
 | d :: ds=>.ok (.val d) (st.set q.1 (.lst ds))
 | []=>.bad) kw):=run_bind _ _
@[simp] theorem run_eAppS:run (eAppS mo m u st) kw=run (mo u st) (kBind (fun w=>M.bind (lstOf w) fun _=>M.bind (m u) fun y=>M.bind (M.of y.d) fun d=>M.bind (lstOf w) fun q=>M.bind (M.chk (q.2.length<1000000)) fun _=>fun st=>.ok (.val .non) (st.set q.1 (.lst (q.2++[d])))) kw):=run_bind _ _
end
end M3
namespace M3
open PySem PySem.Spec PyProof.Rows L2 NdefX
structure SupC (K:PySem.W.Frag) (C D:Addr):Prop where
 ox:OexC K C
 mr:PySem.W.mroIn K C (.ref D)=some true
 mv:PySem.W.mroIn K C (.type "ValueError")=some true
 si:PySem.W.ks_superIn K C D "__init__" = some (some (.builtin "ValueError.__init__"))
def spX (K:PySem.W.Frag) (fld:Str) (D:Addr):Sp:=fun vs H Q _=>∃(a C:Addr) (v:V),vs=[.ref a,v]∧SupC K C D∧PySem.W.findIn K (.ref C) fld=some none∧H a=some (exo a C none)∧∀dx,H dx=none→dx≠a→Q .non (upd (upd H dx (exd dx [(fld,v)])) a (exo a C (some dx)))
end M3
namespace M3
open PySem PySem.Spec PyProof.Rows L2 NdefX
structure XcOk (Pg:Program) (w:World) (K:PySem.W.Frag) (mg:Str→Option Value) (base:Heap) (G:G3) (k:Nat) (x:Str) (c:String):Prop where
 ex:∃(C D f:Addr) (fd:FuncData) (ps:List Str) (fld:Str),G.cls c=some C∧G.fld c=some fld∧mg x=some (.ref C)∧SupC K C D∧PySem.W.findIn K (.ref C) fld=some none∧
  PySem.W.findIn K (.ref C) "__init__" = some (some (.ref f))∧PySem.W.typeIn K (.ref f)=some (.type "function")∧Binds K fd ps []∧FnOk Pg w K mg base (CXq Pg w) k f fd ps (spX K fld D)
def sRaiseX (c:String) (ma:AM):SM:=fun u st=>match ma u st with
 | .ok ws st'=>match asDs ws with
  | some [d]=>.err c d u st'
  | _=>.bad
 | _=>.bad
end M3
namespace M3
open PySem
section
variable {u:Sl3} {st:Store} {ks:SRes→Prop} {kw:Res W→Prop}
def kRaiseX (c:String) (u:Sl3) (k:SRes→Prop):Res (List W)→Prop
 | .ok ws st'=>(match asDs ws with
  | some [d]=>k (.err c d u st')
  | _=>k .bad)
 | _=>k .bad
@[simp] theorem run_sRaiseX (c) (ma:AM):srun (sRaiseX c ma u st) ks=M3.run (ma u st) (kRaiseX c u ks):=by
 unfold srun sRaiseX M3.run kRaiseX
 cases ma u st with
 | ok ws st'=>
  dsimp only
  cases asDs ws with
  | none=>rfl
  | some ds=>
   match ds with
   | []=>rfl
   | [d]=>rfl
   | _ :: _ :: _=>rfl
 | err _ _ _=>rfl
 | bad=>rfl
@[simp] theorem kRaiseX_ok (c) (d:D):kRaiseX c u ks (.ok [.val d] st)=ks (.err c d u st):=rfl
def kXf (cs:List String) (st:Store) (k:Res W→Prop):Option (Option W)→Prop
 | some (some (.exn c x))=>if c∈cs then k (.ok (.val x) st) else k .bad
 | _=>k .bad
@[simp] theorem run_eXf (i:Nat) (cs):M3.run (eXf i cs u st) kw=kXf cs st kw u[i]?:=by
 unfold M3.run eXf kXf
 cases u[i]? with
 | none=>rfl
 | some o=>
  cases o with
  | none=>rfl
  | some w=>
   cases w with
   | exn c x=>dsimp only;split <;> rfl
   | _=>rfl
@[simp] theorem kXf_exn (cs) (c x):kXf cs st kw (some (some (.exn c x)))=if c∈cs then kw (.ok (.val x) st) else kw .bad:=rfl
def kOwnDsD (i:Nat) (u:Sl3) (k:SRes→Prop):Res (List (D×D))→Prop
 | .ok ps st=>if ps.length≤15 then (match ddAll ps [] [] with
  | some r=>k (.nx (u.set i (some (.bdd r.1 r.2))) st)
  | none=>k .bad) else k .bad
 | _=>k .bad
@[simp] theorem run_sOwnDsD (i:Nat) (q:QM):srun (sOwnDsD i q u st) ks=M3.run (q u st) (kOwnDsD i u ks):=by
 unfold srun sOwnDsD M3.run kOwnDsD
 cases q u st with
 | ok ps st'=>
  dsimp only
  split
  ·cases ddAll ps [] [] <;> rfl
  ·rfl
 | _=>rfl
end
end M3
namespace M3
open PySem PySem.Spec PyProof.Rows L2 NdefX
end M3
namespace M3
open PySem PySem.Spec PyProof.Rows L2
def sRetF (m:FM):SM:=fun u st=>match m u st with
 | .ok xs st'=>.rt (.bor xs) st'
 | .err c x st'=>.err c x u st'
 | .bad=>.bad
def spML (G:G3) (n:Nat) (m:List D→M (List D)):Sp:=fun vs H Q E=>vs.length=n∧∃(B:Addr→Prop) (s:S3) (st:Store) (ds:List D),s.H=H∧Wd G B st s∧RepL G.R s.F s.io ds vs∧PostF G B E s Q (m ds st)
structure PropOkL (Pg:Program) (w:World) (K:PySem.W.Frag) (mg:Str→Option Value) (base:Heap) (G:G3) (k:Nat) (f:Str) (c:String) (mf:List D→M (List D)):Prop where
 ex:∃C p g fd ps,G.cls c=some C∧Cls K C∧PropOf K C f p g∧Binds K fd ps []∧FnOk Pg w K mg base (CXq Pg w) k g fd ps (spML G 1 mf)
def fProp (c:String) (mf:List D→M (List D)) (mo:EM):FM:=fun u=>M.bind (mo u) fun w=>M.bind (insOf w) fun q=>M.bind (M.chk (q.2.1=c)) fun _=>M.quiet (mf [.ref q.1])
def eCon (cs:List (String×D)) (f:Str) (m:EM):EM:=fun u=>M.bind (m u) fun w=>M.bind (insOf w) fun q=>M.bind (M.chk (q.2.2.lookup f=none)) fun _=>M.bind (M.of (cs.lookup q.2.1)) fun d=>M.pure (.val d)
def fListA (ma:AM):FM:=fun u=>M.bind (ma u) fun ws=>match ws with
 | [w]=>M.bind (lstOf w) fun q=>M.pure q.2
 | _=>M.bad
section
variable {u:Sl3} {st:Store} {ks:SRes→Prop} {kw:Res W→Prop} {kl:Res (List D)→Prop}
def kRetF (u:Sl3) (k:SRes→Prop):Res (List D)→Prop
 | .ok xs st=>k (.rt (.bor xs) st)
 | .err c x st=>k (.err c x u st)
 | .bad=>k .bad
@[simp] theorem kRetF_ok (xs):kRetF u ks (.ok xs st)=ks (.rt (.bor xs) st):=rfl
@[simp] theorem run_sRetF (m:FM):srun (sRetF m u st) ks=M3.run (m u st) (kRetF u ks):=by
 unfold srun sRetF M3.run kRetF
 cases m u st <;> rfl
def kRetL (k:Res (List D)→Prop):SRes→Prop
 | .rt (.bor xs) st=>k (.ok xs st)
 | .err c x _ st=>k (.err c x st)
 | _=>k .bad
@[simp] theorem kRetL_bor (xs):kRetL kl (.rt (.bor xs) st)=kl (.ok xs st):=rfl
@[simp] theorem kRetL_err (c x):kRetL kl (.err c x u st)=kl (.err c x st):=rfl
@[simp] theorem run_fListA (ma:AM):M3.run (fListA ma u st) kl=M3.run (ma u st) (kBind (fun ws=>match ws with
 | [w]=>M.bind (lstOf w) fun q=>M.pure q.2
 | _=>M.bad) kl):=run_bind _ _
@[simp] theorem run_fProp (c) (mf:List D→M (List D)) (mo:EM):M3.run (fProp c mf mo u st) kl=M3.run (mo u st) (kBind (fun w=>M.bind (insOf w) fun q=>M.bind (M.chk (q.2.1=c)) fun _=>M.quiet (mf [.ref q.1])) kl):=run_bind _ _
@[simp] theorem run_eCon (cs f) (m:EM):M3.run (eCon cs f m u st) kw=M3.run (m u st) (kBind (fun w=>M.bind (insOf w) fun q=>M.bind (M.chk (q.2.2.lookup f=none)) fun _=>M.bind (M.of (cs.lookup q.2.1)) fun d=>M.pure (.val d)) kw):=run_bind _ _
end
end M3
namespace M3
open PySem PySem.Spec PyProof.Rows L2
def eIdxL (a b:EM):EM:=fun u=>M.bind (a u) fun x=>M.bind (M.of x.ls) fun xs=>M.bind (b u) fun y=>M.bind (M.of x.ls) fun _=>M.of (idxF xs y)
section
variable {a b:EM} {u:Sl3} {st:Store} {kw}
@[simp] theorem run_eIdxL:run (eIdxL a b u st) kw=run (a u st) (kBind (fun x=>M.bind (M.of x.ls) fun xs=>M.bind (b u) fun y=>M.bind (M.of x.ls) fun _=>M.of (idxF xs y)) kw):=run_bind _ _
end
end M3
namespace M3
open PySem PySem.Spec PyProof.Rows L2
def mulTF:W→W→Option W
 | .val (.tup xs),.val (.int n)=>if 0≤n∧n≤1000∧xs.length≤1000 then some (.val (.tup (List.replicate n.toNat xs).flatten)) else none
 | _,_=>none
@[simp] theorem mulTF_tup (xs:List D) (n:Int):mulTF (.val (.tup xs)) (.val (.int n))=if 0≤n∧n≤1000∧xs.length≤1000 then some (.val (.tup (List.replicate n.toNat xs).flatten)) else none:=rfl
end M3
namespace M3
open PySem PySem.Spec PyProof.Rows L2
def G3.at (G:G3) (b:Heap):G3:={ G with base:=b,own:=fun _=>none }
def KnowsTo (b b':Heap):Prop:=∀a v,b.IsCell a v→b'.IsCell a v
theorem KnowsTo.refl (b:Heap):KnowsTo b b:=fun _ _ h=>h
def MO.cut (o:MO):MO:=if o.tr=true then o else .dead
def MO.nap:MO→MO
 | .slp _=>.dead
 | o=>o
theorem MO.nap_tr (o:MO):o.nap.tr=o.tr:=by cases o <;> rfl
def MO.pick (o o':MO):MO:=if o.tr=true then o'.cut else o
def back:Store→Store→Store
 | o :: st,o' :: st'=>o.pick o' :: back st st'
 | [],st'=>st'.map MO.cut
 | _,[]=>[]
theorem back_length:∀st st':Store,(back st st').length=st'.length
 | [],st'=>by simp[back]
 | _ :: _,[]=>rfl
 | _ :: st,_ :: st'=>by simp[back,back_length st st']
theorem back_get:∀(st st':Store) (k:Nat),(back st st')[k]?=(st'[k]?).map fun o'=>match st[k]? with
  | some o=>o.pick o'
  | none=>o'.cut
 | [],st',k=>by simp[back]
 | _ :: _,[],k=>by simp[back]
 | _ :: _,_ :: _,0=>by simp[back]
 | _ :: st,_ :: st',k+1=>by simpa[back] using back_get st st' k
theorem cut_tr {o o':MO} (h:o.cut=o') (t:o'.tr=true):o=o':=by
 unfold MO.cut at h
 split at h
 ·exact h
 ·subst h;cases t
theorem cut_un {o o':MO} (h:o.cut=o') (t:o'.tr=false):o'=.dead:=by
 unfold MO.cut at h
 split at h
 ·rename_i q;rw[h] at q;rw[q] at t;cases t
 ·exact h.symm
section
variable {G:G3} {b b':Heap} {B:Addr→Prop} {st st':Store} {s s':S3}
theorem UntR.at_ {a:Addr} {o:MO} (hb:KnowsTo G.base b) (x:UntR G s a o):UntR (G.at b) s a o.nap:=by
 cases o with
 | kc d=>obtain⟨v,u,r,q,z⟩:=x;exact⟨v,u,r,hb _ _ q,z⟩
 | slp i=>exact True.intro
 | dead=>exact True.intro
 | rdd ks us=>exact x
 | _=>exact False.elim x
theorem Wd.nap (hb:KnowsTo G.base b) (w:Wd G B st s):Wd (G.at b) B (st.map MO.nap) s:=by
 have get:∀{k:Nat} {o:MO},(st.map MO.nap)[k]?=some o→∃o':MO,st[k]?=some o'∧o'.nap=o:=fun {k o} e=>by
  rw[List.getElem?_map] at e
  exact Option.map_eq_some_iff.mp e
 refine⟨w.sub,w.hid,w.ftb,fun k a e=>by rw[List.length_map];exact w.dom k a e,fun j k a oj ok e1 e2 q1 t1 q2 t2=>?_,fun k o e t=>?_,fun k o e t=>?_,w.tabs⟩
 ·obtain⟨oj',q1',rfl⟩:=get q1
  obtain⟨ok',q2',rfl⟩:=get q2
  rw[MO.nap_tr] at t1 t2
  exact w.inj j k a oj' ok' e1 e2 q1' t1 q2' t2
 ·obtain⟨o',e',rfl⟩:=get e
  rw[MO.nap_tr] at t
  obtain⟨a,e1,b1,f1,x⟩:=w.obj k o' e' t
  have:o'.nap=o':=by cases o' <;> first | rfl | cases t
  rw[this]
  exact⟨a,e1,b1,f1,x⟩
 ·obtain⟨o',e',rfl⟩:=get e
  rw[MO.nap_tr] at t
  obtain⟨a,e1,x⟩:=w.unt k o' e' t
  exact⟨a,e1,x.at_ hb⟩
theorem Wd.back {B0 B1:Addr→Prop} (w:Wd G B0 st s) (l:Le B1 s s') (w':Wd (G.at b) B st' s'):Wd G B (back st st') s':=by
 have old:∀{k:Nat} {o:MO},(M3.back st st')[k]?=some o→o.tr=true→st'[k]?=some o:=fun {k o} e t=>by
  rw[back_get] at e
  obtain⟨o',e1,e2⟩:=Option.map_eq_some_iff.mp e
  rw[e1]
  split at e2
  ·unfold MO.pick at e2
   split at e2
   ·rw[cut_tr e2 t]
   ·rename_i q;subst e2;exact absurd t q
  ·rw[cut_tr e2 t]
 refine⟨w'.sub,w'.hid,w'.ftb,fun k a e=>by rw[back_length];exact w'.dom k a e,fun j k a oj ok e1 e2 q1 t1 q2 t2=>?_,fun k o e t=>w'.obj k o (old e t) t,fun k o e t=>?_,w'.tabs⟩
 ·exact w'.inj j k a oj ok e1 e2 (old q1 t1) t1 (old q2 t2) t2
 ·rw[back_get] at e
  obtain⟨o',e1,e2⟩:=Option.map_eq_some_iff.mp e
  have dead:o=.dead→∃a,s'.io k=some a∧UntR G s' a o:=fun z=>by
   subst z
   by_cases q:o'.tr=true
   ·obtain⟨a,e3,_⟩:=w'.obj k o' e1 q
    exact⟨a,e3,True.intro⟩
   ·obtain⟨a,e3,_⟩:=w'.unt k o' e1 (by simpa using q)
    exact⟨a,e3,True.intro⟩
  split at e2
  ·rename_i o0 e0
   unfold MO.pick at e2
   split at e2
   ·exact dead (cut_un e2 t)
   ·rename_i q
    subst e2
    obtain⟨a,e3,x⟩:=w.unt k o0 e0 (by simpa using q)
    exact⟨a,l.io _ _ e3,x.mono l.io l.fr⟩
  ·exact dead (cut_un e2 t)
def nap {α β:Type} (m:α→M β):α→M β:=fun ds st=>match m ds (st.map MO.nap) with
 | .ok d st'=>.ok d (M3.back st st')
 | .err c x st'=>.err c x (M3.back st st')
 | .bad=>.bad
theorem nap_post {α β γ:Type} {m:α→M β} {ds:α} {R R':S3→β→γ→Prop} {E:XK} {Q:γ→Hp→Prop} (hR:∀s d v,R' s d v→R s d v) (w:Wd G B st s) (h:Post G B R E s Q (nap m ds st)):Post (G.at b) B R' E s Q (m ds (st.map MO.nap)):=by
 unfold nap at h
 cases em:m ds (st.map MO.nap) with
 | ok d st'=>rw[em] at h;exact fun s' v l w' r=>h s' v l (w.back l w') (hR _ _ _ r)
 | err c x st'=>rw[em] at h;exact fun s' cv dd l w' r=>h s' cv dd l (w.back l w') r
 | bad=>rw[em] at h;exact h
theorem spM_nap (hb:KnowsTo G.base b) {n:Nat} {m:List D→M D} {vs:List V} {H:Hp} {Q:VK} {E:XK} (h:spM G n (nap m) vs H Q E):spM (G.at b) n m vs H Q E:=by
 obtain⟨hl,B,s,st,ds,e,wd,rl,hp⟩:=h
 exact⟨hl,B,s,_,ds,e,wd.nap hb,rl,nap_post (fun _ _ _ r=>r) wd hp⟩
theorem spMW_nap (hb:KnowsTo G.base b) {n:Nat} {m:List M3.W→M D} {vs:List V} {H:Hp} {Q:VK} {E:XK} (h:spMW G n (nap m) vs H Q E):spMW (G.at b) n m vs H Q E:=by
 obtain⟨hl,B,s,st,ws,e,wd,rl,ha,hp⟩:=h
 refine⟨hl,B,s,_,ws,e,wd.nap hb,?_,ha,nap_post (fun _ _ _ r=>r) wd hp⟩
 clear hl ha hp
 induction rl with
 | nil=>exact .nil
 | cons r _ ih=>exact .cons (by cases ‹W› <;> exact r) ih
theorem spML_nap (hb:KnowsTo G.base b) {n:Nat} {m:List D→M (List D)} {vs:List V} {H:Hp} {Q:VK} {E:XK} (h:spML G n (nap m) vs H Q E):spML (G.at b) n m vs H Q E:=by
 obtain⟨hl,B,s,st,ds,e,wd,rl,hp⟩:=h
 refine⟨hl,B,s,_,ds,e,wd.nap hb,rl,?_⟩
 unfold nap at hp
 cases em:m ds (st.map MO.nap) with
 | ok d st'=>rw[em] at hp;exact fun s' p vs l w nb hq r=>hp s' p vs l (wd.back l w) nb hq r
 | err c x st'=>rw[em] at hp;exact fun s' cv dd l w' r=>hp s' cv dd l (wd.back l w') r
 | bad=>rw[em] at hp;exact hp
end
section
variable {Pg:Program} {w:World} {K:PySem.W.Frag} {mg:Str→Option Value} {base b:Heap} {G:G3} {k n:Nat} {x:Str} {c cn:String} {m:List D→M D}
theorem Cal.nap (h:Cal Pg w K mg base (G.at b) k x n m) (hb:KnowsTo G.base b):Cal Pg w K mg base G k x n (nap m):=by
 obtain⟨f,fd,ps,a1,a2,a3,a4,F⟩:=h.ex
 exact⟨f,fd,ps,a1,a2,a3,a4,F.imp fun _ _ _ _ h=>spM_nap hb h⟩
end
end M3
namespace M3
open PySem PySem.Spec PyProof.Rows L2 LamX NdefX
def Over (b0 b:Heap):Prop:=∀a o,b0.get? a=some o→b.get? a=some o
theorem Over.refl (b:Heap):Over b b:=fun _ _ e=>e
theorem Over.trans {b0 b1 b2:Heap} (h:Over b0 b1) (g:Over b1 b2):Over b0 b2:=fun a o e=>g a o (h a o e)
def MO.lent (u:Sl3):MO→MO
 | .slp i=>match u[i]? with
  | some (some (.val d))=>.kc d
  | _=>.dead
 | o=>o
def OwnOk (P:P3):Prop:=∀i a,P.G.own i=some a→∃y,P.X.N[i]?=some y∧P.X.fn y=true∧(P.X.env.scope.names.lookup y=some .cell∨P.X.env.scope.names.lookup y=some .free)∧P.X.env.cells.lookup y=some a
def lend {α β:Type} (u:Sl3) (m:α→M β):α→M β:=fun ds st=>match m ds (st.map (MO.lent u)) with
 | .ok d st'=>.ok d (M3.back st st')
 | .err c x st'=>.err c x (M3.back st st')
 | .bad=>.bad
def eCallR (n:Nat) (m:List D→M D) (ma:AM):EM:=fun u=>M.bind (ma u) fun ws=>M.bind (M.of (asDs ws)) fun ds=>M.bind (M.chk (ds.length=n)) fun _=>M.bind (lend u m ds) fun d=>M.pure (.val d)
end M3
namespace M3
open PySem PySem.Spec PyProof.Rows L2 LamX NdefX
structure LF where
 qual:Str
 params:Arguments
 body:Expr
 scope:Scope
 cl:List (Str×Addr)
 c:Addr
abbrev LF.fd (F:LF) (pm ctv:Value):FuncData:=PySem.W.kla_fn "<lambda>" F.qual F.params F.body F.scope F.cl pm (.ref F.c) ctv
def LamO (f:Addr) (F:LF):HO:=.ext fun h=>∃(od:Option Addr) (sl:Array (Option Value)) (pm ctv:Value),h.get? f=some (⟨.type "function",od,.func (F.fd pm ctv),sl⟩:Obj)
theorem lamO_at {P:Program} {w:World} {H:Hp} {h:Heap} {f:Addr} {F:LF} (hok:HOk P w H h) (e:H f=some (LamO f F)):∃(od:Option Addr) (sl:Array (Option Value)) (pm ctv:Value),h.get? f=some (⟨.type "function",od,.func (F.fd pm ctv),sl⟩:Obj):=by
 obtain⟨z,_,_⟩:=hok f _ e
 exact z
def LF.fv (F:LF):FV:=⟨fun p=>LamO p F,F.c,F.qual,F.cl⟩
def ownOf (N:List Str) (sc:Scope) (cells:List (Str×Addr)):Nat→Option Addr:=fun i=>match N[i]? with
 | some y=>if sc.names.lookup y=some .cell∨sc.names.lookup y=some .free then cells.lookup y else none
 | none=>none
structure Owner (P:P3):Prop where
 own:P.G.own=ownOf P.X.N P.X.env.scope P.X.env.cells
 fn:∀y,P.X.fn y=true
 base:P.X.base=P.G.base
theorem Owner.ok {P:P3} (o:Owner P):OwnOk P:=fun i a e=>by
 rw[o.own] at e
 unfold ownOf at e
 split at e
 ·rename_i y hy
  split at e
  ·rename_i hk
   exact⟨y,hy,o.fn y,hk,e⟩
  ·cases e
 ·cases e
def eLam (c:String) (js:List Nat):EM:=fun _ st=>.ok (.val (.fn c (List.range' st.length js.length))) (st++js.map .slp)
end M3
namespace M3
open PySem PySem.Spec PyProof.Rows L2 LamX NdefX
structure VOk (P:Program) (w:World) (K:PySem.W.Frag) (mg:Str→Option Value) (base:Heap) (CX:CXH) (k:Nat) (F:FV) (sp:Sp):Prop where
 fn:∀(H:Hp) (h:Heap) (f:Addr),HOk P w H h→H f=some (F.ob f)→PySem.W.FnAt f h
 run:∀(A:Around) (outer:List Env) (s:Shared) (H:Hp) (f:Addr) (us:List Value) (vs:List V) (Q:VK) (E:XK),RoomC k A outer H s→Env0 P w K mg base A outer s H→H f=some (F.ob f)→H F.c=some (CodeO F.c F.qual)→
  (F.cl.map (·.2)).Nodup→Vals vs us→sp vs H Q E→codeAny (model P w) A (.call (.ref f) ⟨us,[]⟩) (CR (CX A.handled) outer P w H s Q E) s
theorem VOk.mono {P:Program} {w:World} {K:PySem.W.Frag} {mg:Str→Option Value} {base:Heap} {CX:CXH} {j k:Nat} {F:FV} {sp:Sp} (o:VOk P w K mg base CX j F sp) (h:j≤k):VOk P w K mg base CX k F sp:=
 ⟨o.fn,fun A outer s H f us vs Q E hr=>o.run A outer s H f us vs Q E (hr.mono h)⟩
def LF.nf (F:LF):NF:=⟨"<lambda>",F.qual,F.params,[],F.scope,F.cl,F.c⟩
def mfnE (N:Nat) (e:EM):List D→M D:=fun ds=>M.bind (e (ds.map (fun d=>some (.val d))++List.replicate (N - ds.length) none)) fun w=>M.of w.d
def capsS (st:Store):List Nat→Option (List D)
 | []=>some []
 | k :: ks=>match st[k]?,capsS st ks with
  | some (.kc d),some ds=>some (d :: ds)
  | _,_=>none
def capsM (ks:List Nat):M (List D):=fun st=>match capsS st ks with
 | some ds=>.ok ds st
 | none=>.bad
def capd (m:List D→M D):List Nat→List D→M D:=fun ks ds=>M.bind (capsM ks) fun cs=>m (ds++cs)
def fnOf (w:W):Option (String×List Nat):=match w with
 | .val (.fn c ks)=>some (c,ks)
 | _=>none
abbrev FnTab:=List (String×(List Nat→List D→M D))
def fcall (n:Nat) (tab:FnTab) (w:W) (ds:List D):M D:=M.bind (M.of (fnOf w)) fun q=>M.bind (M.of (tab.lookup q.1)) fun mf=>M.bind (M.chk (ds.length=n)) fun _=>mf q.2 ds
def FnL (F:FV):Prop:=(∃L:LF,F=L.fv)∨∃N:NF,F=⟨fun p=>FnO p N,N.c,N.qual,N.cl⟩
abbrev FnA (X:Cx) (F:FV):Prop:=∀(H:Hp) (h:Heap) (f:Addr),HOk X.prog X.w H h→H f=some (F.ob f)→PySem.W.FnAt f h
theorem FnL.at_ {X:Cx} {F:FV} (h:FnL F):FnA X F:=fun H hp f ok e=>by
 rcases h with⟨L,rfl⟩ | ⟨N,rfl⟩
 ·obtain⟨od,sl,pm,ctv,ho⟩:=lamO_at ok (F:=L) e
  exact⟨_,od,_,sl,ho⟩
 ·obtain⟨od,sl,doc,pm,ctv,ho⟩:=fnO_at ok (F:=N) e
  exact⟨_,od,_,sl,ho⟩
def eCallV (n:Nat) (tab:FnTab) (i:Nat) (ma:AM):EM:=fun u=>M.bind (eVar i u) fun w=>M.bind (M.of (fnOf w)) fun _=>M.bind (ma u) fun ws=>M.bind (M.of (asDs ws)) fun ds=>M.bind (fcall n tab w ds) fun d=>M.pure (.val d)
def eCallA (n:Nat) (tab:FnTab) (cs:List String) (f:Str) (mo:EM) (ma:AM):EM:=fun u=>M.bind (mo u) fun w=>M.bind (insOf w) fun q=>M.bind (M.chk (q.2.1∈cs)) fun _=>M.bind (M.of (q.2.2.lookup f)) fun d=>M.bind (M.of (fnOf (.val d))) fun _=>
 M.bind (ma u) fun ws=>M.bind (M.of (asDs ws)) fun ds=>M.bind (fcall n tab (.val d) ds) fun d=>M.pure (.val d)
end M3
namespace M3
open PySem PySem.Spec PyProof.Rows L2
end M3
namespace M3
open PySem PySem.Spec PyProof.Rows L2
end M3
namespace M3
open PySem PySem.Spec PyProof.Rows L2
def sAsgStar (m:EM) (g:GM) (i:Nat):SM:=fun u st=>match m u st with
 | .ok (.val d) st'=>match d with
  | .ctup (x :: xs)=>if xs.length≤1000 then match g x u with
    | some u'=>.nx (u'.set i (some (.val (.lst xs)))) st'
    | none=>.bad
   else .bad
  | .tup (x :: xs)=>if xs.length≤1000 then match g x u with
    | some u'=>.nx (u'.set i (some (.val (.lst xs)))) st'
    | none=>.bad
   else .bad
  | _=>.bad
 | .ok _ _=>.bad
 | .err c x st'=>.err c x u st'
 | .bad=>.bad
def spR (G:G3) (m:List D→M D):Sp:=fun vs H Q E=>∃(B:Addr→Prop) (s:S3) (st:Store) (ds:List D),s.H=H∧Wd G B st s∧RepL G.R s.F s.io ds vs∧Post G B (fun s d v=>Rep G.R s.F s.io d v) E s Q (m ds st)
end M3
namespace M3
open PySem PySem.Spec PyProof.Rows L2
structure CalR (Pg:Program) (w:World) (K:PySem.W.Frag) (mg:Str→Option Value) (base:Heap) (G:G3) (k:Nat) (x:Str) (m:List D→M D):Prop where
 ex:∃f,mg x=some (.ref f)∧PySem.W.keepIn K (.ref f)=true∧FnR Pg w K mg base (CXq Pg w) k f (spR G m)
structure MthR (Pg:Program) (w:World) (K:PySem.W.Frag) (mg:Str→Option Value) (base:Heap) (G:G3) (k:Nat) (m:Str) (c:String) (mf:List D→M D):Prop where
 ex:∃C f,G.cls c=some C∧Cls K C∧BMeth K C m f∧FnR Pg w K mg base (CXq Pg w) k f (spR G mf)
theorem spR_nap {G:G3} {b:Heap} (hb:KnowsTo G.base b) {m:List D→M D} {vs:List V} {H:Hp} {Q:VK} {E:XK} (h:spR G (nap m) vs H Q E):spR (G.at b) m vs H Q E:=by
 obtain⟨B,s,st,ds,e,wd,rl,hp⟩:=h
 exact⟨B,s,_,ds,e,wd.nap hb,rl,nap_post (fun _ _ _ r=>r) wd hp⟩
theorem CalR.nap {Pg:Program} {w:World} {K:PySem.W.Frag} {mg:Str→Option Value} {base b:Heap} {G:G3} {k:Nat} {x:Str} {m:List D→M D} (h:CalR Pg w K mg base (G.at b) k x m) (hb:KnowsTo G.base b):CalR Pg w K mg base G k x (M3.nap m):=by
 obtain⟨f,a1,a2,F⟩:=h.ex
 exact⟨f,a1,a2,F.imp fun _ _ _ _ h=>spR_nap hb h⟩
theorem MthR.nap {Pg:Program} {w:World} {K:PySem.W.Frag} {mg:Str→Option Value} {base b:Heap} {G:G3} {k:Nat} {x:Str} {c:String} {m:List D→M D} (h:MthR Pg w K mg base (G.at b) k x c m) (hb:KnowsTo G.base b):MthR Pg w K mg base G k x c (M3.nap m):=by
 obtain⟨C,f,a1,a2,a3,F⟩:=h.ex
 exact⟨C,f,a1,a2,a3,F.imp fun _ _ _ _ h=>spR_nap hb h⟩
def eCallRp (m:List D→M D) (ma:AM):EM:=fun u=>M.bind (ma u) fun ws=>M.bind (M.of (asDs ws)) fun ds=>M.bind (m ds) fun d=>M.pure (.val d)
def eMethRp (m:Str) (tab:List (String×(List D→M D))) (mo:EM) (ma:AM):EM:=fun u=>M.bind (mo u) fun w=>M.bind (insOf w) fun q=>M.bind (M.chk (q.2.2.lookup m=none)) fun _=>M.bind (M.of (tab.lookup q.2.1)) fun mf=>
 M.bind (ma u) fun ws=>M.bind (M.of (asDs ws)) fun ds=>M.bind (mf (.ref q.1 :: ds)) fun d=>M.pure (.val d)
def eMethRs (W:Sl3→(List D→M D)→List D→M D) (m:Str) (tab:List (String×(List D→M D))) (mo m1 m2:EM):EM:=fun u=>M.bind (mo u) fun w=>M.bind (insOf w) fun q=>M.bind (M.chk (q.2.2.lookup m=none)) fun _=>M.bind (M.of (tab.lookup q.2.1)) fun mf=>
 M.bind (m1 u) fun w1=>M.bind (M.of w1.d) fun d1=>M.bind (m2 u) fun w2=>M.bind (M.of (w2.d.bind D.items)) fun ds=>M.bind (W u mf (.ref q.1 :: d1 :: ds)) fun d=>M.pure (.val d)
end M3
namespace M3
open PySem PySem.Spec PyProof.Rows L2
end M3
namespace M3
open PySem PySem.Spec PyProof.Rows L2
abbrev RoomQ:=L2H.RoomH
structure FnQ (P:Program) (w:World) (K:PySem.W.Frag) (mg:Str→Option Value) (base:Heap) (k:Nat) (f:Addr) (fd:FuncData) (ps:List Str) (sp:List (Option V)→Hp→VK→Prop):Prop where
 run:∀(A:Around) (outer:List Env) (s:Shared) (H:Hp) (args:Args) (us:List Value) (ws:List (Option V)) (Q:VK),RoomQ k A→Env0 P w K mg base A outer s H→BindsTo s fd args (ps.zip us)→us.length=ps.length→ws.length=ps.length→
  (∀(i:Nat) (v:V),ws[i]?=some (some v)→∃u,us[i]?=some u∧L2.RelV v u)→sp ws H Q→codeAny (model P w) A (.call (.ref f) args) (CR C8.CX0 outer P w H s Q C8.E0) s
end M3
namespace M3
open PySem PySem.Spec PyProof.Rows L2
theorem Zq.eqN {X:Cx} {cls:Value} {d:Option Addr} (n:X.A.handled=none):Zq X cls d=L2N.Zn cls d:=by
 funext o
 exact propext ⟨fun h=>⟨h.1.1,h.1.2,h.2 n⟩,fun h=>⟨h.zc,fun _=>h.2.2⟩⟩
theorem Zq.eqC {X:Cx} {cls:Value} {d:Option Addr} (n:X.A.handled≠none):Zq X cls d=Zc cls d:=by
 funext o
 exact propext ⟨fun h=>h.1,fun h=>⟨h,fun e=>absurd e n⟩⟩
def XE (X:Cx) (W:WX) (u:Value) (s':Shared):Prop:=
 ∃(a:Addr) (B:Heap) (sI:Shared) (pins:List (Addr×Obj)) (z:L2.St) (H:Hp) (cls:Value) (d:Option Addr),
  u=.ref a∧Inv X pins z H sI∧(∀b o,sI.heap.get? b=some o→b∉frs X.stack→B.get? b=some o)∧sI.heap.UpToSlots s'.heap∧
   Sky B X.stack a (Zq X cls d) X.env.locals s'.heap∧H a=none∧s'.os=sI.os∧AllBare s'.gens∧W cls d z H
theorem Takes.of {X:Cx} {W:WX} (h:∀u s',XE X W u s'→X.xe u s'):Takes X W:=by
 refine⟨fun n u s' x=>?_,fun n u s' x=>?_⟩
 ·obtain⟨a,B,sI,pins,z,H,cls,d,e,I,nb,up,sky,r⟩:=x
  rw[←Zq.eqN (X:=X) n] at sky
  exact h u s' ⟨a,B,sI,pins,z,H,cls,d,e,I,nb,up,sky,r⟩
 ·obtain⟨a,B,sI,pins,z,H,cls,d,e,I,nb,up,sky,r⟩:=x
  rw[←Zq.eqC (X:=X) n] at sky
  exact h u s' ⟨a,B,sI,pins,z,H,cls,d,e,I,nb,up,sky,r⟩
theorem CXq.of {X:Cx} {outer:List Env} {H:Hp} {s:Shared} {E:XK} {u:Value} {s':Shared} (h:∃(a:Addr) (B:Heap) (H':Hp) (cls:Value) (d:Option Addr),u=.ref a∧HandSPX.FlyingZ B outer a (Zq X cls d) s'.heap∧HOk X.prog X.w H' B∧UB (frs outer) H H' s.heap B s'.heap∧H' a=none∧s'.os=s.os∧AllBare s'.gens∧E cls d H') :
  CXq X.prog X.w X.A.handled outer H s E u s':=by
 obtain⟨a,B,H',cls,d,e,fl,r⟩:=h
 by_cases n:X.A.handled=none
 ·rw[Zq.eqN n] at fl
  exact .inl ⟨n,a,B,H',cls,d,e,fl,r⟩
 ·rw[Zq.eqC n] at fl
  exact .inr ⟨n,a,B,H',cls,d,e,fl,r⟩
end M3
namespace PySem.W
open PySem PySem.Calls PyProof.Rows
end PySem.W
namespace M3
open PySem PySem.Spec PyProof.Rows L2 PySem.W
end M3
namespace M3
open PySem PySem.Spec PyProof.Rows L2 PySem.W
end M3
namespace M3
open PySem PySem.Spec PyProof.Rows L2 PySem.W
def sExit (mfx:List D→M D) (k:Nat):SRes→SRes
 | .nx u st=>match mfx [.ref k] st with
  | .ok _ st'=>.nx u st'
  | _=>.bad
 | .rt (.val d) st=>match mfx [.ref k] st with
  | .ok _ st'=>.rt (.val d) st'
  | _=>.bad
 | .err c x u st=>match mfx [.ref k] st with
  | .ok .non st'=>.err c x u st'
  | _=>.bad
 | _=>.bad
def sWith (c:String) (mfe mfx:List D→M D) (me:EM) (mb:SM):SM:=fun u st=>match M.bind (me u) (fun w=>M.bind (insOf w) fun q=>M.bind (M.chk (q.2.1=c)) fun _=>M.bind (mfe [.ref q.1]) fun _=>M.pure q.1) st with
 | .ok k st'=>sExit mfx k (mb u st')
 | .err c x st'=>.err c x u st'
 | .bad=>.bad
end M3
namespace M3
open PySem PySem.Spec PyProof.Rows L2 LamX NdefX
theorem TabB.over {b0 b:Heap} {mg:Str→Option Value} {c P:Addr} (t:TabB b0 mg c P) (h:Over b0 b):TabB b mg c P:=⟨t.code.keeps h,t.bm.keeps h,t.gP⟩
section
variable {Pg:Program} {w:World} {K:PySem.W.Frag} {mg:Str→Option Value} {base b:Heap} {G:G3} {k n:Nat} {x f:Str} {c:String} {m:List D→M D} {dd:List D}
theorem CalW.nap {m:List M3.W→M D} (h:CalW Pg w K mg base (G.at b) k x n m) (hb:KnowsTo G.base b):CalW Pg w K mg base G k x n (M3.nap m):=by
 obtain⟨f,fd,ps,a1,a2,a3,a4,F⟩:=h.ex
 exact⟨f,fd,ps,a1,a2,a3,a4,F.imp fun _ _ _ _ h=>spMW_nap hb h⟩
theorem CalD.nap (h:CalD Pg w K mg base (G.at b) k x n dd m) (hb:KnowsTo G.base b):CalD Pg w K mg base G k x n dd (M3.nap m):=by
 obtain⟨f,fd,ps,dvs,dsv,a1,a2,a3,a4,a5,F⟩:=h.ex
 exact⟨f,fd,ps,dvs,dsv,a1,a2,a3,a4,a5,F.imp fun _ _ _ _ h=>spM_nap hb h⟩
theorem MkOk3.nap (h:MkOk3 Pg w K mg base (G.at b) k x c n dd m) (hb:KnowsTo G.base b):MkOk3 Pg w K mg base G k x c n dd (M3.nap m):=by
 obtain⟨C,f,fd,ps,dvs,dsv,a1,a2,a3,a4,a5,a6,F⟩:=h.ex
 exact⟨C,f,fd,ps,dvs,dsv,a1,a2,a3,a4,a5,a6,F.imp fun _ _ _ _ h=>spM_nap hb h⟩
theorem MkOkK.nap {ks:List Str} {arr:List D→List D→List D} {N:Nat} (h:MkOkK Pg w K mg base (G.at b) k x c n ks arr N m) (hb:KnowsTo G.base b):MkOkK Pg w K mg base G k x c n ks arr N (M3.nap m):=by
 obtain⟨C,f,fd,ps,g,gV,hV,a1,a2,a3,a4,a5,a6,a7,F⟩:=h.ex
 exact⟨C,f,fd,ps,g,gV,hV,a1,a2,a3,a4,a5,a6,a7,F.imp fun _ _ _ _ h=>spM_nap hb h⟩
theorem MthOk.nap (h:MthOk Pg w K mg base (G.at b) k x n c m) (hb:KnowsTo G.base b):MthOk Pg w K mg base G k x n c (M3.nap m):=by
 obtain⟨C,f,fd,ps,a1,a2,a3,a4,F⟩:=h.ex
 exact⟨C,f,fd,ps,a1,a2,a3,a4,F.imp fun _ _ _ _ h=>spM_nap hb h⟩
theorem PropOk.nap (h:PropOk Pg w K mg base (G.at b) k f c m) (hb:KnowsTo G.base b):PropOk Pg w K mg base G k f c (M3.nap m):=by
 obtain⟨C,p,g,fd,ps,a1,a2,a3,a4,F⟩:=h.ex
 exact⟨C,p,g,fd,ps,a1,a2,a3,a4,F.imp fun _ _ _ _ h=>spM_nap hb h⟩
theorem PropOkL.nap {m:List D→M (List D)} (h:PropOkL Pg w K mg base (G.at b) k f c m) (hb:KnowsTo G.base b):PropOkL Pg w K mg base G k f c (M3.nap m):=by
 obtain⟨C,p,g,fd,ps,a1,a2,a3,a4,F⟩:=h.ex
 exact⟨C,p,g,fd,ps,a1,a2,a3,a4,F.imp fun _ _ _ _ h=>spML_nap hb h⟩
theorem XcOk.nap (h:XcOk Pg w K mg base (G.at b) k x c):XcOk Pg w K mg base G k x c:=h.1.elim fun C ⟨D,f,fd,ps,fld,h⟩=>⟨C,D,f,fd,ps,fld,h⟩
theorem FnQ.mono {P:Program} {j:Nat} {g:Addr} {fd:FuncData} {ps:List Str} {sp:List (Option V)→Hp→VK→Prop} (F:FnQ P w K mg base j g fd ps sp) (h:j≤k):FnQ P w K mg base k g fd ps sp:=
 ⟨fun A outer s H args us ws Q hr=>F.run A outer s H args us ws Q (hr.mono h)⟩
end
end M3
namespace M3
open PySem PySem.Spec PyProof.Rows L2 PySem.W
end M3
namespace M3
open PySem L2
section
variable {α β γ:Type} {k:Res α→Prop} {kw:Res W→Prop} {kl:Res (List D)→Prop} {ks:SRes→Prop} {kd:Res D→Prop} {st:Store} {u:Sl3} {m a b mo m1 m2:EM} {ma mk:AM} {g:GM} {tab:FnTab}
@[simp] theorem run_eCallV (n i:Nat):run (eCallV n tab i ma u st) kw=kVar st (kBind (fun w=>M.bind (M.of (fnOf w)) fun _=>M.bind (ma u) fun ws=>M.bind (M.of (asDs ws)) fun ds=>M.bind (fcall n tab w ds) fun d=>M.pure (.val d)) kw) u[i]?:=by
 rw[←run_eVar]
 exact run_bind _ _
@[simp] theorem run_eCallA (n:Nat) (cs:List String) (f:Str):run (eCallA n tab cs f mo ma u st) kw=run (mo u st) (kBind (fun w=>M.bind (insOf w) fun q=>M.bind (M.chk (q.2.1∈cs)) fun _=>M.bind (M.of (q.2.2.lookup f)) fun d=>M.bind (M.of (fnOf (.val d))) fun _=>
 M.bind (ma u) fun ws=>M.bind (M.of (asDs ws)) fun ds=>M.bind (fcall n tab (.val d) ds) fun d=>M.pure (.val d)) kw):=run_bind _ _
@[simp] theorem fnOf_fn (c:String) (js:List Nat):fnOf (.val (.fn c js))=some (c,js):=rfl
@[simp] theorem run_fcall (n:Nat) (w:W) (ds:List D):run (fcall n tab w ds st) kd=run (M.of (fnOf w) st) (kBind (fun q=>M.bind (M.of (tab.lookup q.1)) fun mf=>M.bind (M.chk (ds.length=n)) fun _=>mf q.2 ds) kd):=run_bind _ _
@[simp] theorem run_eLam (c:String) (js:List Nat):run (eLam c js u st) kw=kw (.ok (.val (.fn c (List.range' st.length js.length))) (st++js.map .slp)):=rfl
@[simp] theorem run_capd (f:List D→M D) (js:List Nat) (ds:List D):run (capd f js ds st) kd=run (capsM js st) (kBind (fun cs=>f (ds++cs)) kd):=run_bind _ _
@[simp] theorem run_mfnE (N:Nat) (e:EM) (ds:List D):run (mfnE N e ds st) kd=run (e (ds.map (fun d=>some (.val d))++List.replicate (N - ds.length) none) st) (kBind (fun w=>M.of w.d) kd):=run_bind _ _
def kBack (st:Store) (k:Res α→Prop):Res α→Prop
 | .ok d st'=>k (.ok d (back st st'))
 | .err c x st'=>k (.err c x (back st st'))
 | .bad=>k .bad
@[simp] theorem kBack_ok (d:α) (st'):kBack st k (.ok d st')=k (.ok d (back st st')):=rfl
@[simp] theorem kBack_err (c x st'):kBack st k (.err c x st')=k (.err c x (back st st')):=rfl
@[simp] theorem kBack_bad:kBack st k (.bad:Res α)=k .bad:=rfl
@[simp] theorem run_nap (m:β→M α) (ds:β):run (nap m ds st) k=run (m ds (st.map MO.nap)) (kBack st k):=by
 unfold run nap kBack
 cases m ds (st.map MO.nap) <;> rfl
@[simp] theorem run_lend (m:β→M α) (ds:β):run (lend u m ds st) k=run (m ds (st.map (MO.lent u))) (kBack st k):=by
 unfold run lend kBack
 cases m ds (st.map (MO.lent u)) <;> rfl
@[simp] theorem run_eCallR (n:Nat) (f:List D→M D):run (eCallR n f ma u st) kw=run (ma u st) (kBind (fun ws=>M.bind (M.of (asDs ws)) fun ds=>M.bind (M.chk (ds.length=n)) fun _=>M.bind (lend u f ds) fun d=>M.pure (.val d)) kw):=run_bind _ _
def kOwn (k:Res α→Prop):Res α→Prop
 | .ok d st'=>k (.ok d (st'.map MO.nap))
 | .err c x st'=>k (.err c x (st'.map MO.nap))
 | .bad=>k .bad
@[simp] theorem kOwn_ok (d:α) (st'):kOwn k (.ok d st')=k (.ok d (st'.map MO.nap)):=rfl
@[simp] theorem kOwn_err (c x st'):kOwn k (.err c x st':Res α)=k (.err c x (st'.map MO.nap)):=rfl
@[simp] theorem kOwn_bad:kOwn k (.bad:Res α)=k .bad:=rfl
@[simp] theorem run_eMethRp (f:Str) (tb:List (String×(List D→M D))):run (eMethRp f tb mo ma u st) kw=run (mo u st) (kBind (fun w=>M.bind (insOf w) fun q=>M.bind (M.chk (q.2.2.lookup f=none)) fun _=>M.bind (M.of (tb.lookup q.2.1)) fun mf=>
 M.bind (ma u) fun ws=>M.bind (M.of (asDs ws)) fun ds=>M.bind (mf (.ref q.1 :: ds)) fun d=>M.pure (.val d)) kw):=run_bind _ _
@[simp] theorem run_eMethRs (X:Sl3→(List D→M D)→List D→M D) (f:Str) (tb:List (String×(List D→M D))):run (eMethRs X f tb mo m1 m2 u st) kw=run (mo u st) (kBind (fun w=>M.bind (insOf w) fun q=>M.bind (M.chk (q.2.2.lookup f=none)) fun _=>M.bind (M.of (tb.lookup q.2.1)) fun mf=>
 M.bind (m1 u) fun w1=>M.bind (M.of w1.d) fun d1=>M.bind (m2 u) fun w2=>M.bind (M.of (w2.d.bind D.items)) fun ds=>M.bind (X u mf (.ref q.1 :: d1 :: ds)) fun d=>M.pure (.val d)) kw):=run_bind _ _
@[simp] theorem lenF_ctup (xs:List D):lenF [.val (.ctup xs)]=some (.val (.int xs.length)):=rfl
def kStar (g:GM) (i:Nat) (u:Sl3) (ks:SRes→Prop):Res W→Prop
 | .ok w st'=>match w with
  | .val (.ctup (x :: xs))=>if xs.length≤1000 then kAsg2 st' ks ((g x u).map fun u'=>u'.set i (some (.val (.lst xs)))) else ks .bad
  | .val (.tup (x :: xs))=>if xs.length≤1000 then kAsg2 st' ks ((g x u).map fun u'=>u'.set i (some (.val (.lst xs)))) else ks .bad
  | _=>ks .bad
 | .err c x st'=>ks (.err c x u st')
 | .bad=>ks .bad
@[simp] theorem kStar_ctup (i:Nat) (x xs st'):kStar g i u ks (.ok (.val (.ctup (x :: xs))) st')=if xs.length≤1000 then kAsg2 st' ks ((g x u).map fun u'=>u'.set i (some (.val (.lst xs)))) else ks .bad:=rfl
@[simp] theorem srun_sAsgStar (i:Nat):srun (sAsgStar m g i u st) ks=run (m u st) (kStar g i u ks):=by
 unfold srun sAsgStar run kStar
 cases m u st with
 | ok w st'=>
  cases w with
  | val d=>
   cases d with
   | ctup xs=>cases xs with
    | nil=>rfl
    | cons x xs=>
     dsimp only
     split
     ·cases g x u <;> rfl
     ·rfl
   | tup xs=>cases xs with
    | nil=>rfl
    | cons x xs=>
     dsimp only
     split
     ·cases g x u <;> rfl
     ·rfl
   | _=>rfl
  | _=>rfl
 | _=>rfl
def kExit (mfx:List D→M D) (j:Nat) (ks:SRes→Prop) (r:SRes):Prop:=ks (sExit mfx j r)
@[simp] theorem kExit_rt {mfx:List D→M D} {j:Nat} {d:D} {r st'} (h:mfx [.ref j] st=.ok r st'):kExit mfx j ks (.rt (.val d) st)=ks (.rt (.val d) st'):=by
 unfold kExit sExit
 simp only[h]
@[simp] theorem kExit_nx {mfx:List D→M D} {j:Nat} {r st'} (h:mfx [.ref j] st=.ok r st'):kExit mfx j ks (.nx u st)=ks (.nx u st'):=by
 unfold kExit sExit
 simp only[h]
@[simp] theorem kExit_err {mfx:List D→M D} {j:Nat} {c x st'} (h:mfx [.ref j] st=.ok .non st'):kExit mfx j ks (.err c x u st)=ks (.err c x u st'):=by
 unfold kExit sExit
 simp only[h]
def kWithIn (mfx:List D→M D) (mb:SM) (u:Sl3) (ks:SRes→Prop):Res Nat→Prop
 | .ok j st'=>srun (mb u st') (kExit mfx j ks)
 | .err c x st'=>ks (.err c x u st')
 | .bad=>ks .bad
@[simp] theorem kWithIn_ok {mfx:List D→M D} {mb:SM} (j):kWithIn mfx mb u ks (.ok j st)=srun (mb u st) (kExit mfx j ks):=rfl
@[simp] theorem srun_sWith (c:String) (mfe mfx:List D→M D) (mb:SM):srun (sWith c mfe mfx m mb u st) ks=run (m u st) (kBind (fun w=>M.bind (insOf w) fun q=>M.bind (M.chk (q.2.1=c)) fun _=>M.bind (mfe [.ref q.1]) fun _=>M.pure q.1) (kWithIn mfx mb u ks)):=by
 rw[←run_bind]
 unfold srun sWith run kWithIn
 cases (M.bind (m u) (fun w=>M.bind (insOf w) fun q=>M.bind (M.chk (q.2.1=c)) fun _=>M.bind (mfe [.ref q.1]) fun _=>M.pure q.1) st) <;> rfl
end
end M3
namespace M3
open PySem PySem.Spec PyProof.Rows L2 LamX NdefX
def PostR (P:P3) (me:EM) (B0:Addr→Prop) (s:S3) (R:V→L2.St→Hp→Prop):SRes→Prop
 | .nx u' st'=>∀(B':Addr→Prop) (s':S3) (z':L2.St),(∀a,B0 a→B' a)→Le B0 s s'→Wd P.G B' st' s'→Slo P.G P.hx B0 B' s' u' z'→Post P.G B' (fun s d v=>Rep P.G.R s.F s.io d v) (fun c d H=>P.wx c d z' H) s' (fun v H=>R v z' H) (M.bind (me u') (fun w=>M.of w.d) st')
 | .err c x u' st'=>∀(B':Addr→Prop) (s':S3) (z':L2.St) (cv:Value) (dd:Option Addr),(∀a,B0 a→B' a)→Le B0 s s'→Wd P.G B' st' s'→Slo P.G P.hx B0 B' s' u' z'→ExR P.G s' c x cv dd→P.wx cv dd z' s'.H
 | _=>False
theorem PostR.mono {P:P3} {me:EM} {B0:Addr→Prop} {s s1:S3} {R:V→L2.St→Hp→Prop} {r:SRes} (l:Le B0 s s1) (h:PostR P me B0 s R r):PostR P me B0 s1 R r:=by
 cases r with
 | nx u' st'=>exact fun B' s' z' b l' w r=>h B' s' z' b (l.trans l') w r
 | err c x u' st'=>exact fun B' s' z' cv dd b l' w r=>h B' s' z' cv dd b (l.trans l') w r
 | _=>exact h
end M3
namespace M3
open PySem PySem.Spec PyProof.Rows L2 LamX NdefX
end M3
namespace M3
open PySem PySem.Spec PyProof.Rows L2 LamX NdefX
end M3
namespace M3
open PySem PySem.Spec PyProof.Rows L2
section
variable {Pg:Program} {w:World} {K:PySem.W.Frag} {mg:Str→Option Value} {base b:Heap} {G:G3} {k n:Nat} {x f:Str} {c:String} {m:List D→M D} {w':Nat→Option Addr}
theorem FnQ.imp {f:Addr} {fd:FuncData} {ps:List Str} {sp sp':List (Option V)→Hp→VK→Prop} (F:FnQ Pg w K mg base k f fd ps sp) (h:∀ws H Q,sp' ws H Q→sp ws H Q):FnQ Pg w K mg base k f fd ps sp':=
 ⟨fun A outer s H args us ws Q a1 a2 a3 a4 a5 a6 a7=>F.run A outer s H args us ws Q a1 a2 a3 a4 a5 a6 (h _ _ _ a7)⟩
end
end M3
namespace M3
end M3
namespace M3
open PySem
end M3
namespace M3
open PySem PySem.Spec PyProof.Rows L2
def eIxS (i:Int) (ma:EM):EM:=fun u=>M.bind (ma u) fun w=>M.bind (lstOf w) fun q=>M.of ((atI q.2 i).map W.val)
section
variable {kw:Res W→Prop} {st:Store} {u:Sl3} {ma:AM} {m:EM}
@[simp] theorem run_eIxS (i:Int):run (eIxS i m u st) kw=run (m u st) (kBind (fun w=>M.bind (lstOf w) fun q=>M.of ((atI q.2 i).map W.val)) kw):=run_bind _ _
@[simp] theorem run_eCallRp (f:List D→M D):run (eCallRp f ma u st) kw=run (ma u st) (kBind (fun ws=>M.bind (M.of (asDs ws)) fun ds=>M.bind (f ds) fun d=>M.pure (.val d)) kw):=run_bind _ _
end
end M3
namespace M3
open PySem PySem.Spec PyProof.Rows L2 NdefX
end M3
namespace M3
open PySem PySem.Spec PyProof.Rows L2
def sRaiseT (c:String) (me:EM):SM:=fun u st=>match me u st with
 | .ok (.val (.str _)) st'=>.err c .non u st'
 | _=>.bad
section
variable {ks:SRes→Prop} {st:Store} {u:Sl3} {m:EM}
def kRaiseT (c:String) (u:Sl3) (ks:SRes→Prop):Res W→Prop
 | .ok (.val (.str _)) st'=>ks (.err c .non u st')
 | _=>ks .bad
@[simp] theorem kRaiseT_ok (c:String) (y:Str):kRaiseT c u ks (.ok (.val (.str y)) st)=ks (.err c .non u st):=rfl
@[simp] theorem srun_sRaiseT (c:String):srun (sRaiseT c m u st) ks=run (m u st) (kRaiseT c u ks):=by
 unfold srun sRaiseT run kRaiseT
 cases m u st with
 | ok w st'=>cases w with
  | val d=>cases d <;> rfl
  | _=>rfl
 | _=>rfl
end
end M3
namespace M3
open PySem PySem.Spec PyProof.Rows L2
end M3
namespace M3
open PySem PySem.Spec PyProof.Rows L2
end M3
namespace M3
open PySem PySem.Spec PyProof.Rows L2
def ePopS (m:EM):EM:=fun u=>M.bind (m u) fun w=>M.bind (lstOf w) fun q=>fun st=>match q.2.getLast? with
 | some d=>.ok (.val d) (st.set q.1 (.lst q.2.dropLast))
 | none=>.bad
section
variable {kw:Res W→Prop} {st:Store} {u:Sl3} {m:EM}
@[simp] theorem run_ePopS:run (ePopS m u st) kw=run (m u st) (kBind (fun w=>M.bind (lstOf w) fun q=>fun st=>match q.2.getLast? with
 | some d=>.ok (.val d) (st.set q.1 (.lst q.2.dropLast))
 | none=>.bad) kw):=run_bind _ _
end
end M3
namespace M3
open PySem PySem.Spec PyProof.Rows L2
def eSlS (m:EM) (l h:PM):EM:=fun u=>M.bind (m u) fun x=>M.bind (l u) fun a=>M.bind (h u) fun b=>M.bind (lstOf x) fun q=>M.pure (.val (.lst (cutD q.2 a b)))
section
variable {kw:Res W→Prop} {st:Store} {u:Sl3} {m:EM} {l h:PM}
@[simp] theorem run_eSlS:run (eSlS m l h u st) kw=run (m u st) (kBind (fun x=>M.bind (l u) fun a=>M.bind (h u) fun b=>M.bind (lstOf x) fun q=>M.pure (.val (.lst (cutD q.2 a b)))) kw):=run_bind _ _
end
end M3
namespace M3
open PySem PySem.Spec PyProof.Rows L2
def eEqS (neg:Bool) (mo m:EM):EM:=fun u=>M.bind (mo u) fun w=>M.bind (lstOf w) fun _=>M.bind (m u) fun y=>M.bind (lstOf w) fun q=>M.of (eqF neg (.bor q.2) y)
section
variable {u:Sl3} {st:Store} {neg:Bool} {mo m:EM} {kw:Res W→Prop}
@[simp] theorem run_eEqS:run (eEqS neg mo m u st) kw=run (mo u st) (kBind (fun w=>M.bind (lstOf w) fun _=>M.bind (m u) fun y=>M.bind (lstOf w) fun q=>M.of (eqF neg (.bor q.2) y)) kw):=run_bind _ _
end
end M3
namespace M3
open PySem PySem.Spec PyProof.Rows L2
def lcS (w:W) (g:GM) (c:TM) (e:EM) (u0:Sl3):Nat→Nat→List D→M (List D)
 | 0,_,_=>M.bad
 | n+1,i,acc=>M.bind (lstOf w) fun q=>match q.2[i]? with
  | none=>M.pure acc
  | some d=>M.bind (M.of (g d u0)) fun u1=>M.bind (M.quiet (c u1)) fun k=>
   if k=true then M.bind (M.quiet (e u1)) fun y=>M.bind (M.of y.d) fun x=>M.bind (M.chk (acc.length<1000000)) fun _=>lcS w g c e u0 n (i+1) (acc++[x])
   else lcS w g c e u0 n (i+1) acc
def fLcS (fuel:Nat) (m:EM) (g:GM) (c:TM) (e:EM) (own:List Nat):FM:=fun u=>M.bind (m u) fun w=>M.bind (lstOf w) fun _=>lcS w g c e (wipe3 u own) fuel 0 []
section
variable {u:Sl3} {st:Store} {fuel:Nat} {gm:GM} {t:TM} {m ml:EM} {own:List Nat} {kf:Res (List D)→Prop}
@[simp] theorem run_fLcS:run (fLcS fuel ml gm t m own u st) kf=run (ml u st) (kBind (fun w=>M.bind (lstOf w) fun _=>lcS w gm t m (wipe3 u own) fuel 0 []) kf):=run_bind _ _
end
end M3
namespace M3
open PySem PySem.Spec PyProof.Rows L2 LamX NdefX
end M3
namespace M3
open PySem PySem.Spec PyProof.Rows L2
def eIxSX (ma mb:EM):EM:=fun u=>M.bind (ma u) fun w=>M.bind (mb u) fun wi=>M.bind (lstOf w) fun q=>match wi with
 | .val (.int i)=>M.of ((atI q.2 i).map W.val)
 | _=>M.bad
section
variable {kw:Res W→Prop} {st:Store} {u:Sl3} {ma mb:EM}
@[simp] theorem run_eIxSX:run (eIxSX ma mb u st) kw=run (ma u st) (kBind (fun w=>M.bind (mb u) fun wi=>M.bind (lstOf w) fun q=>match wi with
 | .val (.int i)=>M.of ((atI q.2 i).map W.val)
 | _=>M.bad) kw):=run_bind _ _
end
end M3
namespace M3
open PySem PySem.Spec PyProof.Rows L2
namespace RevT
open HT PySem.SeqAt PySem.MeetsSeq PySem.MeetsSeq2 PySem.MeetsSeq3
theorem fm_congr {α β:Type} {f g:α→Option β}:∀{l:List α},(∀x∈l,f x=g x)→l.filterMap f=l.filterMap g
 | [],_=>rfl
 | x :: l,h=>by
  rw[List.filterMap_cons,List.filterMap_cons,h x List.mem_cons_self,fm_congr (l:=l) fun y hy=>h y (List.mem_cons_of_mem _ hy)]
theorem many (n:Nat):Builtin.Slice.slicePlaces ((n:Int) - 1) (-1) (-1)=n:=by
 cases n with
 | zero=>rfl
 | succ m=>
  have one:(-(-1):Int)=1:=rfl
  simp only[Builtin.Slice.slicePlaces,one,Int.ediv_one]
  rw[if_neg (by decide),if_pos (by omega)]
  omega
theorem picked (its:Array Value):((List.range its.size).filterMap fun (m:Nat)=>its[((its.size:Int) - 1+(m:Int) * (-1)).toNat]?).toArray=its.toList.reverse.toArray:=by
 have turned:(List.range its.size).filterMap (fun (m:Nat)=>its[((its.size:Int) - 1+(m:Int) * (-1)).toNat]?)=((List.range its.size).map fun k=>its.size - 1 - k).filterMap (its[·]?):=by
  rw[List.filterMap_map]
  apply fm_congr
  intro m hm
  have lt:=List.mem_range.mp hm
  have same:((its.size:Int) - 1+(m:Int) * (-1)).toNat=its.size - 1 - m:=by omega
  simp only[Function.comp,same]
 rw[turned,PySem.W.krv_range,List.filterMap_reverse,PySem.W.krv_all]
section
variable {pg:Program} {wd:World} {Ar:Around} {Er:Value→Shared→Prop} {now:Shared} {tp cutAt:Addr} {its:Array Value} {v1 v2 v3:Value}
theorem applied {n:Nat} {Go:Int×Int×Nat→Shared→Prop} (cut:now.heap.IsSliceOf cutAt v1 v2 v3) (b1:IsPart v1 none) (b2:IsPart v2 none) (b3:IsPart v3 (some (-1))) (go:Go ((n:Int) - 1,-1,n) now) :
  wpAny (model pg wd) Ar (Builtin.Slice.sliceApplied (.ref cutAt) (pure (n:Int))) Go Er now:=by
 rcases cut with⟨ob,here,-,parts⟩
 have last:wpAny (model pg wd) Ar (pure ((n:Int) - 1,(-1:Int),Builtin.Slice.slicePlaces ((n:Int) - 1) (-1) (-1))) Go Er now:=wpAny_pure (by rw[many];exact go)
 have bounds:wpAny (model pg wd) Ar (Builtin.Slice.slicePartIndex v1 >>= fun lo=>Builtin.Slice.slicePartIndex v2 >>= fun hi=>pure (n:Int) >>= fun m=>match Builtin.Slice.sliceAdjust lo hi (-1) m with | (x,y)=>pure (x,(-1:Int),Builtin.Slice.slicePlaces x y (-1))) Go Er now:=
  wpAny_bind (slicePart_ b1 (wpAny_bind (slicePart_ b2 (wpAny_bind (wpAny_pure last)))))
 simp only[Builtin.Slice.sliceApplied,Builtin.Slice.sliceFields]
 apply wpAny_bind
 apply wpAny_bind
 apply wpAny_field here parts (x:=v1) rfl
 apply wpAny_bind
 apply wpAny_field here parts (x:=v2) rfl
 apply wpAny_bind
 apply wpAny_field here parts (x:=v3) rfl
 apply wpAny_pure
 apply wpAny_bind
 apply slicePart_ b3
 exact bounds
theorem item {Go:Value→Shared→Prop} (tup:IsTup now.heap tp its) (cut:now.heap.IsSliceOf cutAt v1 v2 v3) (b1:IsPart v1 none) (b2:IsPart v2 none) (b3:IsPart v3 (some (-1))) (room:its.size≤sizeLine)
  (go:Go (.ref now.heap.objs.size) { now with heap:=now.heap.push { cls:=.type "tuple",data:=.seq its.toList.reverse.toArray } }):wpAny (model pg wd) Ar (getItem (.ref tp) (.ref cutAt)) Go Er now:=by
 have kind:now.TypeIs (.ref cutAt) "slice":=by rcases cut with⟨ob,here,cl,-⟩;exact⟨ob,here,cl⟩
 have fits:sizeOk (.seq its.toList.reverse.toArray):=(by rw[List.size_toArray,List.length_reverse,Array.length_toList];exact room:its.toList.reverse.toArray.size≤sizeLine)
 have other:((((its.size:Int) - 1) == 0 && (-1:Int) == 1 && its.size == its.size)=true)=False:=by simp
 simp only[getItem]
 try with_reducible apply wpAny_holding
 try (apply wpAny_bind;apply wpAny_pure)
 apply wpAny_bind
 apply wpAny_sequenceKey tup.typeIs (by decide)
 apply wpAny_bind
 apply wpAny_callSpecial?_slot (name:=Str.ofString "__getitem__") tup.typeIs PyProof.Rows.slot_tuple_getitem
 refine wpAny_call_entry PyProof.Rows.slot_tuple_getitem tup.typeIs entry_tuple_getitem ?inside (args_tuple_getitem _ _)
 case inside=>
  apply wpAny_bind (m:=Builtin.Tuple.tupleItemsOf (.ref tp))
  apply tupleItemsOf_ tup
  apply wpAny_bind
  apply wpAny_typeOf kind
  rw[if_pos (by decide)]
  apply wpAny_bind
  apply applied cut b1 b2 b3
  show wpAny _ _ (if ((((its.size:Int) - 1) == 0 && (-1:Int) == 1 && its.size == its.size)=true) then _ else _) _ _ now
  simp only[other,if_false,picked]
  apply wpAny_bind
  apply wpAny_newObj_type _ fits
  exact wpAny_pure ⟨_,rfl,wpAny_pure go⟩
end
end RevT
end M3
namespace M3
open PySem PySem.Spec PyProof.Rows L2
def PostD (G:G3) (B:Addr→Prop) (E:XK) (s:S3) (Q:VK):Res (List Key×List D)→Prop
 | .ok r st'=>∀(s':S3) (p:Addr) (kvs:List (Key×V)),Le B s s'→Wd G (plus B p) st' s'→¬B p→s'.H p=some (.dK kvs)→kvs.map (·.1)=r.1→RepL G.R s'.F s'.io r.2 (kvs.map (·.2))→Q (.ref p) s'.H
 | .err c x st'=>∀(s':S3) (cv:Value) (dd:Option Addr),Le B s s'→Wd G B st' s'→ExR G s' c x cv dd→E cv dd s'.H
 | .bad=>False
def spMD (G:G3) (n:Nat) (m:List D→M (List Key×List D)):Sp:=fun vs H Q E=>vs.length=n∧∃(B:Addr→Prop) (s:S3) (st:Store) (ds:List D),s.H=H∧Wd G B st s∧RepL G.R s.F s.io ds vs∧PostD G B E s Q (m ds st)
structure CalOD (Pg:Program) (w:World) (K:PySem.W.Frag) (mg:Str→Option Value) (base:Heap) (G:G3) (k:Nat) (x:Str) (n:Nat) (m:List D→M (List Key×List D)):Prop where
 ex:∃f fd ps,mg x=some (.ref f)∧PySem.W.keepIn K (.ref f)=true∧Binds K fd ps []∧ps.length=n∧FnOk Pg w K mg base (CXq Pg w) k f fd ps (spMD G n m)
def mCallD (n:Nat) (m:List D→M (List Key×List D)) (ma:AM):Sl3→M (List Key×List D):=fun u=>M.bind (ma u) fun ws=>M.bind (M.of (asDs ws)) fun ds=>M.bind (M.chk (ds.length=n)) fun _=>m ds
def sSetCD (i n:Nat) (m:List D→M (List Key×List D)) (ma:AM):SM:=fun u st=>match mCallD n m ma u st with
 | .ok r st'=>.nx (u.set i (some (.bod r.1 r.2))) st'
 | .err c x st'=>.err c x u st'
 | .bad=>.bad
section
variable {Pg:Program} {w:World} {K:PySem.W.Frag} {mg:Str→Option Value} {base b:Heap} {G:G3} {k n:Nat} {x:Str} {m:List D→M (List Key×List D)}
theorem spMD_nap (hb:KnowsTo G.base b) {vs:List V} {H:Hp} {Q:VK} {E:XK} (h:spMD G n (nap m) vs H Q E):spMD (G.at b) n m vs H Q E:=by
 obtain⟨hl,B,s,st,ds,e,wd,rl,hp⟩:=h
 refine⟨hl,B,s,_,ds,e,wd.nap hb,rl,?_⟩
 unfold nap at hp
 cases em:m ds (st.map MO.nap) with
 | ok d st'=>rw[em] at hp;exact fun s' p kvs l w nb hq ek r=>hp s' p kvs l (wd.back l w) nb hq ek r
 | err c x st'=>rw[em] at hp;exact fun s' cv dd l w' r=>hp s' cv dd l (wd.back l w') r
 | bad=>rw[em] at hp;exact hp
theorem CalOD.nap (h:CalOD Pg w K mg base (G.at b) k x n m) (hb:KnowsTo G.base b):CalOD Pg w K mg base G k x n (M3.nap m):=by
 obtain⟨f,fd,ps,a1,a2,a3,a4,F⟩:=h.ex
 exact⟨f,fd,ps,a1,a2,a3,a4,F.imp fun _ _ _ _ h=>spMD_nap hb h⟩
end
section
variable {u:Sl3} {st:Store} {ks:SRes→Prop} {kd:Res (List Key×List D)→Prop}
def kRetD (k:Res (List Key×List D)→Prop):SRes→Prop
 | .rt (.bod xs us) st=>k (.ok (xs,us) st)
 | .err c x _ st=>k (.err c x st)
 | _=>k .bad
@[simp] theorem kRetD_bod (xs us):kRetD kd (.rt (.bod xs us) st)=kd (.ok (xs,us) st):=rfl
@[simp] theorem kRetD_bad:kRetD kd .bad=kd .bad:=rfl
@[simp] theorem kRetD_err (c x):kRetD kd (.err c x u st)=kd (.err c x st):=rfl
def kSetCD (i:Nat) (u:Sl3) (k:SRes→Prop):Res (List Key×List D)→Prop
 | .ok r st'=>k (.nx (u.set i (some (.bod r.1 r.2))) st')
 | .err c x st'=>k (.err c x u st')
 | .bad=>k .bad
@[simp] theorem kSetCD_ok (i) (r):kSetCD i u ks (.ok r st)=ks (.nx (u.set i (some (.bod r.1 r.2))) st):=rfl
@[simp] theorem kSetCD_bad (i):kSetCD i u ks .bad=ks .bad:=rfl
@[simp] theorem kSetCD_err (i) (c x):kSetCD i u ks (.err c x st)=ks (.err c x u st):=rfl
@[simp] theorem run_sSetCD (i n:Nat) (m:List D→M (List Key×List D)) (ma:AM):srun (sSetCD i n m ma u st) ks=M3.run (ma u st) (kBind (fun ws=>M.bind (M.of (asDs ws)) fun ds=>M.bind (M.chk (ds.length=n)) fun _=>m ds) (kSetCD i u ks)):=by
 rw[←run_bind]
 unfold srun sSetCD M3.run kSetCD mCallD
 cases M.bind (ma u) (fun ws=>M.bind (M.of (asDs ws)) fun ds=>M.bind (M.chk (ds.length=n)) fun _=>m ds) st <;> rfl
end
end M3
namespace M3
open PySem PySem.Spec PyProof.Rows L2
structure Clause where
 c:Value
 sl:Option Nat
 ts:Addr→Value→Option Addr→TS
def Clause.slots (e:Addr) (z:L2.St):Option Nat→L2.St
 | none=>z
 | some i=>z.set i (some (.ref e))
section
variable {X:Cx} {body:List Stmt} {h0:ExceptHandler} {hs:List ExceptHandler} {qs:List Clause} {pos:Pos} {tb:WX→TS} {W0:WX}
structure Landed (X:Cx) (pins:List (Addr×Obj)) (σ:L2.St) (H:Hp) (B:Heap) (e:Addr) (cv:Value) (dd:Option Addr) (s:Shared):Prop where
 inv:Inv X pins σ H s
 at_:HandSPX.FlyingZ B (X.env :: X.outer) e (Zq X cv dd) s.heap
 free:H e=none
 notL:e≠X.env.locals
 notF:e∉X.fs
theorem Landed.frames {B:Heap} {e:Addr} {Z:Obj→Prop} {s:Shared} (f:HandSPX.FlyingZ B (X.env :: X.outer) e Z s.heap) {o:Obj} {vs:Array Value} (ho:s.heap.get? e=some o) (hd:o.data=.fields vs):e∉frs (X.env :: X.outer):=fun m=>by
 obtain⟨_,o2,q2,n2⟩:=f.2.2.1.mem m
 rw[ho] at q2
 cases q2
 exact n2 _ hd
theorem SP.back {e:Addr} {ob:Obj} {pins:List (Addr×Obj)} {D:Ends} {f:Flow} {s:Shared} (ok:X.Ok) (h:SP (X.suite e ((e,ob) :: (X.pn++pins))) [] D f s):SP X pins D f s:=by
 cases f <;> first
  | (obtain⟨v,z,H,I,r,q⟩:=h;exact⟨v,z,H,I.unsuite ok,r,q⟩)
  | (obtain⟨z,H,I,q⟩:=h;exact⟨z,H,I.unsuite ok,q⟩)
end
def sTryA (i:Nat) (sub1:String→Option Bool) (ms1:SM) (sub2:String→Option Bool) (ms2:SM) (mb:SM):SM:=fun u st=>match mb u st with
 | .err c x u' st'=>match sub1 c with
  | some true=>if noExn u'=true then sSuite (some i) ms1 c x u' st' else .bad
  | some false=>match sub2 c with
   | some true=>if noExn u'=true then sSuite none ms2 c x u' st' else .bad
   | some false=>.err c x u' st'
   | none=>.bad
  | none=>.bad
 | r=>r
section
variable {u:Sl3} {st:Store} {ks:SRes→Prop}
def kTryA (i:Nat) (sub1:String→Option Bool) (ms1:SM) (sub2:String→Option Bool) (ms2:SM) (k:SRes→Prop):SRes→Prop
 | .err c x u' st'=>srun (match sub1 c with
  | some true=>if noExn u'=true then sSuite (some i) ms1 c x u' st' else .bad
  | some false=>match sub2 c with
   | some true=>if noExn u'=true then sSuite none ms2 c x u' st' else .bad
   | some false=>.err c x u' st'
   | none=>.bad
  | none=>.bad) k
 | r=>k r
@[simp] theorem run_sTryA (i:Nat) (sub1 sub2) (ms1 ms2 mb:SM):srun (sTryA i sub1 ms1 sub2 ms2 mb u st) ks=srun (mb u st) (kTryA i sub1 ms1 sub2 ms2 ks):=by
 unfold srun sTryA kTryA
 cases mb u st <;> rfl
@[simp] theorem kTryA_nx (i:Nat) (sub1 sub2) (ms1 ms2:SM):kTryA i sub1 ms1 sub2 ms2 ks (.nx u st)=ks (.nx u st):=rfl
@[simp] theorem kTryA_rt (i:Nat) (sub1 sub2) (ms1 ms2:SM) (w):kTryA i sub1 ms1 sub2 ms2 ks (.rt w st)=ks (.rt w st):=rfl
end
end M3
namespace M3
open PySem PySem.Spec PyProof.Rows L2
def fListDD (ma:AM):FM:=fun u=>M.bind (ma u) fun ws=>match ws with
 | [.val (.dd ks _)]=>M.bind (M.chk (ks.length≤1000000)) fun _=>M.pure ks
 | _=>M.bad
@[simp] theorem run_fListDD (ma:AM) {u:Sl3} {st:Store} {kl:Res (List D)→Prop}:M3.run (fListDD ma u st) kl=M3.run (ma u st) (kBind (fun ws=>match ws with
 | [.val (.dd ks _)]=>M.bind (M.chk (ks.length≤1000000)) fun _=>M.pure ks
 | _=>M.bad) kl):=run_bind _ _
end M3
namespace M3
open PySem PySem.Spec PyProof.Rows L2
def eIsI (tab:List (String×Bool)) (m:EM):EM:=fun u=>M.bind (m u) fun w=>M.bind (insOf w) fun q=>M.bind (M.of (tab.lookup q.2.1)) fun b=>M.pure (.val (.bl b))
section
variable {u:Sl3} {st:Store} {kw:Res W→Prop}
@[simp] theorem run_eIsI (tab:List (String×Bool)) (m:EM):M3.run (eIsI tab m u st) kw=M3.run (m u st) (kBind (fun w=>M.bind (insOf w) fun q=>M.bind (M.of (tab.lookup q.2.1)) fun b=>M.pure (.val (.bl b))) kw):=run_bind _ _
end
end M3
namespace M3
open PySem PySem.Spec PyProof.Rows L2
end M3
namespace M3
open PySem PySem.Spec PyProof.Rows L2
section
variable {k j:Nat} {A:Around} {s0:Shared} {H0:Hp} {fs ex:List Addr}
theorem RoomS.units (r:RoomS k A s0 H0 fs ex):A.units+64<cLine:=by have:=r.un;omega
end
section
variable {P:Program} {w:World} {K:PySem.W.Frag} {mg:Str→Option Value} {base:Heap}
abbrev FnOk0 (P:Program) (w:World) (K:PySem.W.Frag) (mg:Str→Option Value) (base:Heap) (k:Nat) (f:Addr) (fd:FuncData) (ps:List Str) (sp:Sp):Prop:=L2.FnOk P w K mg base (CXq P w none) k f fd ps sp
theorem low0 {k:Nat} {f:Addr} {fd:FuncData} {ps:List Str} {sp:Sp} (F:FnOk0 P w K mg base k f fd ps sp):L2.FnOk P w K mg base (L2.CX P w) k f fd ps sp:=⟨F.len,fun A outer s H args us vs Q E hr e b r q=>codeAny_mono (F.run A outer s H args us vs Q E hr e b r q) fun r s' h=>match r,h with
 | .ok (.ret _),h=>h
 | .error _,h=>h.zc⟩
theorem body_sp {G:G3} {hx:Hex} (hK:K=G.K) (hw:w=G.w) {N:List Str} {n:Nat} {mb:SM} {body:List Stmt} {X:Cx} {E:XK} (eK:X.K=G.K) (ew:X.w=G.w) (m:MSs ⟨X,G,none,fun cls d _ H=>E cls d H,eK,ew⟩ body mb) {vs:List V} {H:Hp} {Q:VK} (q:spM G n (mfn N.length mb) vs H Q E) :
  ∃t,PSs X body t∧t { nx:=fun _ H'=>Q .non H',rt:=Q } (L2.start N vs) H:=by
 obtain⟨hl,B,s,o,ds,e,wd,rl,hp⟩:=q
 subst e
 obtain⟨t,pt,ht⟩:=m.out
 refine⟨t,pt,ht B B s o _ _ _ (fun _ b=>b) wd (slo_start (N:=N) rl) ?_⟩
 unfold mfn at hp
 cases em:mb (ds.map (fun d=>some (.val d))++List.replicate (N.length - ds.length) none) o with
 | nx u' st'=>rw[em] at hp;exact fun B' s' z' b l w sl=>hp s' .non l (w.less b) .non
 | rt w st'=>
  rw[em] at hp
  cases w with
  | val d=>exact fun B' s' v b l w r=>hp s' v l (w.less b) r
  | bor xs=>
   rintro B' s' v b l w ⟨p,vs',rfl,bp,nb,hq,r⟩
   have w':Wd G (plus B p) st' s':=w.less fun a q=>q.elim (b a) fun z=>z▸bp
   exact hp ⟨s'.io,upd s'.F p (.lst vs'),s'.H⟩ (.ref p) (l.trans (freeze_le w')) (freeze_wd w' nb hq) (.lst upd_same (r.mono (freeze_le w').fr (freeze_le w').io))
  | bod ks us=>exact hp.elim
  | bdd ks us=>exact hp.elim
  | exn c x=>exact hp.elim
  | len xs=>exact hp.elim
 | bk u' st'=>rw[em] at hp;exact hp.elim
 | ct u' st'=>rw[em] at hp;exact hp.elim
 | err c x u' st'=>rw[em] at hp;exact fun B' s' z' cv dd b l w sl q=>hp s' cv dd l (w.less b) q
 | bad=>rw[em] at hp;exact hp.elim
theorem fn_ok0 {G:G3} (hK:K=G.K) (hw:w=G.w) {x qual:Str} {st:Stmt} {f:Addr} {fd:FuncData} {N ps:List Str} {k:Nat} {mb:SM} (F:Fun K x qual st f fd) (S:FnScope N ps (defScope st))
  (h:∀(cdv:Value) (A:Around) (outer:List Env) (s:Shared) (H:Hp) (E:XK),Room k (cxOf (CXq P w) P w K mg base N qual (defScope st) f cdv A outer s H E)→A.handled=none→
   MSs ⟨cxOf (CXq P w) P w K mg base N qual (defScope st) f cdv A outer s H E,G,none,fun cls d _ H=>E cls d H,hK,hw⟩ (defBody st) mb) :
  FnOk0 P w K mg base (k+1) f fd ps (spM G ps.length (mfn N.length mb)):=by
 obtain⟨oc,od,kV,doc,pm,an,cdv,ct,osl,rfl,lk,hcd⟩:=F.ex
 refine⟨fun vs H Q E h=>h.1,fun A outer s H args us vs Q E hr e0 hb r q=>?_⟩
 have rc:RoomC (k+1) A outer H s:=.of hr
 have slots:∀y∈ps.zip us,(defScope st).names.lookup y.1=some .local∨((defScope st).names.lookup y.1=some .cell∧((cellsFrom (s.heap.objs.size+1) (defScope st).names []).lookup y.1).isSome=true):=fun y hy=>
  (S.par y.1 (List.of_mem_zip hy).1).imp id fun q=>⟨q,PySem.W.cellsFrom_some _ _ _ (.inl q)⟩
 have KX:K.In s.heap:=e0.mod.kin.keeps fun b o e=>(e0.bs b o e).1
 refine codeAny_call_function rc.depth (KX _ _ lk) rfl S.co S.gen rfl (PySem.W.codeRec_of KX hcd) (hb _ _ _ _ (wpAny_newFunctionEnv_cells S.kind slots ?_))
 rintro env rfl s1 x
 refine⟨(e0.mod.nolimit.keeps fun b o e=>(e0.bs b o e).1).keeps x.toInCall.keep,codeAny_func ?_⟩
 obtain⟨t,ht,y⟩:=body_sp (hx:=none) hK hw hK hw (h cdv A outer s H E rc.inside hr.hd) q
 have fin:=body_end (CX:=CXq P w A.handled) (s0:=s) ht (inv_start S rc.hot e0 q.1 r x) rfl rfl rfl (Un.kept fun _ _ e=>e) y fun e s' h=>h
 rw[hr.hd] at fin
 exact fin
end
section
variable {X:Cx} {P:P3} {pos p:Pos} {x:Str} {e:Expr} {es:List Expr} {ma:AM} {m:List D→M D} {k j n:Nat} {pins:List (Addr×Obj)} {z:L2.St} {H:Hp} {s:Shared}
structure RoomW (k:Nat) (X:Cx):Prop where
 dp:X.A.depth+3 * k+5<recursionLimit
 un:X.A.units+16 * k+200<cLine
 hot:∀(pins:List (Addr×Obj)) (z:L2.St) (H:Hp) (s:Shared),Inv X pins z H s→HotO X.A X.stack H s
theorem RoomW.mono (r:RoomW k X) (h:j≤k):RoomW j X:=⟨by have:=r.dp;omega,by have:=r.un;omega,r.hot⟩
theorem RoomW.call (r:RoomW k X) (I:Inv X pins z H s):RoomC k X.A X.stack H s:=⟨r.dp,r.un,r.hot _ _ _ _ I⟩
end
end M3
namespace M3
open PySem PySem.Spec PyProof.Rows L2 PySem.W PySem.Calls
end M3
namespace PySem.SeqAt
open AutoSeq1 (wpAny_loadPart')
open MeetsSeq MeetsSeq2 MeetsSeq3 SeqRoads2
end PySem.SeqAt
namespace M3
open PySem PySem.Spec PyProof.Rows L2 PySem.W PySem.Calls
end M3
namespace M3
open PySem PySem.Spec PyProof.Rows L2 PySem.W PySem.Calls
end M3
namespace M3
open PySem PySem.Spec PyProof.Rows L2 PySem.W PySem.Calls
end M3
namespace M3
open PySem PySem.Spec PyProof.Rows L2 PySem.W PySem.Calls
end M3
namespace M3
open PySem PySem.Spec PyProof.Rows L2 PySem.W PySem.Calls
end M3
namespace M3
open PySem PySem.Spec PyProof.Rows L2 PySem.W PySem.Calls
end M3
namespace M3
open PySem PySem.Spec PyProof.Rows L2 PySem.W PySem.Calls
theorem Wd.dead {G:G3} {B:Addr→Prop} {st:Store} {s:S3} (w:Wd G B st s) (C:Addr):Wd G B (st++[.dead]) ⟨ioNew s.io st.length C,s.F,s.H⟩∧Le B s ⟨ioNew s.io st.length C,s.F,s.H⟩∧ioNew s.io st.length C st.length=some C:=by
 have hio:IoLe s.io (ioNew s.io st.length C):=fun k a e=>by
  have:=w.dom k a e
  unfold ioNew
  rw[if_neg (by omega)]
  exact e
 have old:∀{k:Nat} {o:MO},(st++[MO.dead])[k]?=some o→o.tr=true→k<st.length∧st[k]?=some o:=fun {k o} e t=>by
  rcases Nat.lt_trichotomy k st.length with q | q | q
  ·rw[List.getElem?_append_left q] at e
   exact⟨q,e⟩
  ·subst q
   rw[List.getElem?_append_right (Nat.le_refl _),Nat.sub_self] at e
   cases e
   cases t
  ·rw[List.getElem?_eq_none (by simp;omega)] at e
   cases e
 have ioo:∀{k:Nat},k<st.length→ioNew s.io st.length C k=s.io k:=fun {k} h=>by
  unfold ioNew
  rw[if_neg (by omega)]
 refine⟨⟨w.sub,w.hid,w.ftb,fun k a e=>?_,fun j k a oj ok e1 e2 q1 t1 q2 t2=>?_,fun k o e t=>?_,fun k o e t=>?_,w.tabM (Same.refl _) fun P ps e=>e⟩,⟨hio,Same.refl _,fun _ _=>rfl⟩,if_pos rfl⟩
 ·rw[List.length_append]
  have e:(if k=st.length then some C else s.io k)=some a:=e
  by_cases q:k=st.length
  ·rw[q];simp
  ·rw[if_neg q] at e
   have:=w.dom k a e
   simp;omega
 ·obtain⟨l1,q1⟩:=old q1 t1
  obtain⟨l2,q2⟩:=old q2 t2
  have e1:s.io j=some a:=(ioo l1).symm.trans e1
  have e2:s.io k=some a:=(ioo l2).symm.trans e2
  exact w.inj j k a oj ok e1 e2 q1 t1 q2 t2
 ·obtain⟨l1,q1⟩:=old e t
  obtain⟨a,h1,h2,h3,h4⟩:=w.obj k o q1 t
  exact⟨a,hio k a h1,h2,h3,ObjR.mono (s':=⟨ioNew s.io st.length C,s.F,s.H⟩) hio (Same.refl _) rfl h4⟩
 ·rcases Nat.lt_trichotomy k st.length with q | q | q
  ·rw[List.getElem?_append_left q] at e
   exact w.untM (s':=⟨ioNew s.io st.length C,s.F,s.H⟩) hio (Same.refl _) k o e t
  ·subst q
   rw[List.getElem?_append_right (Nat.le_refl _),Nat.sub_self] at e
   cases e
   exact⟨C,if_pos rfl,True.intro⟩
  ·rw[List.getElem?_eq_none (by simp;omega)] at e
   cases e
end M3
namespace M3
open PySem PySem.Spec PyProof.Rows L2 PySem.W PySem.Calls
end M3
namespace M3
open PySem PySem.Spec PyProof.Rows L2
end M3
namespace M3
open PySem PySem.Spec PyProof.Rows L2
end M3
namespace M3
open PySem PySem.Spec PyProof.Rows L2
end M3
namespace M3
open PySem PySem.Spec PyProof.Rows L2
end M3
namespace M3
open PySem PySem.Spec PyProof.Rows L2
def eIsDD (ma:AM):EM:=fun u=>M.bind (ma u) fun ws=>match ws with
 | [w,.val (.ty T)]=>M.bind (ddOf w) fun _=>M.bind (M.of (kitB "dict" T)) fun b=>M.pure (.val (.bl b))
 | _=>M.bad
@[simp] theorem run_eIsDD (ma:AM) {u:Sl3} {st:Store} {kw:Res W→Prop}:M3.run (eIsDD ma u st) kw=M3.run (ma u st) (kBind (fun ws=>match ws with
 | [w,.val (.ty T)]=>M.bind (ddOf w) fun _=>M.bind (M.of (kitB "dict" T)) fun b=>M.pure (.val (.bl b))
 | _=>M.bad) kw):=run_bind _ _
def eClrDD (mo:EM):EM:=fun u=>M.bind (mo u) fun w=>M.bind (ddOw w) fun _=>fun st=>match w with
 | .val (.ref j)=>.ok (.val .non) (st.set j (.ddi [] []))
 | _=>.bad
@[simp] theorem run_eClrDD (mo:EM) {u:Sl3} {st:Store} {kw:Res W→Prop}:M3.run (eClrDD mo u st) kw=M3.run (mo u st) (kBind (fun w=>M.bind (ddOw w) fun _=>fun st=>match w with
 | .val (.ref j)=>.ok (.val .non) (st.set j (.ddi [] []))
 | _=>.bad) kw):=run_bind _ _
end M3
namespace M3
open PySem PySem.Spec PyProof.Rows L2
def mNewDD (q:List D×List D):M W:=fun st=>.ok (.val (.ref st.length)) (st++[.ddi q.1 q.2])
def eNewDc (mi:FM) (g:GM) (c:TM) (ek ev:EM) (own:List Nat):EM:=fun u=>M.bind (mi u) fun ds=>M.bind (dcL g c ek ev (wipe3 u own) ds [] []) mNewDD
@[simp] theorem run_eNewDc {mi:FM} {g:GM} {c:TM} {a b:EM} {own:List Nat} {u:Sl3} {st:Store} {kw:Res W→Prop}:M3.run (eNewDc mi g c a b own u st) kw=M3.run (mi u st) (kBind (fun ds=>M.bind (dcL g c a b (wipe3 u own) ds [] []) mNewDD) kw):=run_bind _ _
@[simp] theorem run_mNewDD (q:List D×List D) {st:Store} {kw:Res W→Prop}:M3.run (mNewDD q st) kw=kw (.ok (.val (.ref st.length)) (st++[.ddi q.1 q.2])):=rfl
end M3
namespace M3
open PySem PySem.Spec PyProof.Rows L2
end M3
namespace M3
open PySem PySem.Spec PyProof.Rows
def snooze:GenState→GenState
 | .suspended _ l c p fs cl=>.suspended (fun _=>.unsupported "woken") l c p fs cl
 | x=>x
def isSlp:GenState→Bool
 | .suspended ..=>true
 | _=>false
theorem snooze_seen (x:GenState):(snooze x).seen=x.seen:=by cases x <;> rfl
theorem snooze_bare (x:GenState):(snooze x).bare=x.bare:=by cases x <;> rfl
structure Doze (O:Nat→Option GenState) (s0 s:Shared):Prop where
 heap:s.heap=s0.heap
 drawn:s.drawn=s0.drawn
 toks:s.toks=s0.toks
 os:s.os=s0.os
 size:s.gens.size=s0.gens.size
 slp:∀i x,O i=some x→isSlp x=true∧s0.gens[i]?=some (snooze x)∧s.gens[i]?=some x
 oth:∀i,O i=none→s.gens[i]?=s0.gens[i]?
 nice:∀i k l c p fs cl,O i=none→s0.gens[i]?=some (.suspended k l c p fs cl)→splitAtGen fs=none
section
variable {O:Nat→Option GenState} {s0 s:Shared} {M:Model} {Γ:PySem.Ctx} {p:Pos}
theorem Doze.heapTo (d:Doze O s0 s) (h:Heap):Doze O { s0 with heap:=h } { s with heap:=h }:=⟨rfl,d.drawn,d.toks,d.os,d.size,d.slp,d.oth,d.nice⟩
theorem Doze.set (d:Doze O s0 s) {g:Nat} (hg:O g=none) (x:GenState) (hx:∀k l c p fs cl,x=.suspended k l c p fs cl→splitAtGen fs=none):Doze O (s0.setGen g x) (s.setGen g x):=by
 have other:∀{t:Shared} {i:Nat},i≠g→(t.setGen g x).gens[i]?=t.gens[i]?:=fun {t i} ne=>by
  show (t.gens.setIfInBounds g x)[i]?=_
  rw[Array.getElem?_setIfInBounds_ne (Ne.symm ne)]
 refine⟨d.heap,d.drawn,d.toks,d.os,?_,fun i y e=>?_,fun i e=>?_,fun i k l c p fs cl e q=>?_⟩
 ·show (s.gens.setIfInBounds g x).size=(s0.gens.setIfInBounds g x).size
  simp[d.size]
 ·have ne:i≠g:=fun z=>by rw[z,hg] at e;cases e
  rw[other ne,other ne]
  exact d.slp i y e
 ·by_cases ne:i=g
  ·subst ne
   show (s.gens.setIfInBounds i x)[i]?=(s0.gens.setIfInBounds i x)[i]?
   by_cases hi:i<s0.gens.size
   ·rw[Array.getElem?_setIfInBounds_self_of_lt (by rw[d.size];exact hi),Array.getElem?_setIfInBounds_self_of_lt hi]
   ·rw[Array.getElem?_eq_none (by simp[d.size];omega),Array.getElem?_eq_none (by simp;omega)]
  ·rw[other ne,other ne]
   exact d.oth i e
 ·by_cases ne:i=g
  ·subst ne
   have q:(s0.gens.setIfInBounds i x)[i]?=some (.suspended k l c p fs cl):=q
   by_cases hi:i<s0.gens.size
   ·rw[Array.getElem?_setIfInBounds_self_of_lt hi] at q
    cases q
    exact hx _ _ _ _ _ _ rfl
   ·rw[Array.getElem?_eq_none (by simp;omega)] at q
    cases q
  ·rw[other ne] at q
   exact d.nice i k l c p fs cl e q
theorem Doze.push (d:Doze O s0 s) (c:Code):Doze O { s0 with gens:=s0.gens.push (.fresh c) } { s with gens:=s.gens.push (.fresh c) }:=by
 have lt:∀i x,O i=some x→i<s0.gens.size:=fun i x e=>(Array.getElem?_eq_some_iff.mp (d.slp i x e).2.1).1
 refine⟨d.heap,d.drawn,d.toks,d.os,by simp[d.size],fun i x e=>?_,fun i e=>?_,fun i k l c' p fs cl e q=>?_⟩
 ·have h:=lt i x e
  obtain⟨h1,h2,h3⟩:=d.slp i x e
  exact⟨h1,by show (s0.gens.push _)[i]?=_;rw[Array.getElem?_push_lt h,←h2,Array.getElem?_eq_getElem h],by
   have h':i<s.gens.size:=by rw[d.size];exact h
   show (s.gens.push _)[i]?=_
   rw[Array.getElem?_push_lt h',←h3,Array.getElem?_eq_getElem h']⟩
 ·show (s.gens.push _)[i]?=(s0.gens.push _)[i]?
  rw[Array.getElem?_push,Array.getElem?_push,d.size,d.oth i e]
 ·have q:(s0.gens.push (.fresh c))[i]?=some (.suspended k l c' p fs cl):=q
  rw[Array.getElem?_push] at q
  split at q
  ·cases q
  ·exact d.nice i k l c' p fs cl e q
theorem no_runs {w:String}:∀{fs:List Frame} {s:Shared} {e:End} {s':Shared} {Γ:PySem.Ctx},¬Runs M Γ p (.unsupported w) fs s e s':=by
 have key:∀{Γ:PySem.Ctx} {p:Pos} {t:Sem PySem.Fin} {fs:List Frame} {s:Shared} {e:End} {s':Shared},Runs M Γ p t fs s e s'→t≠.unsupported w:=by
  intro Γ p t fs s e s' h
  induction h <;> first | (intro z;cases z;done) | assumption
 exact fun {fs s e s' Γ} h=>key h rfl
def niceEnd:End→Prop
 | .susp _ _ _ _ _ _ fs=>splitAtGen fs=none
 | _=>True
theorem niceEnd_gen {e:End} (n:niceEnd e):∀k l c p fs cl,e.genState=.suspended k l c p fs cl→splitAtGen fs=none:=fun k l c p fs cl z=>by
 cases e with
 | ret _=>cases z
 | susp v g l k c p fs=>cases z;exact n
theorem split_ret {k:Result→Sem PySem.Fin} {h:Option Value} {gd:Bool} {l kp:List Value} {c:Code} {q:Pos} {fs:List Frame}:splitAtGen (.ret k h gd l c q kp :: fs)=none↔splitAtGen fs=none:=by
 show (splitAtGen fs).map _=none↔_
 cases splitAtGen fs <;> simp
theorem split_app:∀{a b:List Frame},splitAtGen a=none→splitAtGen b=none→splitAtGen (a++b)=none
 | [],_,_,h=>h
 | .ret .. :: a,b,h,h'=>split_ret.mpr (split_app (split_ret.mp h) h')
 | .gen .. :: a,b,h,_=>by cases h
theorem Doze.look (d:Doze O s0 s) {g:Nat} {x:GenState} (e:s0.gens[g]?=some x):(O g=none∧s.gens[g]?=some x)∨∃y,isSlp y=true∧x=snooze y∧s.gens[g]?=some y:=by
 cases hO:O g with
 | none=>exact .inl ⟨rfl,(d.oth g hO).trans e⟩
 | some y=>
  obtain⟨h1,h2,h3⟩:=d.slp g y hO
  rw[e] at h2
  exact .inr ⟨y,h1,Option.some.inj h2,h3⟩
theorem Doze.up (d:Doze O s0 s) {g:Nat} {x:GenState} (e:s0.gens[g]?=some x) (h:isSlp x=false):O g=none∧s.gens[g]?=some x:=by
 rcases d.look e with q | ⟨y,h1,rfl,_⟩
 ·exact q
 ·cases y <;> first | (cases h1;done) | exact Bool.noConfusion h
theorem runs_doze {t:Sem PySem.Fin} {fs:List Frame} {e:End} {s0':Shared} (h:Runs M Γ p t fs s0 e s0'):∀{s:Shared},splitAtGen fs=none→Doze O s0 s→∃s',Doze O s0' s'∧Runs M Γ p t fs s e s'∧niceEnd e:=by
 induction h with
 | done=>exact fun _ d=>⟨_,d,.done,trivial⟩
 | raise=>exact fun _ d=>⟨_,d,.raise,trivial⟩
 | again q _ ih=>intro s hf d;obtain⟨s',d',r,n⟩:=ih hf d;exact⟨s',d',.again q r,n⟩
 | rule _ ih=>intro s hf d;obtain⟨s',d',r,n⟩:=ih hf d;exact⟨s',d',.rule r,n⟩
 | «at» _ ih=>intro s hf d;obtain⟨s',d',r,n⟩:=ih hf d;exact⟨s',d',.at r,n⟩
 | load e _ ih=>intro s hf d;obtain⟨s',d',r,n⟩:=ih hf d;exact⟨s',d',.load (by rw[d.heap];exact e) r,n⟩
 | update e _ ih=>
  intro s hf d
  obtain⟨s',d',r,n⟩:=ih hf (d.heapTo _)
  exact⟨s',d',.update (by rw[d.heap];exact e) (by rw[d.heap];exact r),n⟩
 | loadIfAlive _ ih=>intro s hf d;obtain⟨s',d',r,n⟩:=ih hf d;exact⟨s',d',.loadIfAlive (by rw[d.heap];exact r),n⟩
 | point _ ih=>intro s hf d;obtain⟨s',d',r,n⟩:=ih hf d;exact⟨s',d',.point r,n⟩
 | alloc _ ih=>
  intro s hf d
  obtain⟨s',d',r,n⟩:=ih hf (d.heapTo _)
  exact⟨s',d',.alloc (by rw[d.heap];exact r),n⟩
 | fresh _ ih=>
  intro s hf d
  obtain⟨s',d',r,n⟩:=ih hf (s:={ s with toks:=s.toks+1 }) ⟨d.heap,d.drawn,by show s.toks+1=_;rw[d.toks],d.os,d.size,d.slp,d.oth,d.nice⟩
  exact⟨s',d',.fresh (by rw[d.toks];rw[d.toks] at r;exact r),n⟩
 | ask _ ih=>intro s hf d;obtain⟨s',d',r,n⟩:=ih hf d;exact⟨s',d',.ask r,n⟩
 | choose q _ ih=>
  intro s hf d
  obtain⟨s',d',r,n⟩:=ih hf (s:={ s with drawn:=s.drawn.bump _ }) ⟨d.heap,congrArg (fun x=>Drawn.bump x _) d.drawn,d.toks,d.os,d.size,d.slp,d.oth,d.nice⟩
  exact⟨s',d',.choose q (by rw[d.drawn];rw[d.drawn] at r;exact r),n⟩
 | os _ ih=>
  intro s hf d
  obtain⟨s',d',r,n⟩:=ih hf (s:={ s with os:=(Os.step s.os _).1 }) ⟨d.heap,d.drawn,d.toks,congrArg (fun x=>(Os.step x _).1) d.os,d.size,d.slp,d.oth,d.nice⟩
  exact⟨s',d',.os (by rw[d.os];rw[d.os] at r;exact r),n⟩
 | handled _ ih=>intro s hf d;obtain⟨s',d',r,n⟩:=ih hf d;exact⟨s',d',.handled r,n⟩
 | genState e _ ih=>
  intro s hf d
  obtain⟨s',d',r,n⟩:=ih hf d
  rcases d.look e with⟨_,q⟩ | ⟨y,_,rfl,q⟩
  ·exact⟨s',d',.genState q r,n⟩
  ·rw[snooze_seen] at r
   exact⟨s',d',.genState q r,n⟩
 | stack _ ih=>intro s hf d;obtain⟨s',d',r,n⟩:=ih hf d;exact⟨s',d',.stack r,n⟩
 | thread _ ih=>intro s hf d;obtain⟨s',d',r,n⟩:=ih hf d;exact⟨s',d',.thread r,n⟩
 | newGen _ ih=>
  intro s hf d
  obtain⟨s',d',r,n⟩:=ih hf (d.push _)
  exact⟨s',d',.newGen (by rw[d.size];exact r),n⟩
 | call _ _ ih1 ih2=>
  intro s hf d
  obtain⟨s1,d1,r1,_⟩:=ih1 rfl d
  obtain⟨s',d',r,n⟩:=ih2 hf d1
  exact⟨s',d',.call r1 r,n⟩
 | callSusp _ ih=>
  intro s hf d
  obtain⟨s1,d1,r1,n⟩:=ih rfl d
  exact⟨s1,d1,.callSusp r1,split_app n rfl⟩
 | yield=>exact fun _ d=>⟨_,d,.yield,rfl⟩
 | resumeFresh e _ hq _ ih1 ih2=>
  intro s hf d
  obtain⟨hO,q⟩:=d.up e rfl
  obtain⟨s1,d1,r1,n1⟩:=ih1 rfl (d.set hO .running (fun _ _ _ _ _ _ z=>by cases z))
  obtain⟨s',d',r,n⟩:=ih2 hf (d1.set hO _ (niceEnd_gen n1))
  exact⟨s',d',.resumeFresh q r1 hq r,n⟩
 | resumeSuspended e r0 hq _ ih1 ih2=>
  intro s hf d
  rcases d.look e with⟨hO,q⟩ | ⟨y,h1,h2,_⟩
  ·obtain⟨s1,d1,r1,n1⟩:=ih1 (d.nice _ _ _ _ _ _ _ hO e) (d.set hO .running (fun _ _ _ _ _ _ z=>by cases z))
   obtain⟨s',d',r,n⟩:=ih2 hf (d1.set hO _ (niceEnd_gen n1))
   exact⟨s',d',.resumeSuspended q r1 hq r,n⟩
  ·cases y with
   | suspended k l c p fs cl=>
    injection h2 with h2
    rw[h2] at r0
    exact absurd r0 no_runs
   | _=>cases h1
 | resumeJustStarted e hv _ ih=>
  intro s hf d
  obtain⟨s',d',r,n⟩:=ih hf d
  exact⟨s',d',.resumeJustStarted (d.up e rfl).2 hv r,n⟩
 | resumeThrowFresh e _ ih=>
  intro s hf d
  obtain⟨hO,q⟩:=d.up e rfl
  obtain⟨s',d',r,n⟩:=ih hf (d.set hO .finished (fun _ _ _ _ _ _ z=>by cases z))
  exact⟨s',d',.resumeThrowFresh q r,n⟩
 | resumeRunning e _ ih=>
  intro s hf d
  obtain⟨s',d',r,n⟩:=ih hf d
  exact⟨s',d',.resumeRunning (d.up e rfl).2 r,n⟩
 | resumeFinished e _ ih=>
  intro s hf d
  obtain⟨s',d',r,n⟩:=ih hf d
  exact⟨s',d',.resumeFinished (d.up e rfl).2 r,n⟩
 | segRet _ _ ih1 ih2=>
  intro s hf d
  obtain⟨s1,d1,r1,_⟩:=ih1 rfl d
  obtain⟨s',d',r,n⟩:=ih2 (split_ret.mp hf) d1
  exact⟨s',d',.segRet r1 r,n⟩
 | segGen _ _ _ _=>intro s hf d;cases hf
 | segSuspOut h0 _ ih=>
  intro s hf d
  obtain⟨s1,d1,r1,n⟩:=ih rfl d
  exact⟨s1,d1,.segSuspOut h0 r1,split_app n hf⟩
 | segSuspGen h0 _ _ _ _ _=>intro s hf d;rw[hf] at h0;cases h0
theorem wp_doze {α:Type} {Q:α→Pos→Shared→Prop} {E:Value→Pos→Shared→Prop} (t:Sem α):∀{p:Pos} {s0 s:Shared},Sem.wp M Γ t Q E p s0→Doze O s0 s→
  Sem.wp M Γ t (fun a p' s'=>∃u,Doze O u s'∧Q a p' u) (fun x p' s'=>∃u,Doze O u s'∧E x p' u) p s:=by
 induction t with
 | pure a=>exact fun h d=>⟨_,d,h⟩
 | raise x=>exact fun h d=>⟨_,d,h⟩
 | unsupported _=>exact fun h _=>h.elim
 | finish _=>exact fun h _=>h.elim
 | register _ _=>exact fun h _=>h.elim
 | yield _ _ _ _=>exact fun h _=>h.elim
 | fork _ _=>exact fun h _=>h.elim
 | await _ _ _ _ _=>exact fun h _=>h.elim
 | rule _ k ih=>exact fun h d=>ih _ h d
 | «at» _ k ih=>exact fun h d=>ih _ h d
 | point _ k ih=>exact fun h d=>ih _ h d
 | ask k ih=>exact fun h d=>ih _ h d
 | stack k ih=>exact fun h d=>ih _ h d
 | thread k ih=>exact fun h d=>ih _ h d
 | handled own k ih=>exact fun h d=>ih _ h d
 | load a _ k ih=>intro p s0 s ⟨o,e,h⟩ d;exact⟨o,by rw[d.heap];exact e,ih _ h d⟩
 | update a _ f k ih=>intro p s0 s ⟨e,h⟩ d;exact⟨by rw[d.heap];exact e,by have:=ih _ h (d.heapTo _);rw[d.heap];exact this⟩
 | loadIfAlive a k ih=>intro p s0 s h d;have:=ih _ h d;show Sem.wp M Γ (k (s.heap.get? a)) _ _ _ _;rw[d.heap];exact this
 | alloc o k ih=>intro p s0 s h d;have:=ih _ h (d.heapTo _);show Sem.wp M Γ (k s.heap.objs.size) _ _ _ { s with heap:=s.heap.push o };rw[d.heap];exact this
 | fresh k ih=>
  intro p s0 s h d
  have:=ih _ h (s:={ s with toks:=s.toks+1 }) ⟨d.heap,d.drawn,by show s.toks+1=_;rw[d.toks],d.os,d.size,d.slp,d.oth,d.nice⟩
  show Sem.wp M Γ (k s.toks) _ _ _ { s with toks:=s.toks+1 }
  rw[d.toks] at this⊢
  exact this
 | choose src n k ih=>
  intro p s0 s ⟨e,h⟩ d
  refine⟨e,?_⟩
  have:=ih _ h (s:={ s with drawn:=s.drawn.bump src }) ⟨d.heap,congrArg (fun x=>Drawn.bump x _) d.drawn,d.toks,d.os,d.size,d.slp,d.oth,d.nice⟩
  rw[d.drawn] at this⊢
  exact this
 | os q _ k ih=>
  intro p s0 s h d
  have:=ih _ h (s:={ s with os:=(Os.step s.os q).1 }) ⟨d.heap,d.drawn,d.toks,congrArg (fun x=>(Os.step x _).1) d.os,d.size,d.slp,d.oth,d.nice⟩
  show Sem.wp M Γ (k (Os.step s.os q).2) _ _ _ { s with os:=(Os.step s.os q).1 }
  rw[d.os] at this⊢
  exact this
 | call c hd _ _ k ih=>
  intro p s0 s ⟨r,s1,hr,h⟩ d
  obtain⟨s2,d2,r2,_⟩:=runs_doze hr rfl d
  exact⟨r,s2,r2,ih _ h d2⟩
 | genState g k ih=>
  intro p s0 s ⟨st,e,h⟩ d
  rcases d.look e with⟨_,q⟩ | ⟨y,_,rfl,q⟩
  ·exact⟨st,q,ih _ h d⟩
  ·rw[snooze_seen] at h
   exact⟨y,q,ih _ h d⟩
 | newGen c k ih=>
  intro p s0 s h d
  have:=ih _ h (d.push c)
  show Sem.wp M Γ (k s.gens.size) _ _ _ { s with gens:=s.gens.push (.fresh c) }
  rw[d.size]
  exact this
 | resume g r _ k ih=>
  intro p s0 s ⟨res,s1,hw,h⟩ d
  have key:∃s2,Doze O s1 s2∧Wakes M Γ p g r s res s2:=by
   unfold Wakes at hw⊢
   cases e:s0.gens[g]? with
   | none=>rw[e] at hw;exact hw.elim
   | some x=>
    rw[e] at hw
    rcases d.look e with⟨hO,q⟩ | ⟨y,h1,rfl,q⟩
    ·rw[q]
     have run:∀{c:Code} {t:Sem PySem.Fin} {p0:Pos} {fs:List Frame} {e1:End} {s2:Shared},splitAtGen fs=none→Runs M (Γ.wake c p) p0 t fs (s0.setGen g .running) e1 s2→∃s3,Runs M (Γ.wake c p) p0 t fs (s.setGen g .running) e1 s3∧Doze O (s2.setGen g e1.genState) (s3.setGen g e1.genState):=fun hf hr=>by
      obtain⟨s3,d3,r3,n3⟩:=runs_doze hr hf (d.set hO .running (fun _ _ _ _ _ _ z=>by cases z))
      exact⟨s3,r3,d3.set hO _ (niceEnd_gen n3)⟩
     cases x with
     | fresh c=>
      cases r with
      | send v=>
       cases v <;> first
        | (obtain⟨e1,s2,hr,hq,rfl,rfl⟩:=hw;obtain⟨s3,r3,d3⟩:=run rfl hr;exact⟨_,d3,e1,s3,r3,hq,rfl,rfl⟩)
        | (obtain⟨rfl,rfl⟩:=hw;exact⟨s,d,rfl,rfl⟩)
      | throw x=>obtain⟨rfl,rfl⟩:=hw;exact⟨_,d.set hO .finished (fun _ _ _ _ _ _ z=>by cases z),rfl,rfl⟩
     | suspended k0 l0 c0 p0 fs cl=>
      obtain⟨e1,s2,hr,hq,rfl,rfl⟩:=hw
      obtain⟨s3,r3,d3⟩:=run (d.nice _ _ _ _ _ _ _ hO e) hr
      exact⟨_,d3,e1,s3,r3,hq,rfl,rfl⟩
     | running=>obtain⟨rfl,rfl⟩:=hw;exact⟨s,d,rfl,rfl⟩
     | finished=>obtain⟨rfl,rfl⟩:=hw;exact⟨s,d,rfl,rfl⟩
    ·cases y with
     | suspended k0 l0 c0 p0 fs cl=>obtain⟨e1,s2,hr,_⟩:=hw;exact absurd hr no_runs
     | _=>cases h1
  obtain⟨s2,d2,w2⟩:=key
  exact⟨res,s2,w2,ih _ h d2⟩
end
def lull (s:Shared):Shared:={ s with gens:=s.gens.map snooze }
def slept (s:Shared):Nat→Option GenState:=fun i=>match s.gens[i]? with
 | some x=>if isSlp x=true then some x else none
 | none=>none
theorem doze_lull (s:Shared):Doze (slept s) (lull s) s:=by
 have at_:∀i:Nat,(lull s).gens[i]?=s.gens[i]?.map snooze:=fun i=>by
  show (s.gens.map snooze)[i]?=_
  rw[Array.getElem?_map]
 refine⟨rfl,rfl,rfl,rfl,by show _=(s.gens.map snooze).size;simp,fun i x e=>?_,fun i e=>?_,fun i k l c p fs cl e q=>?_⟩
 ·unfold slept at e
  cases h:s.gens[i]? with
  | none=>rw[h] at e;cases e
  | some y=>
   rw[h] at e
   dsimp only at e
   split at e
   ·cases e
    exact⟨by assumption,by rw[at_,h];rfl,rfl⟩
   ·cases e
 ·rw[at_]
  unfold slept at e
  cases h:s.gens[i]? with
  | none=>rfl
  | some y=>
   rw[h] at e
   dsimp only at e
   split at e
   ·cases e
   ·cases y <;> first | rfl | (exfalso;apply_assumption;rfl)
 ·rw[at_] at q
  unfold slept at e
  cases h:s.gens[i]? with
  | none=>rw[h] at q;cases q
  | some y=>
   rw[h] at e q
   dsimp only at e
   split at e
   ·cases e
   ·rename_i hn
    cases y <;> first | (injection q with q;cases q;done) | exact absurd rfl hn
theorem bare_lull {s:Shared} (h:AllBare s.gens):AllBare (lull s).gens:=fun y hy=>by
 obtain⟨x,hx,rfl⟩:=Array.mem_map.mp (show y∈s.gens.map snooze from hy)
 rw[snooze_bare]
 exact h x hx
structure Dozed (s u s':Shared):Prop where
 heap:s'.heap=u.heap
 toks:s'.toks=u.toks
 os:s'.os=u.os
 bare:AllBare s.gens→AllBare u.gens→AllBare s'.gens
 slp:∀(i:Nat) (x:GenState),s.gens[i]?=some x→isSlp x=true→s'.gens[i]?=some x
theorem dozed_of {s u s':Shared} (d:Doze (slept s) u s'):Dozed s u s':=by
 refine⟨d.heap,d.toks,d.os,fun h h' y hy=>?_,fun i x e q=>(d.slp i x (by unfold slept;rw[e];dsimp only;rw[if_pos q])).2.2⟩
 obtain⟨i,hi,e⟩:=Array.mem_iff_getElem.mp hy
 have e:s'.gens[i]?=some y:=by rw[Array.getElem?_eq_getElem hi,e]
 cases hO:slept s i with
 | none=>exact h' y (Array.mem_of_getElem? ((d.oth i hO).symm.trans e))
 | some x=>
  have q:=(d.slp i x hO).2.2
  rw[e] at q
  cases q
  unfold slept at hO
  cases hs:s.gens[i]? with
  | none=>rw[hs] at hO;cases hO
  | some z=>
   rw[hs] at hO
   dsimp only at hO
   split at hO
   ·cases hO
    exact h _ (Array.mem_of_getElem? hs)
   ·cases hO
theorem wpAny_doze {M:Model} {A:Around} {α:Type} {t:Sem α} {Q:α→Shared→Prop} {E:Value→Shared→Prop} {s:Shared} (h:wpAny M A t Q E (lull s)) :
  wpAny M A t (fun a s'=>∃u,Dozed s u s'∧Q a u) (fun x s'=>∃u,Dozed s u s'∧E x u) s:=fun Γ p hΓ=>
 Sem.wp_mono M Γ t (fun _ _ _ ⟨u,d,q⟩=>⟨u,dozed_of d,q⟩) (fun _ _ _ ⟨u,d,q⟩=>⟨u,dozed_of d,q⟩) p s (wp_doze t (h Γ p hΓ) (doze_lull s))
end M3
namespace M3
open PySem PySem.Spec PyProof.Rows L2 GenW
def Sg (M:Model) (A:Around) (Z:End→Shared→Prop) (c:Code) (t:Sem PySem.Fin) (fs:List Frame) (s:Shared):Prop:=
 ∀(Γ:PySem.Ctx) (p:Pos),Γ.code=c→Γ.Woken A→∃(e:End) (s1:Shared),Runs M Γ p t fs s e s1∧Z e s1
section
variable {M:Model} {A:Around} {Z:End→Shared→Prop} {c:Code} {fs:List Frame} {s:Shared}
theorem Sg.imp {Z':End→Shared→Prop} {t:Sem PySem.Fin} (h:∀e s1,Z e s1→Z' e s1) (x:Sg M A Z c t fs s):Sg M A Z' c t fs s:=fun Γ p hc w=>
 let ⟨e,s1,r,z⟩:=x Γ p hc w
 ⟨e,s1,r,h e s1 z⟩
theorem sg_wrap {α:Type} {m:Sem α} {K:α→Sem PySem.Fin} {H:Value→Sem PySem.Fin} {gd:Bool→Bool} {lv:List Value→List Value}
  (h:wpAny M (A.over c fs) m (fun a s'=>Sg M A Z c (K a) fs s') (fun x s'=>Sg M A Z c (H x) fs s') s):Sg M A Z c (m.wrap K H gd lv) fs s:=fun Γ p hc w=>by
 subst hc
 exact runs_wrap_of_wp K H gd lv m (h (Γ.over fs) p (w.over fs)) (fun a p' s' k=>k Γ p' rfl w) (fun x p' s' k=>k Γ p' rfl w)
theorem sg_at {q:Pos} {k:Unit→Sem PySem.Fin} (h:Sg M A Z c (k ()) fs s):Sg M A Z c (.at q k) fs s:=sg_wrap (K:=k) (m:=standAt q) (gd:=id) (lv:=id) (H:=.raise) (wpAny_standAt h)
theorem sg_point {l:List Value} {k:Unit→Sem PySem.Fin} (h:Sg M A Z c (k ()) fs s):Sg M A Z c (.point l k) fs s:=sg_wrap (K:=k) (m:=point) (gd:=id) (lv:=fun _=>l) (H:=.raise) (wpAny_point h)
theorem sg_call {c1:Code} {h g l} {k:Result→Sem PySem.Fin} (hc:∀p,Sg M A Z c1 (M.den c1) (.ret k h g l c p [] :: fs) s):Sg M A Z c (.call c1 h g l k) fs s:=fun Γ p e w=>by
 subst e
 obtain⟨e,s1,r,z⟩:=hc p (Γ.goto c1) p rfl (w.goto c1)
 exact⟨e,s1,runs_call_seg r,z⟩
theorem sg_leaf {k h g l c1 p1 kp} (r:Result) (hk:Sg M A Z c1 (k r) fs s):Sg M A Z c (leafOf r) (.ret k h g l c1 p1 kp :: fs) s:=fun Γ p e w=>by
 subst e
 obtain⟨e,s1,q,z⟩:=hk (Γ.goto c1) p1 rfl (w.goto c1)
 exact⟨e,s1,Runs.pop r q,z⟩
theorem sg_again {c1:Code} (hq:c1.quiet=true) (hc:Sg M A Z c1 (M.den c1) fs s):Sg M A Z c (.pure (.again c1)) fs s:=fun Γ p e w=>by
 subst e
 obtain⟨e,s1,r,z⟩:=hc (Γ.goto c1) p rfl (w.goto c1)
 exact⟨e,s1,Runs.head (c₁:=c1) (fun _ _ x=>.again hq x) r,z⟩
theorem sg_end (r:Result) (h:Z (.ret r) s):Sg M A Z c (leafOf r) [] s:=fun Γ p e w=>⟨.ret r,s,Runs.leaf r,h⟩
theorem sg_yield {v g l} {k:Resume→Sem PySem.Fin} (hf:splitAtGen fs=none) (h:∀p,Z (.susp v g l k c p fs) s):Sg M A Z c (.yield v g l k) fs s:=fun Γ p e w=>by
 subst e
 exact⟨_,s,Runs.yield' fs hf,h p⟩
def Go (M:Model) (A:Around) (Z:End→Shared→Prop) (gs:GenState) (r:Resume) (s:Shared):Prop:=match gs with
 | .fresh c=>r=.send .none∧Sg M A Z c (M.den c) [] s
 | .suspended k _ c _ fs _=>Sg M A Z c (k r) fs s
 | _=>False
theorem wpAny_go {Z:End→Shared→Prop} {E:Value→Shared→Prop} {g:Nat} {gs:GenState} {r:Resume} {l:List Value} {α:Type} {k:GenResult→Sem α} {Q:α→Shared→Prop} (hg:s.gens[g]?=some gs)
  (hgo:Go M A Z gs r (s.setGen g .running)) (hq:∀e s1,Z e s1→e.quiet=true) (h:∀e s1,Z e s1→wpAny M A (k e.result) Q E (s1.setGen g e.genState)):wpAny M A (.resume g r l k) Q E s:=fun Γ p w=>by
 rw[Sem.wp_resume]
 have hB:∀c,(Γ.wake c p).Woken A:=fun c=>w.wake c p
 cases gs with
 | running=>exact False.elim hgo
 | finished=>exact False.elim hgo
 | fresh c=>
  obtain⟨e0,hs⟩:=hgo
  subst e0
  obtain⟨e,s1,q,z⟩:=hs (Γ.wake c p) p rfl (hB c)
  refine⟨_,_,?_,h e s1 z Γ p w⟩
  unfold Wakes
  rw[hg]
  exact⟨e,s1,q,hq e s1 z,rfl,rfl⟩
 | suspended k0 l0 c0 p0 fs0 cl=>
  obtain⟨e,s1,q,z⟩:=hgo (Γ.wake c0 p) p0 rfl (hB c0)
  refine⟨_,_,?_,h e s1 z Γ p w⟩
  unfold Wakes
  rw[hg]
  exact⟨e,s1,q,hq e s1 z,rfl,rfl⟩
end
section
variable {Pg:Program} {wl:World} {A:Around} {s:Shared}
theorem stop_then {α β:Type} {Q:β→Shared→Prop} {E:Value→Shared→Prop} {f:α→Sem β} (c:CoolAt A s.heap) (hE:∀a h',(∀b o,s.heap.get? b=some o→h'.get? b=some o)→(∃o,h'.get? a=some o∧o.cls=.type "StopIteration")→E (.ref a) { s with heap:=h' }) :
  wpAny (model Pg wl) A (newExc (.type "StopIteration") [] >>= fun e=>((raiseNew e:Sem α) >>= f)) Q E s:=fun Γ p h=>by
 have q:=stop_cool (prog:=Pg) (w:=wl) (α:=α) (Q:=fun _ _=>False) c hE Γ p h
 rw[Sem.wp_bind'] at q⊢
 refine Sem.wp_mono _ Γ _ (fun e p1 s1 z=>?_) (fun _ _ _ z=>z) p s q
 rw[Sem.wp_bind']
 exact Sem.wp_mono _ Γ _ (fun _ _ _ z=>z.elim) (fun _ _ _ z=>z) p1 s1 z
theorem next_go {a:Addr} {g:Nat} {gs:GenState} {Z:End→Shared→Prop} {Q:Option Value→Shared→Prop} {E:Value→Shared→Prop} (hh:A.handled=none) (hl:s.heap.NoLimit) (hroom:A.depth<recursionLimit) (hg:s.heap.IsGen a g) (hgs:s.gens[g]?=some gs)
  (hgo:Go (model Pg wl) A.in1 Z gs (.send .none) (s.setGen g .running)) (hq:∀e s1,Z e s1→e.quiet=true)
  (hY:∀v gd l k c p fs s1,Z (.susp v gd l k c p fs) s1→Q (some v) (s1.setGen g (End.susp v gd l k c p fs).genState))
  (hR:∀r s1,Z (.ret r) s1→(r=.ok (.ret .none)∨r=.ok .next)∧∀h',(∀b o,s1.heap.get? b=some o→h'.get? b=some o)→Q none { s1.setGen g .finished with heap:=h' }):wpAny (model Pg wl) A (pyNext (.ref a)) Q E s:=by
 have up:gs≠.running∧gs≠.finished:=⟨fun z=>by subst z;exact hgo,fun z=>by subst z;exact hgo⟩
 have over:∀{r:Result},(r=.ok (.ret .none)∨r=.ok .next)→End.result (.ret r)=.returned .none:=fun h=>h.elim (fun z=>z▸rfl) fun z=>z▸rfl
 (unfold pyNext;refine wpAny_bind (wpAny_attempt (wpAny_callSpecial?_slot (name:=Str.ofString "__next__") hg.typeIs slot_gen_next (wpAny_call_entry slot_gen_next hg.typeIs entry_gen_next (show wpAny _ A.in1 (Builtin.Generator.genWake (.ref a) (.send .none)) _ _ s from ?_) (args_gen_next _)))))
 (unfold Builtin.Generator.genWake;refine wpAny_bind (wpAny_holding (wpAny_genNumber hg (wpAny_bind (wpAny_genState hgs ?_)))))
 cases gs with
 | running=>exact absurd rfl up.1
 | finished=>exact absurd rfl up.2
 | _=>
  (refine wpAny_bind (wpAny_roomToWake hl hroom ?_);show wpAny _ A.in1 (.resume g (.send .none) [] _) _ _ s;refine wpAny_go hgs hgo hq fun e s1 hz=>?_)
  cases e with
  | susp v gd l k c p fs=>exact wpAny_pure ⟨v,rfl,wpAny_pure (hY v gd l k c p fs s1 hz)⟩
  | ret r=>
   obtain⟨hr,hp⟩:=hR r s1 hz
   rw[over hr]
   refine(show wpAny _ A.in1 (newExc (.type "StopIteration") [] >>= fun x=>((raiseNew x:Sem _) >>= _)) _ _ _ from stop_then (.inl hh) fun x h' k ⟨o,e,cl⟩=>?_)
   exact wpAny_bind (wpAny_isInstance (T:="StopIteration") (b:=true) ⟨o,e,cl⟩ isSubtype_stop (wpAny_pure (hp h' k)))
end
end M3
namespace M3
open PySem PySem.Spec PyProof.Rows L2 GenW
section
variable {M:Model} {A:Around} {Z:End→Shared→Prop} {c:Code} {fs:List Frame} {s:Shared} {env:Env}
 {K:Flow→Sem PySem.Fin} {J:Value→Sem PySem.Fin} {gd:Bool→Bool} {lv:List Value→List Value}
theorem sg_stm {st:Stmt} {rest:List Stmt} (h:Sg M A Z c ((exec st env).wrap (fun f=>match f with
  | .next=>(execs rest env).wrap K J gd lv
  | f=>K f) J gd lv) fs s):Sg M A Z c ((execs (st :: rest) env).wrap K J gd lv) fs s:=(execs_cons_wrap st rest).symm▸h
theorem sg_yieldS {e:Expr} {q pos:Pos} (hf:splitAtGen fs=none) (hg:gd false=false) (hco:env.scope.isCoroutine=false) (hi:interactive env=false)
  (h:wpAny M (A.over c fs) (eval e env) (fun v s1=>∀(l:List Value) (k:Resume→Sem PySem.Fin) (p:Pos),(∀(Z':End→Shared→Prop) (s2:Shared),Sg M A Z' c (K .next) fs s2→Sg M A Z' c (k (.send .none)) fs s2)→Z (.susp v false l k c p fs) s1) (fun _ _=>False) s) :
  Sg M A Z c ((exec (.Expr (.Yield (some e) q) pos) env).wrap K J gd lv) fs s:=by
 have out:yieldOut env=yieldValue:=funext fun v=>by unfold yieldOut;rw[if_neg (by rw[hco];exact Bool.false_ne_true)]
 (rw[exec_Expr env _ pos hi rfl];show Sg M A Z c (.at pos fun _=>((eval e env >>= fun v=>(standAt q >>= fun _=>yieldOut env v)) >>= fun x=>dropValue (.Yield (some e) q) pos x).wrap K J gd lv) fs s)
 rw[out]
 refine sg_at ?_
 (rw[Sem.bind_eq_wrap',Sem.bind_eq_wrap'];rw[Sem.wrap_wrap,Sem.wrap_wrap])
 refine sg_wrap (wpAny_mono h (fun v s1 z=>sg_at (sg_yield hf fun p=>?_)) fun _ _ x=>x.elim)
 dsimp only[id]
 rw[hg]
 exact z _ _ p fun Z' s2 y=>y
theorem sg_forS {tg iter:Expr} {body:List Stmt} {pos:Pos} (hs:∀x,foldedSetIterable iter env x=pure x)
  (h:wpAny M (A.over c fs) (eval iter env) (fun x s1=>wpAny M (A.over c fs) (pyIter x) (fun it s2=>∀(p:Pos) (k:Result→Sem PySem.Fin),(∀f,k (.ok f)=K f)→Sg M A Z (.forLoop tg it body [] env) (M.den (.forLoop tg it body [] env)) (.ret k none (gd false) (lv []) c p [] :: fs) s2) (fun _ _=>False) s1) (fun _ _=>False) s) :
  Sg M A Z c ((exec (.For tg iter body [] pos) env).wrap K J gd lv) fs s:=by
 show Sg M A Z c (.at pos fun _=>(eval iter env >>= fun x0=>foldedSetIterable iter env x0 >>= fun x=>(standAt iter.pos >>= fun _=>holding [x] (pyIter x) >>= fun it=>runOwn (.forLoop tg it body [] env) env)).wrap K J gd lv) fs s
 refine sg_at ?_
 rw[Sem.bind_eq_wrap',Sem.wrap_wrap]
 refine sg_wrap (wpAny_mono h (fun x s1 h1=>?_) fun _ _ z=>z.elim)
 rw[hs x]
 show Sg M A Z c (.at iter.pos fun _=>(holding [x] (pyIter x) >>= fun it=>runOwn (.forLoop tg it body [] env) env).wrap K J gd lv) fs s1
 refine sg_at ?_
 rw[Sem.bind_eq_wrap',Sem.wrap_wrap]
 exact sg_wrap (wpAny_holding (wpAny_mono h1 (fun it s2 h2=>sg_call fun p=>h2 p _ fun f=>rfl) fun _ _ z=>z.elim))
end
section
variable {prog:Program} {w:World} {A:Around} {Z:End→Shared→Prop} {fs:List Frame} {s:Shared} {env:Env}
def turnK (tg:Expr) (it:Value) (body:List Stmt) (env:Env):Flow→Sem PySem.Fin
 | .next | .cont=>.pure (.again (.forLoop tg it body [] env))
 | .brk=>.pure (.done .next)
 | .ret v=>.pure (.done (.ret v))
theorem sg_loopS {tg:Expr} {it:Value} {body:List Stmt}
  (h:wpAny (model prog w) (A.over (.forLoop tg it body [] env) fs) (pyNext it) (fun r s1=>match r with
   | none=>Sg (model prog w) A Z (.block [] env) (leafOf (.ok .next)) fs s1
   | some v=>wpAny (model prog w) (A.over (.forLoop tg it body [] env) fs) (letOwnedTupleGo tg it v) (fun _ s2=>wpAny (model prog w) (A.over (.forLoop tg it body [] env) fs) (assign tg env v) (fun _ s3=>∀J:Value→Sem PySem.Fin,
     Sg (model prog w) A Z (.forLoop tg it body [] env) ((execs body env).wrap (turnK tg it body env) J id id) fs s3) (fun _ _=>False) s2) (fun _ _=>False) s1) (fun _ _=>False) s) :
  Sg (model prog w) A Z (.forLoop tg it body [] env) ((model prog w).den (.forLoop tg it body [] env)) fs s:=by
 show Sg _ A Z _ ((forTurn tg it body [] env).onRaise (fun x=>do noteFrame x env;theTreesLotGoes x)) fs s
 rw[Sem.onRaise_eq_wrap]
 unfold forTurn
 show Sg _ A Z _ (.at tg.pos fun _=>(((pyNext it).onRaise (fun _=>standAt { tg.pos with line:=0 })) >>= _).wrap _ _ _ _) fs s
 refine sg_at ?_
 rw[Sem.bind_eq_wrap',Sem.wrap_wrap]
 refine sg_wrap (wpAny_onRaise (wpAny_mono h (fun r s1 h1=>?_) fun x s' hx=>hx.elim))
 cases r with
 | none=>exact sg_again rfl h1
 | some v=>
  show Sg _ A Z _ ((letOwnedTupleGo tg it v >>= fun _=>assign tg env v >>= fun _=>execs body env >>= _).wrap _ _ _ _) fs s1
  rw[Sem.bind_eq_wrap',Sem.wrap_wrap]
  refine sg_wrap (wpAny_mono h1 (fun _ s2 h2=>?_) fun x s' hx=>hx.elim)
  rw[Sem.bind_eq_wrap',Sem.wrap_wrap]
  refine sg_wrap (wpAny_mono h2 (fun _ s3 h3=>?_) fun x s' hx=>hx.elim)
  rw[Sem.bind_eq_wrap',Sem.wrap_wrap]
  rw[Sem.wrap_congr (execs body env) _ _ (K':=turnK tg it body env) (fun f=>by cases f <;> rfl) (fun e=>rfl)]
  exact h3 _
theorem sg_funcS {body:List Stmt} (h:∀J:Value→Sem PySem.Fin,Sg (model prog w) A Z (.func body env) ((execs body env).wrap (fun f=>.pure (.done (.ret (match f with
  | .ret v=>v
  | _=>.none)))) J id id) fs s):Sg (model prog w) A Z (.func body env) ((model prog w).den (.func body env)) fs s:=by
 show Sg _ A Z _ (.point [] fun _=>((execs body env).onRaise (leaving env)) >>= _) fs s
 (refine sg_point ?_;rw[Sem.onRaise_eq_wrap];rw[Sem.bind_eq_wrap',Sem.wrap_wrap])
 rw[Sem.wrap_congr (execs body env) _ _ (K':=fun f=>.pure (.done (.ret (match f with
  | .ret v=>v
  | _=>.none)))) (fun f=>by cases f <;> rfl) (fun e=>rfl)]
 exact h _
end
end M3
namespace M3
open PySem PySem.Spec PyProof.Rows L2 GenW
theorem inv_lull {X:Cx} {pins:List (Addr×Obj)} {z:L2.St} {H:Hp} {s:Shared} (I:Inv X pins z H s):Inv X pins z H (lull s):=
 ⟨I.ok,I.os,bare_lull I.bare,I.base,I.loc,I.cell,I.free,I.freeC,I.pin,I.hok,I.len⟩
theorem inv_dozed {X:Cx} {pins:List (Addr×Obj)} {z:L2.St} {H:Hp} {s u s':Shared} (d:Dozed s u s') (hb:AllBare s.gens) (I:Inv X pins z H u):Inv X pins z H s':=by
 have e:=d.heap
 refine⟨I.ok,d.os.trans I.os,d.bare hb I.bare,?_,?_,?_,I.free,I.freeC,?_,?_,I.len⟩ <;> rw[e]
 ·exact I.base
 ·exact I.loc
 ·exact I.cell
 ·exact I.pin
 ·exact I.hok
theorem wpAny_dozeO {M:Model} {A:Around} {α:Type} {t:Sem α} {O:Nat→Option GenState} {Q:α→Shared→Prop} {s0 s:Shared} (d:Doze O s0 s) (h:wpAny M A t Q (fun _ _=>False) s0) :
  wpAny M A t (fun a s'=>(∃u,Doze O u s'∧Q a u)∧s.gens.size≤s'.gens.size) (fun _ _=>False) s:=
 wpAny_gsz (Nat.le_refl _) (wpAny_mono (Q:=fun a s'=>∃u,Doze O u s'∧Q a u) (E:=fun _ _=>False) (fun Γ p hΓ=>Sem.wp_mono M Γ t (fun _ _ _ q=>q) (fun _ _ _ ⟨_,_,q⟩=>q) p s (wp_doze t (h Γ p hΓ) d)) (fun _ _ q hs=>⟨q,hs⟩) fun _ _ q _=>q)
def Keeps (M:Nat→Option GenState) (s:Shared):Prop:=∀i x,M i=some x→s.gens[i]?=some x∧isSlp x=true
theorem Keeps.doze {M:Nat→Option GenState} {s u s':Shared} (k:Keeps M s) (d:Doze (slept s) u s'):Keeps M s':=fun i x e=>⟨(dozed_of d).slp i x (k i x e).1 (k i x e).2,(k i x e).2⟩
structure Gh where
 s:Shared
 t:S3
 B:Addr→Prop
 s0:Shared
 pn:List (Addr×Obj)
 gi:Nat
def cxG (X:Cx) (g:Gh):Cx:={ X with s_0:=g.s0,H_0:=g.t.H,ex:=[],pn:=g.pn,xe:=fun _ _=>False }
abbrev P3.gh (P:P3) (g:Gh):P3:=⟨cxG P.X g,P.G,none,noWX,P.hK,P.hw⟩
where noWX:WX:=fun _ _ _ _=>False
abbrev YRes:=List (D×Store)×SRes
abbrev YM:=Sl3→Store→YRes
def zx (p:Addr) (o:Obj):HO:=.ext fun h=>h.get? p=some o
def kept (g:Gh) (N:Addr→Prop):Addr→Prop:=fun b=>g.B b∨N b
structure GAt (P:P3) (ip:List (Addr×Obj)) (N:Addr→Prop) (M:Nat→Option GenState) (g:Gh) (u:Sl3) (o:Store) (s:Shared) (z:L2.St) (B:Addr→Prop) (t:S3):Prop where
 inv:Inv (cxG P.X g) ip z t.H s
 sub:∀b,kept g N b→B b
 wd:Wd P.G B o t
 slo:Slo P.G none (kept g N) B t u z
 le:Le g.B g.t t
 dj:∀p∈g.pn,∀q∈ip,p.1≠q.1
 sz:g.s0.heap.objs.size=P.X.s_0.heap.objs.size
 yg:∀q∈ip,P.X.s_0.heap.objs.size≤q.1
 nz:∀b,N b→∃ob,t.H b=some (zx b ob)
 dis:∀b,N b→¬g.B b
 gk:Keeps M s
 gm:M g.gi=none
 gs:g.gi<s.gens.size
structure Wk (P:P3) (ip:List (Addr×Obj)) (N:Addr→Prop) (M:Nat→Option GenState) (z:L2.St) (t:S3) (o:Store) (g:Gh):Prop where
 inv:Inv (cxG P.X g) ip z g.t.H g.s
 wd:Wd P.G (kept g N) o g.t
 io:IoLe t.io g.t.io
 fr:Same t.F g.t.F
 hid:∀b,N b→¬g.B b∧g.t.H b=t.H b
 dj:∀p∈g.pn,∀q∈ip,p.1≠q.1
 sz:g.s0.heap.objs.size=P.X.s_0.heap.objs.size
 gk:Keeps M g.s
 gm:M g.gi=none
 gs:g.gi<g.s.gens.size
def ZG (P:P3) (nb:Bool) (A:Around):List (D×Store)→Store→Gh→End→Shared→Prop
 | [],oE,g,e,s1=>∃r,e=.ret r∧(r=.ok (.ret .none)∨r=.ok .next)∧∃ip z B t,Inv (cxG P.X g) ip z t.H s1∧(∀b,g.B b→B b)∧Wd P.G B oE t∧Le g.B g.t t
 | (d,o) :: rest,oE,g,e,s1=>∃v gd l k c p fs,e=.susp v gd l k c p fs∧e.quiet=true∧splitAtGen fs=none∧∃ip N M z B t,Keeps M s1∧M g.gi=none∧(∀i x,M i=some x→nb=true)∧(∀b,N b→nb=true)∧(∀b,N b→¬g.B b)∧Inv (cxG P.X g) ip z t.H s1∧(∀b,kept g N b→B b)∧Wd P.G B o t∧Le g.B g.t t∧(∀p∈g.pn,∀q∈ip,p.1≠q.1)∧g.s0.heap.objs.size=P.X.s_0.heap.objs.size∧(∀q∈ip,P.X.s_0.heap.objs.size≤q.1)∧(∀b,N b→∃ob,t.H b=some (zx b ob))∧(∃x,Rep P.G.R t.F t.io d x∧RelV x v)∧
   ∀g':Gh,Wk P ip N M z t o g'→Sg (model P.X.prog P.X.w) A (ZG P nb A rest oE g') c (k (.send .none)) fs g'.s
theorem zg_quiet {P:P3} {nb:Bool} {A:Around} {xs:List (D×Store)} {oE:Store} {g:Gh} {e:End} {s:Shared} (h:ZG P nb A xs oE g e s):e.quiet=true:=by
 cases xs with
 | nil=>obtain⟨r,rfl,_⟩:=h;rfl
 | cons x rest=>obtain⟨d,o⟩:=x;obtain⟨v,gd,l,k,c,p,fs,rfl,q,_⟩:=h;exact q
structure SgC (P:P3) (A:Around) (c:Code) (fs:List Frame) (gd:Bool→Bool):Prop where
 over:A.over c fs=P.X.A
 split:splitAtGen fs=none
 guard:fs.any Frame.guarded=false
 gd:gd false=false
def OutS (P:P3) (ip:List (Addr×Obj)) (N:Addr→Prop) (M:Nat→Option GenState) (g:Gh) (t:S3) (s:Shared):SRes→Flow→Prop
 | .nx u o,f=>f=.next∧∃z B,GAt P ip N M g u o s z B t
 | .bk u o,f=>f=.brk∧∃z B,GAt P ip N M g u o s z B t
 | .ct u o,f=>f=.cont∧∃z B,GAt P ip N M g u o s z B t
 | .rt w o,f=>w=.val .non∧f=.ret .none∧∃ip' z B,Inv (cxG P.X g) ip' z t.H s∧(∀b,g.B b→B b)∧Wd P.G B o t∧Le g.B g.t t
 | _,_=>False
def SRes.fine:SRes→Bool
 | .nx _ _=>true
 | .bk _ _=>true
 | .ct _ _=>true
 | .rt (.val .non) _=>true
 | _=>false
def allVal (u:Sl3):Bool:=u.all fun w=>match w with
 | some (.val _)=>true
 | none=>true
 | _=>false
structure YS (P:P3) (nb:Bool) (st:Stmt) (m:YM):Prop where
 run:∀(A:Around) (c:Code) (fs:List Frame) (K:Flow→Sem PySem.Fin) (J:Value→Sem PySem.Fin) (gd:Bool→Bool) (lv:List Value→List Value) (rest:List (D×Store)) (oE:Store) (g:Gh) (s:Shared) (ip:List (Addr×Obj)) (N:Addr→Prop) (M:Nat→Option GenState) (u:Sl3) (o:Store) (z:L2.St) (B:Addr→Prop) (t:S3),
  SgC P A c fs gd→(∀b,N b→nb=true)→(∀i x,M i=some x→nb=true)→GAt P ip N M g u o s z B t→(m u o).2.fine=true→
  (∀(g':Gh) (s':Shared) (t':S3) (f:Flow),IoLe t.io t'.io→Same t.F t'.F→(∀b,N b→t'.H b=t.H b)→OutS P ip N M g' t' s' (m u o).2 f→Sg (model P.X.prog P.X.w) A (ZG P nb A rest oE g') c (K f) fs s')→
  Sg (model P.X.prog P.X.w) A (ZG P nb A ((m u o).1++rest) oE g) c ((exec st P.X.env).wrap K J gd lv) fs s
structure YSs (P:P3) (nb:Bool) (st:List Stmt) (m:YM):Prop where
 run:∀(A:Around) (c:Code) (fs:List Frame) (K:Flow→Sem PySem.Fin) (J:Value→Sem PySem.Fin) (gd:Bool→Bool) (lv:List Value→List Value) (rest:List (D×Store)) (oE:Store) (g:Gh) (s:Shared) (ip:List (Addr×Obj)) (N:Addr→Prop) (M:Nat→Option GenState) (u:Sl3) (o:Store) (z:L2.St) (B:Addr→Prop) (t:S3),
  SgC P A c fs gd→(∀b,N b→nb=true)→(∀i x,M i=some x→nb=true)→GAt P ip N M g u o s z B t→(m u o).2.fine=true→
  (∀(g':Gh) (s':Shared) (t':S3) (f:Flow),IoLe t.io t'.io→Same t.F t'.F→(∀b,N b→t'.H b=t.H b)→OutS P ip N M g' t' s' (m u o).2 f→Sg (model P.X.prog P.X.w) A (ZG P nb A rest oE g') c (K f) fs s')→
  Sg (model P.X.prog P.X.w) A (ZG P nb A ((m u o).1++rest) oE g) c ((execs st P.X.env).wrap K J gd lv) fs s
section
variable {P:P3} {nb:Bool} {pos:Pos}
def yPlain (m:SM):YM:=fun u o=>([],m u o)
def dGh (P:P3) (N:Addr→Prop) (g:Gh) (t:S3) (r:SRes):Ends where
 nx:=fun z' H'=>∃u o B t',r=.nx u o∧t'.H=H'∧(∀b,kept g N b→B b)∧Le (kept g N) t t'∧Wd P.G B o t'∧Slo P.G none (kept g N) B t' u z'
 bk:=fun z' H'=>∃u o B t',r=.bk u o∧t'.H=H'∧(∀b,kept g N b→B b)∧Le (kept g N) t t'∧Wd P.G B o t'∧Slo P.G none (kept g N) B t' u z'
 ct:=fun z' H'=>∃u o B t',r=.ct u o∧t'.H=H'∧(∀b,kept g N b→B b)∧Le (kept g N) t t'∧Wd P.G B o t'∧Slo P.G none (kept g N) B t' u z'
 rt:=fun v H'=>∃o B t',r=.rt (.val .non) o∧v=.non∧t'.H=H'∧(∀b,kept g N b→B b)∧Le (kept g N) t t'∧Wd P.G B o t'
theorem postS_fine {N:Addr→Prop} {g:Gh} {t:S3} {r:SRes} (h:r.fine=true):PostS P.G none P3.gh.noWX (kept g N) t (dGh P N g t r) r:=by
 cases r with
 | nx u o=>exact fun B t' z b l w sl=>⟨u,o,B,t',rfl,rfl,b,l,w,sl⟩
 | bk u o=>exact fun B t' z b l w sl=>⟨u,o,B,t',rfl,rfl,b,l,w,sl⟩
 | ct u o=>exact fun B t' z b l w sl=>⟨u,o,B,t',rfl,rfl,b,l,w,sl⟩
 | rt w o=>
  cases w with
  | val d=>
   cases d with
   | non=>exact fun B t' v b l w rr=>⟨o,B,t',rfl,rep_non rr,rfl,b,l,w⟩
   | _=>cases h
  | _=>cases h
 | err c x u o=>cases h
 | bad=>cases h
where rep_non {K:KW} {F:Hp} {io:Io} {v:V} (r:Rep K F io .non v):v=.non:=by cases r;rfl
theorem out_of {g:Gh} {ip:List (Addr×Obj)} {N:Addr→Prop} {M:Nat→Option GenState} {u:Sl3} {o:Store} {s s' w0:Shared} {z:L2.St} {B:Addr→Prop} {t:S3} {r:SRes} {f:Flow} (a:GAt P ip N M g u o s z B t) (h:SP (cxG P.X g) ip (dGh P N g t r) f w0) (d:Doze (slept s) w0 s') (hz:s.gens.size≤s'.gens.size):∃t',Le (kept g N) t t'∧OutS P ip N M g t' s' r f:=by
 have jn:∀{z':L2.St} {H':Hp},Inv (cxG P.X g) ip z' H' w0→Inv (cxG P.X g) ip z' H' s':=fun I=>inv_dozed (dozed_of d) a.inv.bare I
 have nzl:∀{t':S3},Le (kept g N) t t'→∀b,N b→∃ob,t'.H b=some (zx b ob):=fun l b h=>let ⟨ob,e⟩:=a.nz b h;⟨ob,(l.hid b (.inr h)).trans e⟩
 cases f with
 | next=>obtain⟨z',H',I,u',o',B',t',rfl,rfl,b,l,w,sl⟩:=h;exact⟨t',l,rfl,z',B',jn I,b,w,sl,a.le.trans (l.less fun _ q=>.inl q),a.dj,a.sz,a.yg,nzl l,a.dis,a.gk.doze d,a.gm,Nat.lt_of_lt_of_le a.gs hz⟩
 | brk=>obtain⟨z',H',I,u',o',B',t',rfl,rfl,b,l,w,sl⟩:=h;exact⟨t',l,rfl,z',B',jn I,b,w,sl,a.le.trans (l.less fun _ q=>.inl q),a.dj,a.sz,a.yg,nzl l,a.dis,a.gk.doze d,a.gm,Nat.lt_of_lt_of_le a.gs hz⟩
 | cont=>obtain⟨z',H',I,u',o',B',t',rfl,rfl,b,l,w,sl⟩:=h;exact⟨t',l,rfl,z',B',jn I,b,w,sl,a.le.trans (l.less fun _ q=>.inl q),a.dj,a.sz,a.yg,nzl l,a.dis,a.gk.doze d,a.gm,Nat.lt_of_lt_of_le a.gs hz⟩
 | ret v=>
  obtain⟨x,z',H',I,rv,o',B',t',rfl,rfl,rfl,b,l,w⟩:=h
  have:v=Value.none:=rv
  subst this
  exact⟨t',l,rfl,rfl,ip,z',B',jn I,fun c q=>b c (.inl q),w,a.le.trans (l.less fun _ q=>.inl q)⟩
theorem ys_ms {st:Stmt} {m:SM} (h:∀g,MS (P.gh g) st m):YS P nb st (yPlain m):=by
 refine⟨fun A c fs K J gd lv rest oE g s ip N M u o z B t gc hN hM a fin k=>?_⟩
 refine sg_wrap ?_
 rw[gc.over]
 refine wpAny_mono (wpAny_dozeO (doze_lull s) ((h g).ps.run ip (lull s) z t.H (dGh P N g t (m u o)) (inv_lull a.inv) ⟨kept g N,B,t,o,u,rfl,a.sub,a.wd,a.slo,postS_fine fin⟩)) (fun f s' q=>?_) fun x s' hx=>hx.elim
 obtain⟨⟨w0,d,q⟩,hz⟩:=q
 obtain⟨t',l,q⟩:=out_of a q d hz
 exact k g s' t' f l.io l.fr (fun b h=>l.hid b (.inr h)) q
def ySeq (m1 m2:YM):YM:=fun u o=>match m1 u o with
 | (xs,.nx u' o')=>(xs++(m2 u' o').1,(m2 u' o').2)
 | r=>r
theorem yss_one {st:Stmt} {m:YM} (h:YS P nb st m):YSs P nb [st] m:=by
 refine⟨fun A c fs K J gd lv rest oE g s ip N M u o z B t gc hN hM a fin k=>sg_stm ?_⟩
 refine h.run A c fs _ J gd lv rest oE g s ip N M u o z B t gc hN hM a fin fun g' s' t' f i r n q=>?_
 cases f with
 | next=>exact k g' s' t' .next i r n q
 | _=>exact k g' s' t' _ i r n q
theorem yss_cons {st:Stmt} {rest:List Stmt} {m1 m2:YM} (h1:YS P nb st m1) (h2:YSs P nb rest m2):YSs P nb (st :: rest) (ySeq m1 m2):=by
 refine⟨fun A c fs K J gd lv more oE g s ip N M u o z B t gc hN hM a fin k=>sg_stm ?_⟩
 unfold ySeq at fin k⊢
 cases e:m1 u o with
 | mk xs r=>
  have run:=fun rest'=>h1.run A c fs (fun f=>match f with
   | .next=>(execs rest P.X.env).wrap K J gd lv
   | f=>K f) J gd lv rest' oE g s ip N M u o z B t gc hN hM a
  rw[e] at fin k run
  cases r with
  | nx u' o'=>
   dsimp only at fin k run⊢
   rw[List.append_assoc]
   refine run _ rfl fun g' s' t' f i1 f1 n1 q=>?_
   obtain⟨rfl,z',B',a'⟩:=q
   exact h2.run A c fs K J gd lv more oE g' s' ip N M u' o' z' B' t' gc hN hM a' fin fun g2 s2 t2 f2 i2 f2' n2 q2=>k g2 s2 t2 f2 (i1.trans i2) (fun b x y=>f2' b x (f1 b x y)) (fun b h=>(n2 b h).trans (n1 b h)) q2
  | rt w o'=>exact run more fin fun g' s' t' f i1 f1 n1 q=>by obtain⟨e1,rfl,q⟩:=q;exact k g' s' t' _ i1 f1 n1 ⟨e1,rfl,q⟩
  | bk u' o'=>exact run more fin fun g' s' t' f i1 f1 n1 q=>by obtain⟨rfl,q⟩:=q;exact k g' s' t' _ i1 f1 n1 ⟨rfl,q⟩
  | ct u' o'=>exact run more fin fun g' s' t' f i1 f1 n1 q=>by obtain⟨rfl,q⟩:=q;exact k g' s' t' _ i1 f1 n1 ⟨rfl,q⟩
  | err c x u' o'=>cases fin
  | bad=>cases fin
def yYield (m:EM):YM:=fun u o=>match m u o with
 | .ok (.val d) o'=>if allVal u=true then ([(d,o')],.nx u o') else ([],.bad)
 | _=>([],.bad)
theorem allVal_get {u:Sl3} (h:allVal u=true) {i:Nat} {w:W} (e:u[i]?=some (some w)):∃d,w=.val d:=by
 have:=List.all_eq_true.mp h (some w) (List.mem_of_getElem? e)
 cases w with
 | val d=>exact⟨d,rfl⟩
 | _=>cases this
theorem Slo.vals {G:G3} {X X':Hex} {B0 B B0' B':Addr→Prop} {t t':S3} {u:Sl3} {z:L2.St} (hv:allVal u=true) (i:IoLe t.io t'.io) (f:Same t.F t'.F) (h:Slo G X B0 B t u z):Slo G X' B0' B' t' u z:=by
 obtain⟨hl,ow,h1,h2⟩:=h
 refine⟨hl,ow,fun j w e=>?_,fun j k w w' o1 o2 e1 e2=>h2 j k w w' o1 o2 e1 e2⟩
 obtain⟨d,rfl⟩:=allVal_get hv e
 obtain⟨v,e1,r,_⟩:=h1 j _ e
 exact⟨v,e1,Rep.mono f i r,fun q=>by cases q⟩
theorem ys_yield {e:Expr} {m:EM} {q:Pos} (h:∀g,ME (P.gh g) e m) (hco:P.X.env.scope.isCoroutine=false:=by rfl) (hi:interactive P.X.env=false:=by rfl):YS P nb (.Expr (.Yield (some e) q) pos) (yYield m):=by
 refine⟨fun A c fs K J gd lv rest oE g s ip N M u o z B t gc hN hM a fin k=>?_⟩
 unfold yYield at fin k⊢
 cases em:m u o with
 | err _ _ _=>rw[em] at fin;cases fin
 | bad=>rw[em] at fin;cases fin
 | ok w o'=>
  rw[em] at fin k
  cases w with
  | val d=>
   dsimp only at fin k⊢
   by_cases hv:allVal u=true
   ·rw[if_pos hv] at fin k⊢
    refine sg_yieldS gc.split gc.gd hco hi ?_
    rw[gc.over]
    refine wpAny_mono (wpAny_dozeO (doze_lull s) ((h g).pe.run ip (lull s) z t.H (fun x H'=>∃t',t'.H=H'∧Le B t t'∧Wd P.G B o' t'∧Rep P.G.R t'.F t'.io d x) (inv_lull a.inv) ⟨kept g N,B,t,o,u,rfl,a.wd,a.slo,?_⟩)) (fun v s1 hq=>?_) fun x s' hx=>hx.elim
    ·show Post P.G B (RepW P.G none B) _ t _ (m u o)
     rw[em]
     exact fun t' x l w r=>⟨t',rfl,l,w,r⟩
    ·obtain⟨⟨w0,d1,x,H',I0,rv,t',rfl,l,w1,r1⟩,hz⟩:=hq
     have I1:=inv_dozed (dozed_of d1) a.inv.bare I0
     intro l0 k0 p0 again
     refine⟨v,false,l0,k0,c,p0,fs,rfl,?_,gc.split,ip,N,M,z,B,t',a.gk.doze d1,a.gm,hM,hN,a.dis,I1,a.sub,w1,a.le.trans (l.less fun b q=>a.sub b (.inl q)),a.dj,a.sz,a.yg,(fun b h=>let ⟨ob,e⟩:=a.nz b h;⟨ob,(l.hid b (a.sub b (.inr h))).trans e⟩),⟨x,r1,rv⟩,fun g' wk=>?_⟩
     ·simp[End.quiet,gc.guard]
     ·refine again _ _ (k g' g'.s g'.t .next (fun j b y=>wk.io j b (l.io j b y)) (fun b y q=>wk.fr b y (l.fr b y q)) (fun b q=>(wk.hid b q).2.trans (l.hid b (a.sub b (.inr q)))) ⟨rfl,z,kept g' N,wk.inv,fun b h=>h,wk.wd,?_,Le.refl _,wk.dj,wk.sz,a.yg,(fun b h=>let ⟨ob,e⟩:=a.nz b h;⟨ob,(wk.hid b h).2.trans ((l.hid b (a.sub b (.inr h))).trans e)⟩),(fun b h=>(wk.hid b h).1),wk.gk,wk.gm,wk.gs⟩)
      exact Slo.vals hv (fun j b y=>wk.io j b (l.io j b y)) (fun b y q=>wk.fr b y (l.fr b y q)) a.slo
   ·rw[if_neg hv] at fin;cases fin
  | _=>cases fin
end
end M3
namespace M3
open PySem PySem.Spec PyProof.Rows L2 GenW
section
variable {M:Model} {A:Around} {Z:End→Shared→Prop} {c:Code} {fs:List Frame} {s:Shared} {env:Env}
 {K:Flow→Sem PySem.Fin} {J:Value→Sem PySem.Fin} {gd:Bool→Bool} {lv:List Value→List Value}
theorem sg_ifS {test:Expr} {body orelse:List Stmt} {pos:Pos}
  (h:wpAny M (A.over c fs) (isTrue test env (eval test env)) (fun b s1=>if b=true then Sg M A Z c ((execs body env).wrap K J gd lv) fs s1 else Sg M A Z c ((execs orelse env).wrap K J gd lv) fs s1) (fun _ _=>False) s) :
  Sg M A Z c ((exec (.If test body orelse pos) env).wrap K J gd lv) fs s:=by
 show Sg M A Z c (.at pos fun _=>(isTrue test env (eval test env) >>= fun b=>if b then execs body env else execs orelse env).wrap K J gd lv) fs s
 refine sg_at ?_
 rw[Sem.bind_eq_wrap',Sem.wrap_wrap]
 refine sg_wrap (wpAny_mono h (fun b s1 q=>?_) fun _ _ x=>x.elim)
 cases b <;> exact q
end
section
variable {P:P3} {nb:Bool} {pos:Pos}
def yIf (c:TM) (a b:YM):YM:=fun u o=>match c u o with
 | .ok true o'=>a u o'
 | .ok false o'=>b u o'
 | _=>([],.bad)
theorem ys_if {c:Expr} {body orelse:List Stmt} {mc:TM} {ma mb:YM} (hc:∀g,MT (P.gh g) c mc) (ha:YSs P nb body ma) (hb:YSs P nb orelse mb):YS P nb (.If c body orelse pos) (yIf mc ma mb):=by
 refine⟨fun A cd fs K J gd lv rest oE g s ip N M u o z B t gc hN hM a fin k=>?_⟩
 unfold yIf at fin k⊢
 refine sg_ifS ?_
 rw[gc.over]
 cases e:mc u o with
 | err _ _ _=>rw[e] at fin;cases fin
 | bad=>rw[e] at fin;cases fin
 | ok b o'=>
  rw[e] at fin k
  refine wpAny_mono (wpAny_dozeO (doze_lull s) ((hc g).pt.run ip (lull s) z t.H (fun b' H'=>b'=b∧∃t',t'.H=H'∧Le B t t'∧Wd P.G B o' t') (inv_lull a.inv) ⟨kept g N,B,t,o,u,rfl,a.wd,a.slo,?_⟩)) (fun b' s1 hq=>?_) fun x s' hx=>hx.elim
  ·show Post P.G B _ _ t _ (mc u o)
   rw[e]
   exact fun t' b' l w r=>⟨r.symm,t',rfl,l,w⟩
  ·obtain⟨⟨w0,d1,H',I0,rfl,t',rfl,l,w1⟩,hz⟩:=hq
   have I1:=inv_dozed (dozed_of d1) a.inv.bare I0
   have a1:GAt P ip N M g u o' s1 z B t':=⟨I1,a.sub,w1,a.slo.mono' l,a.le.trans (l.less fun b q=>a.sub b (.inl q)),a.dj,a.sz,a.yg,(fun b h=>let ⟨ob,e⟩:=a.nz b h;⟨ob,(l.hid b (a.sub b (.inr h))).trans e⟩),a.dis,a.gk.doze d1,a.gm,Nat.lt_of_lt_of_le a.gs hz⟩
   cases b' with
   | true=>
    dsimp only at fin k⊢
    rw[if_pos rfl]
    exact ha.run A cd fs K J gd lv rest oE g s1 ip N M u o' z B t' gc hN hM a1 fin fun g' s' t2 f i fr n q=>k g' s' t2 f (l.io.trans i) (fun b x y=>fr b x (l.fr b x y)) (fun b h=>(n b h).trans (l.hid b (a.sub b (.inr h)))) q
   | false=>
    dsimp only at fin k⊢
    rw[if_neg (show ¬(false=true) from Bool.false_ne_true)]
    exact hb.run A cd fs K J gd lv rest oE g s1 ip N M u o' z B t' gc hN hM a1 fin fun g' s' t2 f i fr n q=>k g' s' t2 f (l.io.trans i) (fun b x y=>fr b x (l.fr b x y)) (fun b h=>(n b h).trans (l.hid b (a.sub b (.inr h)))) q
def yNext:YM:=fun u o=>([],.nx u o)
theorem yss_nil:YSs P nb [] yNext:=by
 refine⟨fun A c fs K J gd lv rest oE g s ip N M u o z B t gc hN hM a fin k=>?_⟩
 exact k g s t .next (IoLe.refl _) (Same.refl _) (fun _ _=>rfl) ⟨rfl,z,B,a⟩
def yForL (g:GM) (b:YM):List D→YM
 | [],u,o=>([],.nx u o)
 | d :: ds,u,o=>match g d u with
  | none=>([],.bad)
  | some u1=>match b u1 o with
   | (xs,.nx u2 o2)=>(xs++(yForL g b ds u2 o2).1,(yForL g b ds u2 o2).2)
   | (xs,.ct u2 o2)=>(xs++(yForL g b ds u2 o2).1,(yForL g b ds u2 o2).2)
   | (xs,.bk u2 o2)=>(xs,.nx u2 o2)
   | r=>r
def yFor (m:FM) (g:GM) (b:YM):YM:=fun u o=>match m u o with
 | .ok ds o'=>yForL g b ds u o'
 | _=>([],.bad)
theorem GAt.more {ip pl:List (Addr×Obj)} {N:Addr→Prop} {M:Nat→Option GenState} {g:Gh} {u:Sl3} {o:Store} {s:Shared} {z:L2.St} {B:Addr→Prop} {t:S3} (a:GAt P ip N M g u o s z B t) (I:Inv (cxG P.X g) (ip++pl) z t.H s) (d:∀p∈g.pn,∀q∈pl,p.1≠q.1) (y:∀q∈pl,P.X.s_0.heap.objs.size≤q.1):GAt P (ip++pl) N M g u o s z B t:=
 ⟨I,a.sub,a.wd,a.slo,a.le,fun p hp q hq=>(List.mem_append.mp hq).elim (a.dj p hp q) (d p hp q),a.sz,fun q hq=>(List.mem_append.mp hq).elim (a.yg q) (y q),a.nz,a.dis,a.gk,a.gm,a.gs⟩
theorem GAt.fewer {ip pl:List (Addr×Obj)} {N:Addr→Prop} {M:Nat→Option GenState} {g:Gh} {u:Sl3} {o:Store} {s:Shared} {z:L2.St} {B:Addr→Prop} {t:S3} (a:GAt P (ip++pl) N M g u o s z B t):GAt P ip N M g u o s z B t:=
 ⟨Inv.unpinned (pins:=ip) (pl:=pl) a.inv,a.sub,a.wd,a.slo,a.le,fun p hp q hq=>a.dj p hp q (List.mem_append_left _ hq),a.sz,fun q hq=>a.yg q (List.mem_append_left _ hq),a.nz,a.dis,a.gk,a.gm,a.gs⟩
theorem gc_in {A:Around} {c c':Code} {fs:List Frame} {gd:Bool→Bool} {k:Result→Sem PySem.Fin} {l kp:List Value} {p:Pos} (g:SgC P A c fs gd) (hw:c'.weight=0) (hu:c'.cUnits=0):SgC P A c' (.ret k none (gd false) l c p kp :: fs) id:=
 ⟨(over_loop hw hu).trans g.over,(show (splitAtGen fs).map _=none by rw[g.split];rfl),(show (gd false || fs.any Frame.guarded)=false by rw[g.gd,g.guard];rfl),rfl⟩
structure FpG (P:P3) (ip:List (Addr×Obj)) (fp:List Addr):Prop where
 loc:∀b∈fp,b≠P.X.env.locals∧b∉P.X.fs∧P.X.s_0.heap.objs.size≤b∧(∀x c,P.X.env.cells.lookup x=some c→c≠b)∧∀p∈ip,p.1≠b
theorem FpG.ok {ip:List (Addr×Obj)} {fp:List Addr} (h:FpG P ip fp) {N:Addr→Prop} {M:Nat→Option GenState} {g:Gh} {u:Sl3} {o:Store} {s:Shared} {z:L2.St} {B:Addr→Prop} {t:S3} (a:GAt P ip N M g u o s z B t) (free:∀b∈fp,t.H b=none) (dj:∀p∈g.pn,p.1∉fp):∀b∈fp,FpOk (cxG P.X g) ip t.H b:=fun b hb=>by
 obtain⟨h1,h2,h3,h4,h5⟩:=h.loc b hb
 refine⟨free b hb,h1,h2,.inr (by show g.s0.heap.objs.size≤b;rw[a.sz];exact h3),h4,fun p hp=>?_⟩
 exact(List.mem_append.mp hp).elim (fun q e=>dj p q (e▸hb)) (h5 p)
end
end M3
namespace M3
open PySem PySem.Spec PyProof.Rows L2 GenW
section
variable {P:P3} {nb:Bool} {pos:Pos}
theorem ys_for {tg iter:Expr} {body:List Stmt} {mi:FM} {gt:GM} {gs:List Nat} {mb:YM} (hA:P.X.A.handled=none) (hi:∀g,MI (P.gh g) tg iter mi) (hg:∀g,MG (P.gh g) tg gt gs) (hb:YSs P nb body mb)
  (hs:∀x,foldedSetIterable iter P.X.env x=pure x:=by intro _;rfl):YS P nb (.For tg iter body [] pos) (yFor mi gt mb):=by
 refine⟨fun A c fs K J gd lv rest oE g s ip N M u o z B t gc hN hM a fin k=>?_⟩
 unfold yFor at fin k⊢
 cases e:mi u o with
 | err _ _ _=>rw[e] at fin;cases fin
 | bad=>rw[e] at fin;cases fin
 | ok ds o1=>
 rw[e] at fin k
 dsimp only at fin k⊢
 refine sg_forS hs ?_
 rw[gc.over]
 refine wpAny_mono (wpAny_dozeO (doze_lull s) ((hi g).pi.run ip (lull s) z t.H (fun Jt H'=>∃t',t'.H=H'∧Le B t t'∧Wd P.G B o1 t'∧Itm P.G t' ds Jt) (inv_lull a.inv) ⟨kept g N,B,t,o,u,rfl,a.wd,a.slo,?_⟩)) (fun v s1 q1=>?_) fun _ _ x=>x.elim
 ·show Post P.G B _ _ t _ (mi u o)
  rw[e]
  exact fun t' Jt l w im=>⟨t',rfl,l,w,im⟩
 obtain⟨⟨w1',d1,q1⟩,hz1⟩:=q1
 refine wpAny_mono (wpAny_dozeO d1 q1) (fun itv s2 q2=>?_) fun _ _ x=>x.elim
 obtain⟨⟨w2',d2,q2⟩,hz2⟩:=q2
 intro p kk hkk
 obtain⟨it,fp,tn,Jt,H2,ev,I2',T,st2',f2,t1,e1,l1,w1,im⟩:=q2
 have I2:=inv_dozed (dozed_of d2) a.inv.bare I2'
 have st2:tn 0 s2.heap:=by rw[(dozed_of d2).heap];exact st2'
 subst ev
 subst e1
 have hF:FpG P ip fp:=⟨fun b hb=>by
  obtain⟨_,h1,h2,h3,h4,h5⟩:=f2 b hb
  refine⟨h1,h2,?_,h4,fun p hp=>h5 p (List.mem_append_right _ hp)⟩
  rcases h3 with h3 | h3
  ·exact absurd (show b∈([]:List Addr) from h3) (by simp)
  ·rw[←a.sz];exact h3⟩
 have a1:GAt P ip N M g u o1 s2 z B t1:=⟨I2,a.sub,w1,a.slo.mono' l1,a.le.trans (l1.less fun b q=>a.sub b (.inl q)),a.dj,a.sz,a.yg,(fun b h=>let ⟨ob,e⟩:=a.nz b h;⟨ob,(l1.hid b (a.sub b (.inr h))).trans e⟩),a.dis,a.gk.doze d2,a.gm,Nat.lt_of_lt_of_le a.gs (Nat.le_trans hz1 hz2)⟩
 have gl:=gc_in (k:=kk) (c':=.forLoop tg (.ref it) body [] P.X.env) (l:=lv []) (kp:=[]) (p:=p) gc rfl rfl
 have cool:∀g':Gh,Cool (cxG P.X g'):=fun g'=>.inl hA
 have loop:∀(l:List D) (i:Nat) (g':Gh) (s':Shared) (u':Sl3) (o':Store) (z':L2.St) (B':Addr→Prop) (t':S3),ds.drop i=l→GAt P ip N M g' u' o' s' z' B' t'→IoLe t1.io t'.io→Same t1.F t'.F→tn i s'.heap→(∀b∈fp,t'.H b=none)→(∀p∈g'.pn,p.1∉fp)→
   (yForL gt mb l u' o').2.fine=true→(∀(g2:Gh) (s3:Shared) (t2:S3) (f:Flow),IoLe t'.io t2.io→Same t'.F t2.F→(∀b,N b→t2.H b=t'.H b)→OutS P ip N M g2 t2 s3 (yForL gt mb l u' o').2 f→Sg (model P.X.prog P.X.w) A (ZG P nb A rest oE g2) c (K f) fs s3)→
   Sg (model P.X.prog P.X.w) A (ZG P nb A ((yForL gt mb l u' o').1++rest) oE g') (.forLoop tg (.ref it) body [] P.X.env) ((model P.X.prog P.X.w).den (.forLoop tg (.ref it) body [] P.X.env)) (.ret kk none (gd false) (lv []) c p [] :: fs) s':=by
  intro l
  induction l with
  | nil=>
   intro i g' s' u' o' z' B' t' hd a' io fr st free dj fin' k'
   have hi':ds.length≤i:=by
    have:=congrArg List.length hd
    rw[List.length_drop,List.length_nil] at this
    omega
   refine sg_loopS ?_
   rw[gl.over]
   refine wpAny_mono (wpAny_dozeO (doze_lull s') (T.done (cxG P.X g') rfl rfl rfl (cool g') i ip (lull s') z' t'.H _ (inv_lull a'.inv) (hF.ok a' free dj) st (im.stop t' io fr a'.wd.sub i hi'))) (fun r s4 q=>?_) fun _ _ x=>x
   obtain⟨⟨w4',d4,rfl,I4'⟩,hz4⟩:=q
   have I4:=inv_dozed (dozed_of d4) a'.inv.bare I4'
   refine sg_leaf (.ok .next) ?_
   rw[hkk]
   exact k' g' s4 t' .next (IoLe.refl _) (Same.refl _) (fun _ _=>rfl) ⟨rfl,z',B',I4,a'.sub,a'.wd,a'.slo,a'.le,a'.dj,a'.sz,a'.yg,a'.nz,a'.dis,a'.gk.doze d4,a'.gm,Nat.lt_of_lt_of_le a'.gs hz4⟩
  | cons d l ih=>
   intro i g' s' u' o' z' B' t' hd a' io fr st free dj fin' k'
   have hi':i<ds.length:=by
    have:=congrArg List.length hd
    rw[List.length_drop,List.length_cons] at this
    omega
   have hd1:ds.drop (i+1)=l:=by rw[←List.tail_drop,hd];rfl
   have hdi:ds[i]?=some d:=by
    have:=congrArg (fun x=>x[0]?) hd
    simpa using this
   refine sg_loopS ?_
   rw[gl.over]
   refine wpAny_mono (wpAny_dozeO (doze_lull s') (T.item (cxG P.X g') rfl rfl rfl (cool g') i ip (lull s') z' t'.H _ (inv_lull a'.inv) (hF.ok a' free dj) st (im.go t' io fr a'.wd.sub i hi'))) (fun r s4 q=>?_) fun _ _ x=>x
   obtain⟨⟨w4',d4,v,rfl,q⟩,hz4⟩:=q
   refine wpAny_mono (wpAny_dozeO d4 q) (fun _ s5 q=>?_) fun _ _ x=>x
   obtain⟨⟨w5',d5,x,H5,I5',r5,y5,st5',fr5⟩,hz5⟩:=q
   have I5:=inv_dozed (dozed_of d5) a'.inv.bare I5'
   have st5:tn (i+1) s5.heap:=by rw[(dozed_of d5).heap];exact st5'
   have gk5:=a'.gk.doze d5
   have gs5:=Nat.lt_of_lt_of_le a'.gs (Nat.le_trans hz4 hz5)
   obtain⟨e5,d',ed,rd⟩:=im.yld t' io fr a'.wd.sub i x H5 hi' y5
   subst e5
   have ed:d'=d:=by rw[hdi] at ed;cases ed;rfl
   subst ed
   have a5:GAt P ip N M g' u' o' s5 z' B' t':=⟨I5,a'.sub,a'.wd,a'.slo,a'.le,a'.dj,a'.sz,a'.yg,a'.nz,a'.dis,gk5,a'.gm,gs5⟩
   have I6:=I5.pinned (hF.ok a5 fr5 dj) (T.obj _ _ st5)
   unfold yForL at fin' k'⊢
   cases eg:gt d' u' with
   | none=>rw[eg] at fin';cases fin'
   | some u1=>
   rw[eg] at fin' k'
   dsimp only at fin' k'⊢
   refine wpAny_mono (wpAny_dozeO (doze_lull s5) ((hg g').pg.run _ (lull s5) z' t'.H x v (fun z2 H2=>H2=t'.H∧Slo P.G none (kept g' N) B' t' u1 z2) (inv_lull I6) r5 ⟨kept g' N,B',t',o',u',d',u1,rfl,a'.wd,a'.slo,rd,eg,fun z2 sl _=>⟨rfl,sl⟩⟩)) (fun _ s6 q=>?_) fun _ _ x=>x
   obtain⟨⟨w6',d6,z2,H2,I7',e7,sl7⟩,hz6⟩:=q
   subst e7
   have I7:=inv_dozed (dozed_of d6) I6.bare I7'
   intro J'
   have a7:GAt P (ip++pinsAt fp s5.heap) N M g' u1 o' s6 z2 B' t':=GAt.more ⟨Inv.unpinned (pins:=ip) (pl:=pinsAt fp s5.heap) I7,a'.sub,a'.wd,sl7,a'.le,a'.dj,a'.sz,a'.yg,a'.nz,a'.dis,gk5.doze d6,a'.gm,Nat.lt_of_lt_of_le gs5 hz6⟩ I7 (fun p hp q hq e=>dj p hp (e▸(of_pinsAt hq).1)) fun q hq=>(hF.loc q.1 (of_pinsAt hq).1).2.2.1
   have run:=fun rest'=>hb.run A (.forLoop tg (.ref it) body [] P.X.env) (.ret kk none (gd false) (lv []) c p [] :: fs) (turnK tg (.ref it) body P.X.env) J' id id rest' oE g' s6 (ip++pinsAt fp s5.heap) N M u1 o' z2 B' t' gl hN hM a7
   have on:∀{g2:Gh} {s3:Shared} {t2:S3} {u2:Sl3} {o2:Store} {z3:L2.St} {B3:Addr→Prop},IoLe t'.io t2.io→Same t'.F t2.F→GAt P (ip++pinsAt fp s5.heap) N M g2 u2 o2 s3 z3 B3 t2→(yForL gt mb l u2 o2).2.fine=true→
     (∀(g4:Gh) (s4:Shared) (t4:S3) (f:Flow),IoLe t2.io t4.io→Same t2.F t4.F→(∀b,N b→t4.H b=t2.H b)→OutS P ip N M g4 t4 s4 (yForL gt mb l u2 o2).2 f→Sg (model P.X.prog P.X.w) A (ZG P nb A rest oE g4) c (K f) fs s4)→
     Sg (model P.X.prog P.X.w) A (ZG P nb A ((yForL gt mb l u2 o2).1++rest) oE g2) (.forLoop tg (.ref it) body [] P.X.env) (.pure (.again (.forLoop tg (.ref it) body [] P.X.env))) (.ret kk none (gd false) (lv []) c p [] :: fs) s3:=by
    intro g2 s3 t2 u2 o2 z3 B3 i2 fr2 a3 fin3 k3
    have pin:∀b∈fp,∀ob,s5.heap.get? b=some ob→s3.heap.get? b=some ob∧t2.H b=none:=fun b hb ob eb=>by
     obtain⟨h1,h2,_⟩:=a3.inv.pin (b,ob) (List.mem_append_right _ (List.mem_append_right _ (mem_pinsAt hb eb)))
     exact⟨h1,h2⟩
    refine sg_again rfl (ih (i+1) g2 s3 u2 o2 z3 B3 t2 hd1 a3.fewer (io.trans i2) (fun b x y=>fr2 b x (fr b x y)) (T.keep _ _ _ st5 fun b hb ob eb=>(pin b hb ob eb).1) (fun b hb=>?_) (fun p hp hm=>?_) fin3 k3)
    ·obtain⟨ob,eb,_⟩:=T.obj _ _ st5 b hb
     exact(pin b hb ob eb).2
    ·obtain⟨ob,eb,_⟩:=T.obj _ _ st5 p.1 hm
     exact a3.dj p hp (p.1,ob) (List.mem_append_right _ (mem_pinsAt hm eb)) rfl
   cases em:mb u1 o' with
   | mk xs r=>
   rw[em] at fin' k' run
   have less:∀{g2:Gh} {t2:S3} {s3:Shared} {w:W} {o2:Store} {f:Flow},OutS P (ip++pinsAt fp s5.heap) N M g2 t2 s3 (.rt w o2) f→OutS P ip N M g2 t2 s3 (.rt w o2) f:=fun h=>h
   cases r with
   | nx u2 o2=>
    dsimp only at fin' k' run⊢
    rw[List.append_assoc]
    refine run _ rfl fun g2 s3 t2 f i2 fr2 n2 q=>?_
    obtain⟨rfl,z3,B3,a3⟩:=q
    exact on i2 fr2 a3 fin' fun g4 s4 t4 f i4 fr4 n4 q=>k' g4 s4 t4 f (i2.trans i4) (fun b x y=>fr4 b x (fr2 b x y)) (fun b h=>(n4 b h).trans (n2 b h)) q
   | ct u2 o2=>
    dsimp only at fin' k' run⊢
    rw[List.append_assoc]
    refine run _ rfl fun g2 s3 t2 f i2 fr2 n2 q=>?_
    obtain⟨rfl,z3,B3,a3⟩:=q
    exact on i2 fr2 a3 fin' fun g4 s4 t4 f i4 fr4 n4 q=>k' g4 s4 t4 f (i2.trans i4) (fun b x y=>fr4 b x (fr2 b x y)) (fun b h=>(n4 b h).trans (n2 b h)) q
   | bk u2 o2=>
    dsimp only at fin' k' run⊢
    refine run _ rfl fun g2 s3 t2 f i2 fr2 n2 q=>?_
    obtain⟨rfl,z3,B3,a3⟩:=q
    refine sg_leaf (.ok .next) ?_
    rw[hkk]
    exact k' g2 s3 t2 .next i2 fr2 n2 ⟨rfl,z3,B3,a3.fewer⟩
   | rt w o2=>
    dsimp only at fin' k' run⊢
    refine run _ fin' fun g2 s3 t2 f i2 fr2 n2 q=>?_
    obtain⟨ew,rfl,q⟩:=q
    refine sg_leaf (.ok (.ret .none)) ?_
    rw[hkk]
    exact k' g2 s3 t2 _ i2 fr2 n2 ⟨ew,rfl,q⟩
   | err _ _ _ _=>cases fin'
   | bad=>cases fin'
 exact loop ds 0 g s2 u o1 z B t1 rfl a1 (IoLe.refl _) (Same.refl _) st2 (fun b hb=>(f2 b hb).1) (fun p hp hm=>(f2 p.1 hm).2.2.2.2.2 p (List.mem_append_left _ hp) rfl) fin fun g2 s3 t2 f i2 fr2 n2 q=>k g2 s3 t2 f (l1.io.trans i2) (fun b x y=>fr2 b x (l1.fr b x y)) (fun b h=>(n2 b h).trans (l1.hid b (a.sub b (.inr h)))) q
end
end M3
namespace M3
open PySem PySem.Spec PyProof.Rows L2 GenW
def cutGh (n:Nat) (s:Shared):Shared:={ s with heap:={ s.heap with objs:=s.heap.objs.extract 0 n } }
theorem cut_lt {n:Nat} {s:Shared} {b:Addr} (h:b<n):(cutGh n s).heap.get? b=s.heap.get? b:=by
 have e:(cutGh n s).heap.objs[b]?=s.heap.objs[b]?:=by
  show (s.heap.objs.extract 0 n)[b]?=_
  have h':@LT.lt Nat _ b n:=h
  rcases Nat.lt_or_ge (b:Nat) s.heap.objs.size with hs | hs
  ·rw[Array.getElem?_extract]
   have:@LT.lt Nat _ b (min n s.heap.objs.size - 0):=by omega
   rw[if_pos this,Nat.zero_add]
  ·have e1:(s.heap.objs.extract 0 n).size≤b:=by
    have:(s.heap.objs.extract 0 n).size=min n s.heap.objs.size - 0:=by simp
    rw[this]
    omega
   rw[Array.getElem?_eq_none e1,Array.getElem?_eq_none hs]
 unfold Heap.get?
 rw[e]
theorem cut_size {n:Nat} {s:Shared} (h:n≤s.heap.objs.size):(cutGh n s).heap.objs.size=n:=by
 show (s.heap.objs.extract 0 n).size=n
 simp
 omega
theorem cut_some {n:Nat} {s:Shared} {b:Addr} {o:Obj} (hn:n≤s.heap.objs.size) (h:(cutGh n s).heap.get? b=some o):b<n∧s.heap.get? b=some o:=by
 have lt:=Heap.lt_size h
 rw[cut_size hn] at lt
 exact⟨lt,(cut_lt lt).symm.trans h⟩
theorem funs_cut {base:Heap} {n:Nat} {s:Shared}:∀{l:List Env},(∀b∈frs l,b<n)→s.heap.FunFrames base l→(cutGh n s).heap.FunFrames base l
 | [],_,_=>trivial
 | env :: r,hb,h=>by
  obtain⟨hk,⟨L,o,hf,hn,ho,hd⟩,hr⟩:=h
  have hL:L<n:=hb L (by unfold frs;rw[List.filterMap_cons,hf];exact List.mem_cons_self)
  refine⟨hk,⟨L,o,hf,hn,(cut_lt hL).trans ho,hd⟩,funs_cut (fun b q=>hb b ?_) hr⟩
  unfold frs at q⊢
  rw[List.filterMap_cons]
  cases env.frame with
  | none=>exact q
  | some y=>exact List.mem_cons_of_mem _ q
structure LOk (X:Cx) (ip:List (Addr×Obj)) (s:Shared) (L:List (Addr×Obj)):Prop where
 loc:∃o,(X.env.locals,o)∈L
 cell:∀x c,X.env.cells.lookup x=some c→∃o,(c,o)∈L
 ip:∀p∈ip,p∈L
 get:∀p∈L,s.heap.get? p.1=some p.2
section
variable {P:P3} {L:List (Addr×Obj)} {ip:List (Addr×Obj)} {z:L2.St} {B:Addr→Prop} {t:S3} {o:Store} {g0 g:Gh} {s:Shared}
theorem wake_inv (hst:P.X.stack=P.X.env :: P.X.outer∧P.X.env.frame=some P.X.env.locals) (hfr:P.X.A.frames=some P.X.stack) {A':Around} (hL:LOk P.X ip s L) (hz:g0.s0.heap.objs.size=P.X.s_0.heap.objs.size) (I:Inv (cxG P.X g0) ip z t.H s)
  (b:Env0 P.X.prog P.X.w P.X.K P.X.mg P.X.base A' P.X.outer g.s g.t.H) (e0:g.s0=cutGh P.X.s_0.heap.objs.size g.s) (sz:P.X.s_0.heap.objs.size≤g.s.heap.objs.size)
  (keep:∀p∈L,g.s.heap.get? p.1=some p.2∧g.t.H p.1=none) (pn:∀p∈g.pn,g.s.heap.get? p.1=some p.2∧g.t.H p.1=none∧(∀q∈L,p.1≠q.1)∧p.1∉P.X.fs∧∀v,p.2.data≠.cell v):Inv (cxG P.X g) ip z g.t.H g.s:=by
 have szc:g.s0.heap.objs.size=P.X.s_0.heap.objs.size:=by rw[e0];exact cut_size sz
 have okO:=I.ok
 have low:∀x∈frs P.X.outer,x<P.X.s_0.heap.objs.size:=fun x hx=>by
  obtain⟨_,o',ho,_⟩:=okO.funs.mem hx
  rw[←hz]
  exact Heap.lt_size ho
 have getc:∀{x:Addr} {ob:Obj},g.s0.heap.get? x=some ob→g.s.heap.get? x=some ob:=fun q=>by rw[e0] at q;exact(cut_some sz q).2
 have at_:∀p∈L,∀ob,s.heap.get? p.1=some ob→g.s.heap.get? p.1=some ob:=fun p hp ob e=>by
  have h1:=hL.get p hp
  rw[h1] at e
  cases e
  exact(keep p hp).1
 have atC:∀{x:Str} {c:Addr} {v:Option Value},P.X.env.cells.lookup x=some c→s.heap.IsCell c v→g.s.heap.IsCell c v:=fun {x c v} h ⟨ob,e,d⟩=>by
  obtain⟨o',m⟩:=hL.cell x c h
  exact⟨ob,at_ _ m ob e,d⟩
 obtain⟨lo,hlo⟩:=hL.loc
 refine⟨⟨okO.mod,okO.kind,okO.glob,okO.blt,?_,okO.inj,okO.has,fun x c h1 h2=>?_,okO.hd,okO.frames,okO.stk,fun _ h=>absurd h (by simp[cxG]),fun x ob e=>?_,?_,fun _ _ _ h=>absurd h (by simp[cxG]),fun _ h=>absurd h (by simp[cxG]),?_,b.frf⟩,?_,b.bare,?_,?_,fun x c h=>?_,(keep _ hlo).2,fun x c h=>?_,fun p hp=>?_,b.hok,I.len⟩
 ·show g.s0.heap.objs.size≤_
  rw[szc,←hz]
  exact okO.above
 ·show g.s0.heap.objs.size≤c
  rw[szc,←hz]
  exact okO.cab x c h1 h2
 ·have lt:x<P.X.s_0.heap.objs.size:=Nat.lt_of_lt_of_le (Heap.lt_size e) (hz▸okO.bsz)
  show g.s0.heap.get? x=some ob∧_
  rw[e0,cut_lt lt]
  exact b.bs x ob e
 ·show P.X.base.objs.size≤g.s0.heap.objs.size
  rw[szc,←hz]
  exact okO.bsz
 ·show g.s0.heap.FunFrames P.X.base P.X.outer
  rw[e0]
  exact funs_cut low b.funs
 ·show g.s.os=g.s0.os
  rw[e0]
  rfl
 ·exact⟨fun x ob e _ _ _=>getc e,fun x ob e _ _ _=>⟨ob.slots,getc e⟩,fun _ _ _ n _=>n,fun x ob e _=>⟨ob,getc e⟩,fun _ _ h=>h,fun _ _ _ h=>h,fun _ ps h=>⟨#[],by rw[Array.append_empty];exact h⟩⟩
 ·obtain⟨m,⟨ob,es,ep,e,r⟩,h⟩:=I.loc
  refine⟨m,⟨ob,es,ep,at_ _ hlo ob e,r⟩,fun i x v h1 h2 h3=>?_⟩
  obtain⟨w,rw',lk⟩:=h i x v h1 h2 h3
  refine⟨w,rw',?_⟩
  rcases lk with lk | ⟨q,c,hc,ic⟩
  ·exact .inl lk
  ·exact .inr ⟨q,c,hc,atC hc ic⟩
 ·obtain⟨v,ic⟩:=I.cell x c h
  exact⟨v,atC h ic⟩
 ·obtain⟨o',m⟩:=hL.cell x c h
  exact(keep _ m).2
 ·rcases List.mem_append.mp hp with q | q
  ·obtain⟨h1,h2,h3,h4,h5⟩:=pn p q
   exact⟨h1,h2,h3 _ hlo,h4,h5⟩
  ·obtain⟨_,_,h3,h4,h5⟩:=I.pin p (List.mem_append_right _ q)
   exact⟨(keep p (hL.ip p q)).1,(keep p (hL.ip p q)).2,h3,h4,h5⟩
end
end M3
namespace M3
open PySem PySem.Spec PyProof.Rows L2 GenW
theorem code_two (c:Addr) (q:Str) (t:Tok):∃h:Heap,(∃(oc:Obj) (vs:Array Value) (t:Tok),h.get? c=some oc∧oc.data=.fields vs∧vs[1]?=some (.str q t))∧∀a o,h.get? a=some o→o.data=.fields #[.none,.str q t]:=by
 refine⟨{ objs:=Array.replicate (c+1) { cls:=.none,data:=.fields #[.none,.str q t] } },⟨{ cls:=.none,data:=.fields #[.none,.str q t] },_,t,?_,rfl,rfl⟩,fun a o e=>?_⟩
 ·unfold Heap.get?
  simp
 ·unfold Heap.get? at e
  simp only[Array.getElem?_replicate] at e
  split at e
  ·cases e
  ·split at e
   ·cases e;rfl
   ·cases e
theorem zx_code {p:Addr} {o:Obj} {c:Addr} {q:Str} (e:zx p o=LamX.CodeO c q):False:=by
 unfold zx LamX.CodeO at e
 injection e with e
 have at_:∀t:Tok,o.data=.fields #[.none,.str q t]:=fun t=>by
  obtain⟨h,h1,h2⟩:=code_two c q t
  exact h2 p o ((congrFun e h).mpr h1)
 have:=(at_ 0).symm.trans (at_ 1)
 simp at this
theorem zx_own (p:Addr) (o:Obj):OwnH (zx p o):=⟨(fun _ e=>by cases e),fun _ _ e=>zx_code e⟩
theorem zx_ok {P:Program} {w:World} {H:Hp} {h:Heap} {p:Addr} {o:Obj} (e:h.get? p=some o):ObjOk P w H h p (zx p o):=⟨e,⟨o,e⟩,fun _ _ x k=>k o x⟩
def withL (H:Hp) (L:List (Addr×Obj)):Hp:=fun b=>match L.lookup b with
 | some o=>some (zx b o)
 | none=>H b
def offL (H:Hp) (L:List (Addr×Obj)):Hp:=fun b=>match L.lookup b with
 | some _=>none
 | none=>H b
theorem lookL {L:List (Addr×Obj)} {b:Addr} {o:Obj} (h:L.lookup b=some o):(b,o)∈L:=by
 induction L with
 | nil=>cases h
 | cons x L ih=>
  rw[List.lookup_cons] at h
  split at h
  ·rename_i q
   cases h
   have:=eq_of_beq q
   subst this
   exact List.mem_cons_self
  ·exact List.mem_cons_of_mem _ (ih h)
theorem lookN {L:List (Addr×Obj)} {b:Addr} (h:L.lookup b=none):∀p∈L,p.1≠b:=fun p hp e=>by
 induction L with
 | nil=>cases hp
 | cons x L ih=>
  rw[List.lookup_cons] at h
  split at h
  ·cases h
  ·rename_i q
   rcases List.mem_cons.mp hp with z | z
   ·subst z
    exact absurd e.symm (by simpa using q)
   ·exact ih h z
theorem inL {L:List (Addr×Obj)} {p:Addr×Obj} (h:p∈L):∃o,L.lookup p.1=some o:=by
 cases e:L.lookup p.1 with
 | some o=>exact⟨o,rfl⟩
 | none=>exact absurd rfl (lookN e p h)
section
variable {X:Cx} {pins:List (Addr×Obj)} {z:L2.St} {H:Hp} {s:Shared} {L:List (Addr×Obj)}
theorem inv_withL (I:Inv X pins z H s) (hn:∀p∈L,H p.1=none) (hg:∀p∈L,s.heap.get? p.1=some p.2) (ex:ExOk X pins (L.map Prod.fst)):Inv X pins z (withL H L) s:=by
 have out:∀{b:Addr} {u:HO},H b=some u→withL H L b=some u:=fun {b u} e=>by
  unfold withL
  cases q:L.lookup b with
  | none=>exact e
  | some o=>rw[hn _ (lookL q)] at e;cases e
 refine I.call' (ch:=L.map Prod.fst) rfl ⟨fun _ _ e _ _ _=>e,fun b o e _ _ _=>⟨o.slots,e⟩,fun b o e n hx=>?_,fun b o e _=>⟨o,e⟩,fun b xs e=>out e,fun b o u e=>out e,fun b ps e=>⟨#[],by rw[Array.append_empty];exact out e⟩⟩ (fun b u e=>?_) I.bare ex
 ·unfold withL
  cases q:L.lookup b with
  | none=>exact n
  | some o'=>exact absurd (List.mem_map.mpr ⟨_,lookL q,rfl⟩) hx
 ·unfold withL at e
  cases q:L.lookup b with
  | none=>
   rw[q] at e
   exact(I.hok b u e).stay (fun _ _ _ y=>y) (fun d y=>out y) fun d xs y=>out y
  | some o'=>
   rw[q] at e
   cases e
   exact zx_ok (hg _ (lookL q))
theorem inv_offL (I:Inv X pins z H s) (hn:∀p∈L,H p.1=some (zx p.1 p.2)) (ex:ExOk X pins (L.map Prod.fst)):Inv X pins z (offL H L) s:=by
 have out:∀{b:Addr} {u:HO},H b=some u→(∀φ,u≠.ext φ)→offL H L b=some u:=fun {b u} e ne=>by
  unfold offL
  cases q:L.lookup b with
  | none=>exact e
  | some o=>rw[hn _ (lookL q)] at e;cases e;exact absurd rfl (ne _)
 refine I.call' (ch:=L.map Prod.fst) rfl ⟨fun _ _ e _ _ _=>e,fun b o e _ _ _=>⟨o.slots,e⟩,fun b o e n hx=>?_,fun b o e _=>⟨o,e⟩,fun b xs e=>out e (fun _ y=>by cases y),fun b o u e=>out e (fun _ y=>by cases y),fun b ps e=>⟨#[],by rw[Array.append_empty];exact out e (fun _ y=>by cases y)⟩⟩ (fun b u e=>?_) I.bare ex
 ·unfold offL
  cases q:L.lookup b with
  | none=>exact n
  | some o'=>rfl
 ·unfold offL at e
  cases q:L.lookup b with
  | none=>
   rw[q] at e
   exact(I.hok b u e).stay (fun _ _ _ y=>y) (fun d y=>out y (fun _ y=>by cases y)) fun d xs y=>out y (fun _ y=>by cases y)
  | some o'=>
   rw[q] at e
   cases e
end
def isCellD:Data→Bool
 | .cell _=>true
 | _=>false
def restL (n:Nat) (s:Shared) (H:Hp) (L:List (Addr×Obj)):List (Addr×Obj):=(List.range s.heap.objs.size).filterMap fun b=>match s.heap.get? b,H b,L.lookup b with
 | some o,none,none=>if n≤b∧isCellD o.data=false then some (b,o) else none
 | _,_,_=>none
noncomputable def wildL (n:Nat) (s:Shared) (H:Hp) (L:List (Addr×Obj)) (Hid:Addr→Prop):List Addr:=(List.range s.heap.objs.size).filter fun b=>open Classical in decide (n≤b∧(restL n s H L).lookup b=none∧¬Hid b)
theorem of_restL {n:Nat} {s:Shared} {H:Hp} {L:List (Addr×Obj)} {p:Addr×Obj} (h:p∈restL n s H L):s.heap.get? p.1=some p.2∧H p.1=none∧(∀q∈L,p.1≠q.1)∧n≤p.1∧∀v,p.2.data≠.cell v:=by
 obtain⟨b,hr,e⟩:=List.mem_filterMap.mp h
 cases e1:s.heap.get? b with
 | none=>rw[e1] at e;cases e
 | some o=>
  cases e2:H b with
  | some u=>rw[e1,e2] at e;cases e
  | none=>
   cases e3:L.lookup b with
   | some u=>rw[e1,e2,e3] at e;cases e
   | none=>
    rw[e1,e2,e3] at e
    dsimp only at e
    split at e
    ·rename_i q
     cases e
     exact⟨e1,e2,fun q hq z=>lookN e3 q hq z.symm,q.1,fun v z=>by have:=q.2;rw[z] at this;cases this⟩
    ·cases e
theorem in_restL {n:Nat} {s:Shared} {H:Hp} {L:List (Addr×Obj)} {b:Addr} {o:Obj} (h1:s.heap.get? b=some o) (h2:H b=none) (h3:L.lookup b=none) (h4:n≤b) (h5:isCellD o.data=false):(b,o)∈restL n s H L:=by
 refine List.mem_filterMap.mpr ⟨b,List.mem_range.mpr (Heap.lt_size h1),?_⟩
 rw[h1,h2,h3]
 dsimp only
 rw[if_pos ⟨h4,h5⟩]
open Classical in
theorem of_wildL {n:Nat} {s:Shared} {H:Hp} {L:List (Addr×Obj)} {Hid:Addr→Prop} {b:Addr} (h:b∈wildL n s H L Hid):n≤b∧(∀p∈restL n s H L,p.1≠b)∧¬Hid b:=by
 obtain⟨h1,h2⟩:=List.mem_filter.mp h
 obtain⟨h3,h4,h5⟩:=of_decide_eq_true h2
 exact⟨h3,lookN h4,h5⟩
open Classical in
theorem not_wildL {n:Nat} {s:Shared} {H:Hp} {L:List (Addr×Obj)} {Hid:Addr→Prop} {b:Addr} {o:Obj} (e:s.heap.get? b=some o) (h:n≤b) (hn:¬Hid b) (nw:b∉wildL n s H L Hid):(b,o)∈restL n s H L:=by
 cases q:(restL n s H L).lookup b with
 | none=>exact absurd (List.mem_filter.mpr ⟨List.mem_range.mpr (Heap.lt_size e),decide_eq_true ⟨h,q,hn⟩⟩) nw
 | some o'=>
  have m:=lookL q
  have:=(of_restL m).1
  rw[e] at this
  cases this
  exact m
theorem known_there {P:Program} {w:World} {H:Hp} {h:Heap} {a:Addr} {o:HO} (x:ObjOk P w H h a o):∃ob,h.get? a=some ob:=by
 cases o with
 | tup xs=>obtain⟨_,_,_,ob,e,_⟩:=x;exact⟨ob,e⟩
 | lst xs=>obtain⟨_,_,_,_,q⟩:=x;exact⟨_,q⟩
 | dT kvs=>obtain⟨_,_,_,_,ob,_,_,e,_⟩:=x;exact⟨ob,e⟩
 | dK kvs=>obtain⟨_,_,_,_,ob,_,_,e,_⟩:=x;exact⟨ob,e⟩
 | ins C dx fs=>obtain⟨_,_,_,q,_⟩:=x;exact⟨_,q⟩
 | set S n=>obtain⟨ob,_,_,_,e,_⟩:=x;exact⟨ob,e⟩
 | xd fs=>obtain⟨_,⟨ob,_,_,e,_⟩,_⟩:=x;exact⟨ob,e⟩
 | own y=>exact x
 | rng lo hi=>obtain⟨_,_,_,q⟩:=x;exact⟨_,q⟩
 | frz ob u=>exact⟨ob,x.1⟩
 | tbl ps=>exact⟨_,x⟩
 | met f y=>exact⟨_,x⟩
 | ext φ=>exact x.2.1
section
variable {P:P3} {ip:List (Addr×Obj)} {z:L2.St} {t:S3} {g:Gh} {s:Shared} {L:List (Addr×Obj)}
theorem step_un (I:Inv (cxG P.X g) ip z t.H s) (e0:g.s0=cutGh P.X.s_0.heap.objs.size g.s) (sz:P.X.s_0.heap.objs.size≤g.s.heap.objs.size) (epn:g.pn=restL P.X.s_0.heap.objs.size g.s g.t.H L) (tr:∀b,g.B b→∃u,g.t.H b=some u∧t.H b=some u) :
  Un P.X.fs (wildL P.X.s_0.heap.objs.size g.s g.t.H L g.B) g.t.H t.H g.s.heap s.heap:=by
 have u:Un P.X.fs [] g.t.H t.H g.s0.heap s.heap:=I.base
 have low:∀{b:Addr} {o:Obj},g.s.heap.get? b=some o→b<P.X.s_0.heap.objs.size→g.s0.heap.get? b=some o:=fun e h=>by rw[e0,cut_lt h];exact e
 have fsl:∀{b:Addr},b∈P.X.fs→b<P.X.s_0.heap.objs.size:=fun {b} hb=>by
  obtain⟨_,o',ho,_⟩:=I.ok.funs.mem hb
  have:=Heap.lt_size ho
  rw[show (cxG P.X g).s_0=g.s0 from rfl,e0,cut_size sz] at this
  exact this
 have high:∀{b:Addr} {o:Obj},g.s.heap.get? b=some o→¬b<P.X.s_0.heap.objs.size→¬g.B b→b∉wildL P.X.s_0.heap.objs.size g.s g.t.H L g.B→s.heap.get? b=some o∧t.H b=none:=fun {b o} e h hn hw=>by
  have m:=not_wildL e (Nat.le_of_not_lt h) hn hw
  obtain⟨h1,h2,_⟩:=I.pin (b,o) (List.mem_append_left _ (show (b,o)∈g.pn by rw[epn];exact m))
  exact⟨h1,h2⟩
 have nh:∀{b:Addr},g.t.H b=none→¬g.B b:=fun {b} n h=>by
  obtain⟨u,e,_⟩:=tr b h
  rw[n] at e
  cases e
 refine⟨fun b o e n hf hw=>?_,fun b o e n hf hw=>?_,fun b o e n hw=>?_,fun b o e hw=>?_,u.tups,u.frzs,u.tbls⟩
 ·by_cases h:b<P.X.s_0.heap.objs.size
  ·exact u.keep b o (low e h) n hf (by simp)
  ·exact(high e h (nh n) hw).1
 ·exact u.slot b o (low e (fsl hf)) n hf (by simp)
 ·by_cases h:b<P.X.s_0.heap.objs.size
  ·exact u.free b o (low e h) n (by simp)
  ·exact(high e h (nh n) hw).2
 ·by_cases h:b<P.X.s_0.heap.objs.size
  ·exact u.there b o (low e h) (by simp)
  ·by_cases hb:g.B b
   ·obtain⟨v,_,q⟩:=tr b hb
    exact known_there (I.hok b v q)
   ·exact⟨o,(high e h hb hw).1⟩
end
end M3
namespace M3
open PySem PySem.Spec PyProof.Rows L2 GenW
noncomputable def cleanL (F H:Hp) (L:List (Addr×Obj)):Hp:=fun b=>match L.lookup b with
 | some _=>none
 | none=>open Classical in if F b=none∧∃c q,H b=some (LamX.CodeO c q) then none else H b
section
variable {F H:Hp} {L:List (Addr×Obj)} {b:Addr} {u:HO}
theorem clean_in (h:L.lookup b=none) (hu:F b≠none∨∀c q,u≠LamX.CodeO c q) (e:H b=some u):cleanL F H L b=some u:=by
 unfold cleanL
 rw[h]
 dsimp only
 rw[if_neg,e]
 rintro⟨h1,c,q,h2⟩
 rcases hu with hu | hu
 ·exact hu h1
 ·rw[e] at h2;cases h2;exact hu c q rfl
theorem clean_of (e:cleanL F H L b=some u):L.lookup b=none∧H b=some u∧(F b≠none∨∀c q,u≠LamX.CodeO c q):=by
 unfold cleanL at e
 cases h:L.lookup b with
 | some o=>rw[h] at e;cases e
 | none=>
  rw[h] at e
  dsimp only at e
  split at e
  ·cases e
  ·rename_i n
   refine⟨rfl,e,?_⟩
   by_cases f:F b=none
   ·exact .inr fun c q z=>n ⟨f,c,q,by rw[e,z]⟩
   ·exact .inl f
theorem clean_L {p:Addr×Obj} (h:p∈L):cleanL F H L p.1=none:=by
 obtain⟨o,e⟩:=inL h
 unfold cleanL
 rw[e]
theorem nobj_code {G:G3} {s:S3} {a:Addr} {o:MO} (x:ObjR G s a o):∃u,s.H a=some u∧OwnH u:=by
 cases o with
 | lst xs=>obtain⟨vs,e,_⟩:=x;exact⟨_,e,⟨fun _ z=>(by cases z),fun _ _ z=>(by unfold LamX.CodeO at z;cases z)⟩⟩
 | dic ks us=>obtain⟨vs,e,_⟩:=x;exact⟨_,e,⟨fun _ z=>(by cases z),fun _ _ z=>(by unfold LamX.CodeO at z;cases z)⟩⟩
 | ddi ks us=>obtain⟨vs,e,_⟩:=x;exact⟨_,e,⟨fun _ z=>(by cases z),fun _ _ z=>dkO_code z⟩⟩
 | ins c fs=>obtain⟨_,_,_,_,e,_⟩:=x;exact⟨_,e,⟨fun _ z=>(by cases z),fun _ _ z=>(by unfold LamX.CodeO at z;cases z)⟩⟩
 | cell d=>obtain⟨_,e,_⟩:=x;exact⟨_,e,⟨fun _ z=>(by cases z),fun _ _ z=>cellO_code z⟩⟩
 | _=>exact x.elim
end
section
variable {X:Cx} {pins:List (Addr×Obj)} {z:L2.St} {s:Shared} {L:List (Addr×Obj)} {F H:Hp}
theorem inv_clean (I:Inv X pins z H s) (hn:∀p∈L,H p.1=some (zx p.1 p.2)) (ex:ExOk X pins (L.map Prod.fst)):Inv X pins z (cleanL F H L) s:=by
 have I1:=inv_offL I hn ex
 have tell:∀{b:Addr} {u:HO},H b=some u→(∀φ,u≠.ext φ)→cleanL F H L b=some u:=fun {b u} e ne=>by
  refine clean_in ?_ (.inr fun c q z=>?_) e
  ·cases q:L.lookup b with
   | none=>rfl
   | some o=>rw[hn _ (lookL q)] at e;cases e;exact absurd rfl (ne _)
  ·unfold LamX.CodeO at z
   exact ne _ z
 refine I.call' (ch:=L.map Prod.fst) rfl ⟨fun _ _ e _ _ _=>e,fun b o e _ _ _=>⟨o.slots,e⟩,fun b o e n hx=>?_,fun b o e _=>⟨o,e⟩,fun b xs e=>tell e (fun _ y=>by cases y),fun b o u e=>tell e (fun _ y=>by cases y),fun b ps e=>⟨#[],by rw[Array.append_empty];exact tell e (fun _ y=>by cases y)⟩⟩ (fun b u e=>?_) I.bare ex
 ·cases q:cleanL F H L b with
  | none=>rfl
  | some u=>obtain⟨_,e2,_⟩:=clean_of q;rw[n] at e2;cases e2
 ·obtain⟨_,e2,_⟩:=clean_of e
  exact(I.hok b u e2).stay (fun _ _ _ y=>y) (fun d y=>tell y (fun _ y=>by cases y)) fun d xs y=>tell y (fun _ y=>by cases y)
end
section
variable {G:G3} {B:Addr→Prop} {st:Store} {t:S3} {L:List (Addr×Obj)}
def butL (B:Addr→Prop) (L:List (Addr×Obj)):Addr→Prop:=fun b=>B b∧L.lookup b=none
theorem clean_hid (w:Wd G B st t) {b:Addr} (h:butL B L b):cleanL t.F t.H L b=t.H b:=by
 obtain⟨_,o,e,q⟩:=w.hid b h.1
 rw[e]
 exact clean_in h.2 (.inr q.code) e
theorem notL (w:Wd G B st t) (hL:∀p∈L,B p.1) {b:Addr} (h:¬B b):L.lookup b=none:=by
 cases q:L.lookup b with
 | none=>rfl
 | some o=>exact absurd (hL _ (lookL q)) h
theorem wd_clean (w:Wd G B st t) (hL:∀p∈L,B p.1):Wd G (butL B L) st ⟨t.io,t.F,cleanL t.F t.H L⟩:=by
 refine⟨fun b o e=>?_,fun b h=>?_,w.ftb,w.dom,w.inj,fun k o e tr=>?_,w.untM (IoLe.refl _) (Same.refl _),w.tabM (Same.refl _) fun p ps e=>?_⟩
 ·have e:t.F b=some o:=e
  refine clean_in (notL w hL fun h=>?_) (.inl (by rw[e];simp)) (w.sub b o e)
  rw[(w.hid b h).1] at e
  cases e
 ·obtain⟨h1,o,e,q⟩:=w.hid b h.1
  exact⟨h1,o,(clean_hid w h).trans e,q⟩
 ·obtain⟨a,e1,nb,f,x⟩:=w.obj k o e tr
  obtain⟨u,eu,ow⟩:=nobj_code x
  have:cleanL t.F t.H L a=t.H a:=by rw[eu];exact clean_in (notL w hL nb) (.inr ow.code) eu
  exact⟨a,e1,fun h=>nb h.1,f,ObjR.mono (s:=t) (IoLe.refl _) (Same.refl _) this x⟩
 ·refine clean_in (notL w hL fun h=>?_) (.inr fun c q z=>by unfold LamX.CodeO at z;cases z) e
  obtain⟨_,o,e',q⟩:=w.hid p h
  rw[e] at e'
  cases e'
  exact q.tbl _ rfl
def bigB (F H:Hp):Addr→Prop:=fun b=>F b=none∧∃o,H b=some o∧OwnH o
def noIo:Io:=fun _=>none
theorem wd_priv {H:Hp} (w:Wd G B st ⟨t.io,t.F,H⟩):Wd G (bigB t.F H) [] ⟨noIo,t.F,H⟩:=
 ⟨w.sub,fun b h=>⟨h.1,h.2⟩,w.ftb,fun _ _ e=>(by cases e),fun _ _ _ _ _ e=>(by cases e),fun _ _ e=>(by cases e),fun _ _ e=>(by cases e),w.tabM (s':=⟨noIo,t.F,H⟩) (Same.refl _) fun _ _ e=>e⟩
theorem big_of (w:Wd G B st t) {b:Addr} (h:B b):bigB t.F t.H b:=w.hid b h
theorem wd_back {B1:Addr→Prop} {o1:Store} {t1:S3} (w:Wd G B st t) (w1:Wd G B1 o1 t1) (sb:∀b,bigB t.F t.H b→B1 b) (l:Le (bigB t.F t.H) ⟨noIo,t.F,t.H⟩ t1):Wd G B st ⟨t.io,t1.F,t1.H⟩∧Le B t ⟨t.io,t1.F,t1.H⟩:=by
 refine⟨⟨w1.sub,fun b h=>?_,w1.ftb,w.dom,w.inj,fun k o e tr=>?_,w.untM (s':=⟨t.io,t1.F,t1.H⟩) (IoLe.refl _) l.fr,w1.tabM (s':=⟨t.io,t1.F,t1.H⟩) (Same.refl _) fun _ _ e=>e⟩,IoLe.refl _,l.fr,fun b h=>l.hid b (big_of w h)⟩
 ·obtain⟨_,o,e,q⟩:=w.hid b h
  exact⟨(w1.hid b (sb b (big_of w h))).1,o,(l.hid b (big_of w h)).trans e,q⟩
 ·obtain⟨a,e1,nb,f,x⟩:=w.obj k o e tr
  obtain⟨u,eu,ow⟩:=nobj_code x
  have hb:bigB t.F t.H a:=⟨f,u,eu,ow⟩
  exact⟨a,e1,nb,(w1.hid a (sb a hb)).1,ObjR.mono (s:=t) (s':=⟨t.io,t1.F,t1.H⟩) (IoLe.refl _) l.fr (l.hid a hb) x⟩
def orL (B:Addr→Prop) (L:List (Addr×Obj)):Addr→Prop:=fun b=>B b∨∃o,L.lookup b=some o
theorem wd_withL (w:Wd G B st t) (hn:∀p∈L,t.H p.1=none):Wd G (orL B L) st ⟨t.io,t.F,withL t.H L⟩∧Le B t ⟨t.io,t.F,withL t.H L⟩:=by
 have out:∀{b:Addr} {u:HO},t.H b=some u→L.lookup b=none∧withL t.H L b=some u:=fun {b u} e=>by
  cases q:L.lookup b with
  | none=>exact⟨rfl,by unfold withL;rw[q];exact e⟩
  | some o=>rw[hn _ (lookL q)] at e;cases e
 refine⟨⟨fun b o e=>(out (w.sub b o e)).2,fun b h=>?_,w.ftb,w.dom,w.inj,fun k o e tr=>?_,w.untM (s':=⟨t.io,t.F,withL t.H L⟩) (IoLe.refl _) (Same.refl _),w.tabM (s':=⟨t.io,t.F,withL t.H L⟩) (Same.refl _) fun p ps e=>(out e).2⟩,IoLe.refl _,Same.refl _,fun b h=>?_⟩
 ·rcases h with h | ⟨o,h⟩
  ·obtain⟨h1,o,e,q⟩:=w.hid b h
   exact⟨h1,o,(out e).2,q⟩
  ·refine⟨w.freshF (hn _ (lookL h)),zx b o,?_,zx_own b o⟩
   show withL t.H L b=_
   unfold withL
   rw[h]
 ·obtain⟨a,e1,nb,f,x⟩:=w.obj k o e tr
  obtain⟨u,eu⟩:=x.there
  obtain⟨q1,q2⟩:=out eu
  refine⟨a,e1,fun h=>h.elim nb fun ⟨o,y⟩=>?_,f,ObjR.mono (s:=t) (s':=⟨t.io,t.F,withL t.H L⟩) (IoLe.refl _) (Same.refl _) (q2.trans eu.symm) x⟩
  rw[q1] at y
  cases y
 ·obtain⟨_,o,e,_⟩:=w.hid b h
  show withL t.H L b=t.H b
  rw[(out e).2,e]
theorem slo_to {X:Hex} {B0 B B0' B':Addr→Prop} {t t':S3} {u:Sl3} {z:L2.St} (i:IoLe t.io t'.io) (f:Same t.F t'.F) (h:Slo G X B0 B t u z) (hb:∀p,B p→(¬B0 p∨∀φ,t.H p≠some (.ext φ))→B' p∧t'.H p=t.H p∧(B0' p→B0 p)):Slo G X B0' B' t' u z:=by
 obtain⟨hl,ow,h1,h2⟩:=h
 refine⟨hl,ow,fun j w e=>?_,h2⟩
 obtain⟨v,e1,r,o1⟩:=h1 j w e
 cases w with
 | val d=>exact⟨v,e1,Rep.mono f i r,fun q=>by cases q⟩
 | bor xs=>
  obtain⟨p,vs,e2,b,e3,r⟩:=r
  obtain⟨y1,y2⟩:=o1 rfl
  rw[e2] at y1
  cases y1
  obtain⟨x1,x2,x3⟩:=hb _ b (.inl y2)
  exact⟨v,e1,⟨_,vs,e2,x1,x2.trans e3,r.mono f i⟩,fun _=>⟨e2,fun q=>y2 (x3 q)⟩⟩
 | bod ks us=>
  obtain⟨p,kvs,e2,b,e3,ek,r⟩:=r
  obtain⟨y1,y2⟩:=o1 rfl
  rw[e2] at y1
  cases y1
  obtain⟨x1,x2,x3⟩:=hb _ b (.inl y2)
  exact⟨v,e1,⟨_,kvs,e2,x1,x2.trans e3,ek,r.mono f i⟩,fun _=>⟨e2,fun q=>y2 (x3 q)⟩⟩
 | bdd ks us=>
  obtain⟨p,xs,e2,b,e3,r⟩:=r
  obtain⟨y1,y2⟩:=o1 rfl
  rw[e2] at y1
  cases y1
  obtain⟨x1,x2,x3⟩:=hb _ b (.inl y2)
  exact⟨v,e1,⟨_,xs,e2,x1,x2.trans e3,r.mono f i⟩,fun _=>⟨e2,fun q=>y2 (x3 q)⟩⟩
 | exn c x=>
  obtain⟨a,dd,e2,e3,xf⟩:=r
  exact⟨v,e1,⟨a,dd,e2,e3,xf.mono i f⟩,fun q=>by cases q⟩
 | len xs=>
  obtain⟨p,vs,o,e2,b,e3,r⟩:=r
  obtain⟨x1,x2,x3⟩:=hb p b (.inr fun φ y=>by rw[e3] at y;cases y)
  exact⟨v,e1,⟨p,vs,o,e2,x1,x2.trans e3,r.mono f i⟩,fun q=>by cases q⟩
end
end M3
namespace M3
open PySem PySem.Spec PyProof.Rows L2 GenW
abbrev P3.n0 (P:P3):Nat:=P.X.s_0.heap.objs.size
structure Asleep (P:P3) (nb:Bool) (A':Around) (L:List (Addr×Obj)) (N:Addr→Prop) (M:Nat→Option GenState) (gi:Nat) (o:Store) (t:S3) (xs:List (D×Store)) (oE:Store) (gs:GenState):Prop where
 bare:gs.bare=true
 young:∀p∈L,P.n0≤p.1
 gm:M gi=none
 nest:∀i x,M i=some x→nb=true
 nice:∀k l c p fs cl,gs=.suspended k l c p fs cl→splitAtGen fs=none
 wake:∀(g:Gh) (Aq:Around),g.gi=gi→Keeps M g.s→gi<g.s.gens.size→Env0 P.X.prog P.X.w P.X.K P.X.mg P.X.base Aq P.X.outer g.s g.t.H→g.s0=cutGh P.n0 g.s→P.n0≤g.s.heap.objs.size→(∀p∈L,g.s.heap.get? p.1=some p.2∧g.t.H p.1=none)→g.pn=restL P.n0 g.s g.t.H L→
  Wd P.G (kept g N) o g.t→IoLe t.io g.t.io→Same t.F g.t.F→(∀b,N b→¬g.B b∧g.t.H b=t.H b)→Go (model P.X.prog P.X.w) A' (ZG P nb A' xs oE g) gs (.send .none) g.s
section
variable {P:P3} {nb:Bool} {A':Around} {ip:List (Addr×Obj)} {N:Addr→Prop} {M:Nat→Option GenState} {z:L2.St} {B:Addr→Prop} {t:S3} {o:Store} {g:Gh} {s:Shared}
def sleepL (X:Cx) (ip:List (Addr×Obj)) (s:Shared):List (Addr×Obj):=pinsAt (X.env.locals :: X.env.cells.filterMap fun y=>if X.env.cells.lookup y.1=some y.2 then some y.2 else none) s.heap++ip
theorem sleep_cells {X:Cx} {c:Addr} (h:c∈X.env.cells.filterMap fun y=>if X.env.cells.lookup y.1=some y.2 then some y.2 else none):∃x,X.env.cells.lookup x=some c:=by
 obtain⟨y,_,e⟩:=List.mem_filterMap.mp h
 split at e
 ·rename_i q
  cases e
  exact⟨y.1,q⟩
 ·cases e
theorem sleep_ok (I:Inv (cxG P.X g) ip z t.H s):LOk P.X ip s (sleepL P.X ip s):=by
 refine⟨?_,fun x c h=>?_,fun p hp=>List.mem_append_right _ hp,fun p hp=>?_⟩
 ·obtain⟨m,⟨ob,es,ep,e,_⟩,_⟩:=I.loc
  exact⟨ob,List.mem_append_left _ (mem_pinsAt List.mem_cons_self e)⟩
 ·obtain⟨v,ob,e,_⟩:=I.cell x c h
  exact⟨ob,List.mem_append_left _ (mem_pinsAt (List.mem_cons_of_mem _ (List.mem_filterMap.mpr ⟨(x,c),PySem.mem_of_lookup h,by dsimp only;rw[if_pos h]⟩)) e)⟩
 ·rcases List.mem_append.mp hp with q | q
  ·exact(of_pinsAt q).2
  ·exact(I.pin p (List.mem_append_right _ q)).1
theorem sleep_own (hfn:∀x,P.X.fn x=true) (I:Inv (cxG P.X g) ip z t.H s) (sz:g.s0.heap.objs.size=P.n0) (dj:∀p∈g.pn,∀q∈ip,p.1≠q.1) (yg:∀q∈ip,P.n0≤q.1):∀q∈sleepL P.X ip s,t.H q.1=none∧P.n0≤q.1∧∀p∈g.pn,p.1≠q.1:=fun q hq=>by
 rcases List.mem_append.mp hq with h | h
 ·obtain⟨hm,e⟩:=of_pinsAt h
  rcases List.mem_cons.mp hm with h1 | h1
  ·rw[h1]
   refine⟨I.free,?_,fun p hp=>(I.pin p (List.mem_append_left _ hp)).2.2.1⟩
   rw[←sz]
   exact I.ok.above
  ·obtain⟨x,hx⟩:=sleep_cells h1
   refine⟨I.freeC x q.1 hx,?_,fun p hp y=>?_⟩
   ·rw[←sz]
    exact I.ok.cab x q.1 (hfn x) hx
   ·obtain⟨h2,_,_,_,h3⟩:=I.pin p (List.mem_append_left _ hp)
    obtain⟨v,ob,e2,d⟩:=I.cell x q.1 hx
    rw[←y,h2] at e2
    cases e2
    exact h3 _ d
 ·exact⟨(I.pin q (List.mem_append_right _ h)).2.1,yg q h,fun p hp=>dj p hp q h⟩
theorem asleep_of {rest:List (D×Store)} {oE:Store} {v:Value} {gd:Bool} {l:List Value} {k:Resume→Sem PySem.Fin} {c:Code} {p:Pos} {fs:List Frame} (hst:P.X.stack=P.X.env :: P.X.outer∧P.X.env.frame=some P.X.env.locals) (hfn:∀x,P.X.fn x=true) (hq:(End.susp v gd l k c p fs).quiet=true) (hsp:splitAtGen fs=none)
  (I:Inv (cxG P.X g) ip z t.H s) (sz:g.s0.heap.objs.size=P.n0) (dj:∀p∈g.pn,∀q∈ip,p.1≠q.1) (yg:∀q∈ip,P.n0≤q.1) {gi:Nat} (gm:M gi=none) (nest:∀i x,M i=some x→nb=true) (w:∀g':Gh,Wk P ip N M z t o g'→Sg (model P.X.prog P.X.w) A' (ZG P nb A' rest oE g') c (k (.send .none)) fs g'.s) :
  Asleep P nb A' (sleepL P.X ip s) N M gi o t rest oE (End.susp v gd l k c p fs).genState:=by
 refine⟨End.bare_of_quiet hq,fun p hp=>(sleep_own hfn I sz dj yg p hp).2.1,gm,nest,(fun _ _ _ _ _ _ e=>by injection e with _ _ _ _ e _;exact e▸hsp),fun g' Aq egi hkM hgs e0 es0 hsz hk hpn wd io fr hid=>w g' ⟨?_,wd,io,fr,hid,fun p hp q hq=>?_,by rw[es0];exact cut_size hsz,hkM,egi▸gm,egi▸hgs⟩⟩
 ·refine wake_inv hst I.ok.frames (sleep_ok I) sz I e0 es0 hsz hk fun p hp=>?_
  rw[hpn] at hp
  obtain⟨h1,h2,h3,h4,h5⟩:=of_restL hp
  refine⟨h1,h2,h3,fun hm=>?_,h5⟩
  obtain⟨_,o',ho,_⟩:=I.ok.funs.mem hm
  have:=Heap.lt_size ho
  rw[show (cxG P.X g).s_0=g.s0 from rfl,sz] at this
  exact absurd (Nat.lt_of_lt_of_le this h4) (Nat.lt_irrefl _)
 ·rw[hpn] at hp
  exact(of_restL hp).2.2.1 q (List.mem_append_right _ hq)
end
structure Eats (X:Cx) (P:P3):Prop where
 prog:P.X.prog=X.prog
 w:P.X.w=X.w
 K:P.X.K=X.K
 mg:P.X.mg=X.mg
 base:P.X.base=X.base
 outer:P.X.outer=X.stack
 stk:P.X.stack=P.X.env :: P.X.outer∧P.X.env.frame=some P.X.env.locals
 fn:∀x,P.X.fn x=true
 cells:∀x c,X.env.cells.lookup x=some c→c<P.n0
section
variable {X:Cx} {P:P3} {pins:List (Addr×Obj)} {z:L2.St} {s:Shared} {L:List (Addr×Obj)} {H:Hp}
theorem ex_wild {Hid:Addr→Prop} (E:Eats X P) (I:Inv X pins z H s) (yo:∀b,P.n0≤b→¬Hid b→b∈X.ex∨X.s_0.heap.objs.size≤b) (hL:∀p∈L,p.1≠X.env.locals∧∀q∈X.pn++pins,q.1≠p.1):ExOk X pins (wildL P.n0 s H L Hid):=fun b hb=>by
 obtain⟨h1,h2,h3⟩:=of_wildL hb
 have out:∀{o:Obj},s.heap.get? b=some o→H b=none→isCellD o.data=false→L.lookup b=none→False:=fun e hn d l=>h2 _ (in_restL e hn l h1 d) rfl
 refine⟨yo b h1 h3,fun e=>?_,fun x c hx e=>?_,fun p hp e=>?_⟩
 ·obtain⟨m,⟨ob,es,ep,g1,g2,_⟩,_⟩:=I.loc
  refine out (o:=ob) (e▸g1) (e▸I.free) (by rw[g2];rfl) ?_
  cases q:L.lookup b with
  | none=>rfl
  | some o=>exact absurd e (hL _ (lookL q)).1
 ·have:=E.cells x c hx
  rw[e] at this
  exact absurd (Nat.lt_of_lt_of_le this h1) (Nat.lt_irrefl _)
 ·obtain⟨g1,g2,_,_,g5⟩:=I.pin p hp
  refine out (o:=p.2) (e▸g1) (e▸g2) ?_ ?_
  ·cases d:p.2.data with
   | cell v=>exact absurd d (g5 v)
   | _=>rfl
  ·cases q:L.lookup b with
   | none=>rfl
   | some o=>exact absurd e ((hL _ (lookL q)).2 p hp)
theorem ex_own {Hid:Addr→Prop} {L1:List (Addr×Obj)} (E:Eats X P) (I:Inv X pins z H s) (yo:∀b,P.n0≤b→¬Hid b→b∈X.ex∨X.s_0.heap.objs.size≤b) (hL:∀p∈L,p.1≠X.env.locals∧∀q∈X.pn++pins,q.1≠p.1)
  (h1:∀p∈L1,P.n0≤p.1∧¬Hid p.1∧∀q∈restL P.n0 s H L,q.1≠p.1):ExOk X pins (L1.map Prod.fst):=fun b hb=>by
 obtain⟨p,hp,rfl⟩:=List.mem_map.mp hb
 obtain⟨y1,y2,y3⟩:=h1 p hp
 refine⟨yo p.1 y1 y2,fun e=>?_,fun x c hx e=>?_,fun q hq e=>?_⟩
 ·obtain⟨m,⟨ob,es,ep,g1,g2,_⟩,_⟩:=I.loc
  refine y3 (X.env.locals,ob) (in_restL g1 I.free ?_ (e▸y1) (by rw[g2];rfl)) e.symm
  cases q:L.lookup X.env.locals with
  | none=>rfl
  | some o=>exact absurd rfl (hL _ (lookL q)).1
 ·have:=E.cells x c hx
  rw[e] at this
  exact absurd (Nat.lt_of_lt_of_le this y1) (Nat.lt_irrefl _)
 ·obtain⟨g1,g2,_,_,g5⟩:=I.pin q hq
  refine y3 (q.1,q.2) (in_restL g1 g2 ?_ (e▸y1) ?_) e
  ·cases r:L.lookup q.1 with
   | none=>rfl
   | some o=>exact absurd rfl ((hL _ (lookL r)).2 q hq)
  ·cases d:q.2.data with
   | cell v=>exact absurd d (g5 v)
   | _=>rfl
end
end M3
namespace M3
open PySem PySem.Spec PyProof.Rows L2 GenW
theorem keeps_set {M:Nat→Option GenState} {s:Shared} {gi:Nat} {x:GenState} (k:Keeps M s) (h:M gi=none):Keeps M (s.setGen gi x):=fun i y e=>by
 have ne:gi≠i:=fun z=>by rw[←z,h] at e;cases e
 refine⟨?_,(k i y e).2⟩
 show (s.gens.setIfInBounds gi x)[i]?=some y
 rw[Array.getElem?_setIfInBounds_ne ne]
 exact(k i y e).1
section
variable {X:Cx} {P:P3} {nb:Bool} {pins:List (Addr×Obj)} {z:L2.St} {s:Shared} {L:List (Addr×Obj)}
structure NextG (X:Cx) (P:P3) (nb:Bool) (pins:List (Addr×Obj)) (z:L2.St) (gi:Nat) (B:Addr→Prop) (t:S3) (d:D) (o1:Store) (rest:List (D×Store)) (oE:Store) (v:Value) (s':Shared) (B1:Addr→Prop) (t1:S3) (L1:List (Addr×Obj)) (N1:Addr→Prop) (M1:Nat→Option GenState) (gs1:GenState):Prop where
 inv:Inv X pins z t1.H s'
 sub:∀b,B b∨N1 b→B1 b
 wd:Wd P.G B1 o1 t1
 le:Le B t t1
 val:∃x,Rep P.G.R t1.F t1.io d x∧RelV x v
 kM:Keeps M1 s'
 asl:Asleep P nb X.A.in1 L1 N1 M1 gi o1 t1 rest oE gs1
 slp:isSlp gs1=true
 gen:s'.gens[gi]?=some gs1
 own:∀p∈L1,s'.heap.get? p.1=some p.2∧t1.H p.1=none
 ex:ExOk X pins (L1.map Prod.fst)
 nest:∀b,N1 b→nb=true
 dis:∀b,N1 b→¬B b
 sz:P.n0≤s'.heap.objs.size
 nz:∀b,N1 b→∃ob,t1.H b=some (zx b ob)
theorem step_gen {tz t:S3} {B N:Addr→Prop} {M:Nat→Option GenState} {o:Store} {xs:List (D×Store)} {oE:Store} {gs:GenState} {a:Addr} {gi:Nat} {Q:Option Value→Shared→Prop} {Er:Value→Shared→Prop}
  (E:Eats X P) (I:Inv X pins z t.H s) (hh:X.A.handled=none) (hroom:X.A.depth<recursionLimit) (hg:s.heap.IsGen a gi) (hgs:s.gens[gi]?=some gs) (as:Asleep P nb X.A.in1 L N M gi o tz xs oE gs) (hM:Keeps M s) (wd:Wd P.G (fun b=>B b∨N b) o t) (io:IoLe tz.io t.io) (fr:Same tz.F t.F) (hid:∀b,N b→¬B b∧t.H b=tz.H b)
  (keep:∀p∈L,s.heap.get? p.1=some p.2∧t.H p.1=none) (hL:∀p∈L,p.1≠X.env.locals∧∀q∈X.pn++pins,q.1≠p.1) (yo:∀b,P.n0≤b→¬B b→b∈X.ex∨X.s_0.heap.objs.size≤b) (sz:P.n0≤s.heap.objs.size)
  (hE:xs=[]→∀(s':Shared) (B1:Addr→Prop) (t1:S3),Inv X pins z t1.H s'→(∀b,B b→B1 b)→Wd P.G B1 oE t1→Le B t t1→Q none s')
  (hI:∀d o1 rest,xs=(d,o1) :: rest→∀v s' B1 t1 L1 N1 M1 gs1,NextG X P nb pins z gi B t d o1 rest oE v s' B1 t1 L1 N1 M1 gs1→Q (some v) s') :
  wpAny (model X.prog X.w) X.A (pyNext (.ref a)) Q Er s:=by
 have hgl:gi<s.gens.size:=(Array.getElem?_eq_some_iff.mp hgs).1
 obtain⟨g,eg⟩:∃g:Gh,g=⟨s.setGen gi .running,t,B,cutGh P.n0 (s.setGen gi .running),restL P.n0 (s.setGen gi .running) t.H L,gi⟩:=⟨_,rfl⟩
 have eh:g.s.heap=s.heap:=by rw[eg];rfl
 have et:g.t=t:=by rw[eg]
 have eB:g.B=B:=by rw[eg]
 have es0:g.s0=cutGh P.n0 g.s:=by rw[eg]
 have epn:g.pn=restL P.n0 g.s g.t.H L:=by rw[eg]
 have szg:P.n0≤g.s.heap.objs.size:=by rw[eh];exact sz
 have rl:restL P.n0 g.s g.t.H L=restL P.n0 s t.H L:=by rw[eg];rfl
 have e0:Env0 P.X.prog P.X.w P.X.K P.X.mg P.X.base X.A P.X.outer g.s g.t.H:=by
  have q:=I.env0
  rw[E.prog,E.w,E.K,E.mg,E.base,E.outer,et]
  refine⟨q.frames,q.mod,?_,?_,?_,q.frf,?_,?_⟩
  ·rw[eh];exact q.bs
  ·rw[eh];exact q.bsz
  ·rw[eh];exact q.funs
  ·rw[eh];exact q.hok
  ·rw[eg];exact allBare_setGen q.bare rfl
 have go:=as.wake g X.A (by rw[eg]) (by rw[eg];exact keeps_set hM as.gm) (by rw[eg];exact(setGen_size s gi .running).symm▸hgl) e0 es0 szg (fun p hp=>by rw[eh,et];exact keep p hp) epn (by unfold kept;rw[eB,et];exact wd) (by rw[et];exact io) (by rw[et];exact fr) fun b h=>by rw[eB,et];exact hid b h
 have esg:g.s=s.setGen gi .running:=by rw[eg]
 rw[esg,E.prog,E.w] at go
 have back:∀{ip:List (Addr×Obj)} {z1:L2.St} {t1:S3} {s1:Shared},Inv (cxG P.X g) ip z1 t1.H s1→Le B t t1→∀(x:GenState) (h':Heap),x.bare=true→(∀b o,s1.heap.get? b=some o→h'.get? b=some o)→Inv X pins z t1.H { s1.setGen gi x with heap:=h' }:=by
  intro ip z1 t1 s1 I1 l x h' hx hk
  have un:=step_un (L:=L) I1 es0 szg epn fun b hb=>by
   rw[eB] at hb
   obtain⟨_,u,e,_⟩:=wd.hid b (.inl hb)
   exact⟨u,by rw[et];exact e,(l.hid b hb).trans e⟩
  have un2:Un (frs X.stack) (wildL P.n0 s t.H L B) t.H t1.H s.heap s1.heap:=by
   have:=un
   rw[eh,et,eB] at this
   have ew:wildL P.n0 g.s t.H L B=wildL P.n0 s t.H L B:=by rw[eg];rfl
   rw[show P.X.s_0.heap.objs.size=P.n0 from rfl,ew,show P.X.fs=frs X.stack from congrArg frs E.outer] at this
   exact this
  refine I.call' (ch:=wildL P.n0 s t.H L B) ?_ (un2.trans (Un.kept hk)) ?_ (allBare_setGen I1.bare hx) (ex_wild E I yo hL)
  ·have h1:s1.os=g.s0.os:=I1.os
   show s1.os=s.os
   rw[h1,es0,esg]
   rfl
  ·have:=I1.hok
   rw[show (cxG P.X g).prog=X.prog from E.prog,show (cxG P.X g).w=X.w from E.w] at this
   exact this.kept hk
 refine wpAny_mono (wpAny_gsz (n:=gi+1) (Q:=Q) (E:=fun _ _=>False) hgl (next_go (Q:=fun r s'=>gi+1≤s'.gens.size→Q r s') (E:=fun _ s'=>gi+1≤s'.gens.size→False) (Z:=ZG P nb X.A.in1 xs oE g) hh I.nolimit hroom hg hgs go (fun e s1 q=>zg_quiet q) (fun v gd l k c p fs s1 q=>?_) fun r s1 q=>?_)) (fun r s' q=>q) fun _ _ q=>q.elim
 ·intro hsz
  have hgl1:gi<s1.gens.size:=by
   have:(s1.setGen gi (End.susp v gd l k c p fs).genState).gens.size=s1.gens.size:=setGen_size ..
   rw[this] at hsz
   exact hsz
  cases xs with
  | nil=>obtain⟨r,e,_⟩:=q;cases e
  | cons d rest=>
   obtain⟨d,o1⟩:=d
   obtain⟨v',gd',l',k',c',p',fs',e,hq,hsp,ip,N1,M1,z1,B1,t1,kM1,gm1,hM1,hN1,dis1,I1,sb,w1,le1,dj,sz1,yg,nz1,val,wk⟩:=q
   cases e
   rw[eB,et] at le1
   have gm1:M1 gi=none:=by rw[eg] at gm1;exact gm1
   have own:=sleep_own E.fn I1 sz1 dj yg
   have I2:=back I1 le1 (End.susp v gd l k c p fs).genState s1.heap (End.bare_of_quiet hq) fun _ _ e=>e
   refine hI d o1 rest rfl v _ B1 t1 (sleepL P.X ip s1) N1 M1 (End.susp v gd l k c p fs).genState ⟨I2,fun b h=>sb b (h.imp (fun y=>by rw[eB];exact y) id),w1,le1,val,keeps_set kM1 gm1,asleep_of E.stk E.fn hq hsp I1 sz1 dj yg gm1 hM1 wk,rfl,setGen_at hgl1,fun p hp=>⟨(sleep_ok I1).get p hp,(own p hp).1⟩,?_,hN1,(fun b h=>by rw[←eB];exact dis1 b h),?_,nz1⟩
   rotate_left
   ·have h1:g.s0.heap.objs.size≤P.X.env.locals:=I1.ok.above
    rw[sz1] at h1
    exact Nat.le_trans h1 (Nat.le_of_lt I1.lt)
   refine ex_own E I yo hL fun p hp=>?_
   obtain⟨q1,q2,q3⟩:=own p hp
   refine⟨q2,fun hb=>?_,fun q hq'=>q3 q (by rw[epn,rl];exact hq')⟩
   obtain⟨_,u,e,_⟩:=wd.hid p.1 (.inl hb)
   rw[←le1.hid p.1 hb,q1] at e
   cases e
 ·cases xs with
  | cons d rest=>
   obtain⟨_,_,_,_,_,_,_,e,_⟩:=q
   cases e
  | nil=>
   obtain⟨r',e,hr,ip,z1,B1,t1,I1,sb,w1,le1⟩:=q
   cases e
   rw[eB,et] at le1
   refine⟨hr,fun h' hk hsz=>?_⟩
   exact hE rfl _ B1 t1 (back I1 le1 .finished h' rfl hk) (fun b h=>sb b (by rw[eB];exact h)) w1 le1
end
end M3
namespace M3
open PySem PySem.Spec PyProof.Rows L2 GenW
def ymf (n:Nat) (mb:YM):List D→Store→Option (List (D×Store)×Store):=fun ds o=>match mb (ds.map (fun d=>some (.val d))++List.replicate (n - ds.length) none) o with
 | (xs,.nx _ o')=>some (xs,o')
 | (xs,.rt (.val .non) o')=>some (xs,o')
 | _=>none
abbrev gP (Pg:Program) (w:World) (K:PySem.W.Frag) (mg:Str→Option Value) (base:Heap) (G:G3) (hK:K=G.K) (hw:w=G.w) (N:List Str) (qual:Str) (scope:Scope) (f:Addr) (cdv:Value) (A:Around) (outer:List Env) (s:Shared) (H:Hp):P3:=
 ⟨cxOf (CXq Pg w) Pg w K mg base N qual scope f cdv A outer s H (fun _ _ _=>False),G,none,fun _ _ _ _=>False,hK,hw⟩
structure MadeG (Pg:Program) (w:World) (K:PySem.W.Frag) (mg:Str→Option Value) (base:Heap) (G:G3) (nb:Bool) (k:Nat) (outer:List Env) (s:Shared) (t:S3) (o:Store) (xs:List (D×Store)) (oE:Store) (a:Addr) (gi:Nat) (go:Obj) (gs:GenState) (s':Shared):Prop where
 obj:s'.heap.get? a=some go
 gen:∀h:Heap,h.get? a=some go→h.IsGen a gi
 st:s'.gens[gi]?=some gs
 big:s.heap.objs.size≤a
 ix:gi=s.gens.size
 os:s'.os=s.os
 bare:AllBare s'.gens
 keep:∀b ob,s.heap.get? b=some ob→s'.heap.get? b=some ob
 wake:∀A':Around,L2.Room k A'→A'.frames=some outer→∃(P:P3) (L:List (Addr×Obj)),P.n0=s.heap.objs.size∧P.G=G∧(P.X.prog=Pg∧P.X.w=w∧P.X.K=K∧P.X.mg=mg∧P.X.base=base∧P.X.outer=outer)∧(P.X.stack=P.X.env :: P.X.outer∧P.X.env.frame=some P.X.env.locals)∧(∀x,P.X.fn x=true)∧
  (∀p∈L,s'.heap.get? p.1=some p.2∧t.H p.1=none∧p.1≠a)∧Asleep P nb A' L (fun _=>False) (fun _=>none) gi o t xs oE gs
structure GnOk (Pg:Program) (w:World) (K:PySem.W.Frag) (mg:Str→Option Value) (base:Heap) (G:G3) (nb:Bool) (k:Nat) (f:Addr) (fd:FuncData) (ps:List Str) (m:List D→Store→Option (List (D×Store)×Store)):Prop where
 run:∀(A:Around) (outer:List Env) (s:Shared) (t:S3) (B:Addr→Prop) (o:Store) (args:Args) (us:List Value) (vs:List V) (ds:List D) (xs:List (D×Store)) (oE:Store),L2.Room k A→Env0 Pg w K mg base A outer s t.H→BindsTo s fd args (ps.zip us)→Vals vs us→vs.length=ps.length→RepL G.R t.F t.io ds vs→Wd G B o t→m ds o=some (xs,oE)→
  codeAny (model Pg w) A (.call (.ref f) args) (fun r s'=>∃a gi go gs,r=.ok (.ret (.ref a))∧MadeG Pg w K mg base G nb k outer s t o xs oE a gi go gs s') s
section
variable {Pg:Program} {w:World} {K:PySem.W.Frag} {mg:Str→Option Value} {base:Heap}
theorem gn_ok {G:G3} {nb:Bool} (hK:K=G.K) (hw:w=G.w) {x qual:Str} {st:Stmt} {f:Addr} {fd:FuncData} {N ps:List Str} {k:Nat} {mb:YM} (F:Fun K x qual st f fd) (S:GScope N ps (defScope st))
  (h:∀(cdv:Value) (A:Around) (outer:List Env) (s:Shared) (H:Hp),L2.Room k (A.deeper (envOfC qual (defScope st) s.heap.objs.size f cdv))→YSs (gP Pg w K mg base G hK hw N qual (defScope st) f cdv A outer s H) nb (defBody st) mb) :
  GnOk Pg w K mg base G nb (k+1) f fd ps (ymf N.length mb):=by
 obtain⟨cls0,own0,kv0,doc0,mod0,ann0,cdv,typ0,slots0,rfl,lk,hcd⟩:=F.ex
 refine⟨fun A outer s t B o args us vs ds xs oE hr e0 hb r hl rl wd hm=>?_⟩
 have kinS:K.In s.heap:=e0.mod.kin.keeps fun b ob e=>(e0.bs b ob e).1
 have limS:s.heap.NoLimit:=e0.mod.nolimit.keeps fun b ob e=>(e0.bs b ob e).1
 have kinds:∀y∈ps.zip us,(defScope st).names.lookup y.1=some .local∨((defScope st).names.lookup y.1=some .cell∧((cellsFrom (s.heap.objs.size+1) (defScope st).names []).lookup y.1).isSome=true):=by
  rintro⟨n,v⟩ hy
  exact(S.par n (List.of_mem_zip hy).1).imp id fun q=>⟨q,PySem.W.cellsFrom_some _ _ _ (.inl q)⟩
 refine codeAny_call_generator hr.depth (kinS _ _ lk) rfl S.co S.gen rfl (PySem.W.codeRec_of kinS hcd) (hb _ _ _ _ ?_)
 refine wpAny_newFunctionEnv_cells S.kind kinds ?_
 rintro env he s1 x
 subst he
 obtain⟨_,_,new1,_⟩:=x.done
 have lt1:=x.toInCall.ns.lt
 have kp1:∀b ob,s.heap.get? b=some ob→s1.heap.get? b=some ob:=x.toInCall.keep
 refine⟨limS.keeps kp1,?_⟩
 have same1:s1.os=s.os∧s1.gens=s.gens:=by rw[new1];exact⟨rfl,rfl⟩
 have I0:Inv (cxG (gP Pg w K mg base G hK hw N qual (defScope st) f cdv A outer s t.H).X ⟨s1,t,B,s,[],s1.gens.size⟩) [] (L2.start N vs) t.H s1:=by
  have I:=inv_startG (E:=fun _ _ _=>False) (cd:=cdv) (f:=f) (qual:=qual) S hr.hd e0 hl r x
  exact⟨⟨I.ok.mod,I.ok.kind,I.ok.glob,I.ok.blt,I.ok.above,I.ok.inj,I.ok.has,I.ok.cab,(fun e=>by cases e),I.ok.frames,I.ok.stk,I.ok.exf,I.ok.bs,I.ok.bsz,I.ok.noex,I.ok.exfs,I.ok.funs,I.ok.frf⟩,I.os,I.bare,I.base,I.loc,I.cell,I.free,I.freeC,(fun p hp=>by cases hp),I.hok,I.len⟩
 have made:∀(go:Obj) (n1 n2:Value) (tk2:Nat),go.cls=.type "generator"→go.data=.fields #[.int s1.gens.size 0,n1,n2]→go.slots = #[]→(∀h:Heap,(h.push go).get? h.objs.size=some go)→
   MadeG Pg w K mg base G nb (k+1) outer s t o xs oE s1.heap.objs.size s1.gens.size go (.fresh (.func (defBody st) (envOfC qual (defScope st) s.heap.objs.size f cdv))) { s1 with gens:=s1.gens.push (.fresh (.func (defBody st) (envOfC qual (defScope st) s.heap.objs.size f cdv))),toks:=tk2,heap:=s1.heap.push go }:=by
  intro go n1 n2 tk2 g1 g2 g3 g4
  refine⟨g4 _,fun hp e=>⟨go,n1,n2,e,g1,g2,g3⟩,Array.getElem?_push_size ..,Nat.le_of_lt lt1,by rw[same1.2],same1.1,AllBare.push (by rw[same1.2];exact e0.bare) rfl,fun b ob e=>Heap.get?_push_of_some _ (kp1 b ob e),fun A' hr' hfr'=>?_⟩
  have Y:=h cdv A' outer s t.H (hr'.deeper _)
  have IA:Inv (cxG (gP Pg w K mg base G hK hw N qual (defScope st) f cdv A' outer s t.H).X ⟨s1,t,B,s,[],s1.gens.size⟩) [] (L2.start N vs) t.H s1:=
   ⟨⟨I0.ok.mod,I0.ok.kind,I0.ok.glob,I0.ok.blt,I0.ok.above,I0.ok.inj,I0.ok.has,I0.ok.cab,(fun e=>by cases e),Around.frames_deeper hfr',I0.ok.stk,I0.ok.exf,I0.ok.bs,I0.ok.bsz,I0.ok.noex,I0.ok.exfs,I0.ok.funs,I0.ok.frf⟩,I0.os,I0.bare,I0.base,I0.loc,I0.cell,I0.free,I0.freeC,(fun p hp=>by cases hp),I0.hok,I0.len⟩
  have own:=sleep_own (P:=gP Pg w K mg base G hK hw N qual (defScope st) f cdv A' outer s t.H) (fun _=>rfl) IA rfl (fun p hp=>by cases hp) (fun q hq=>by cases hq)
  have lok:=sleep_ok (P:=gP Pg w K mg base G hK hw N qual (defScope st) f cdv A' outer s t.H) IA
  refine⟨gP Pg w K mg base G hK hw N qual (defScope st) f cdv A' outer s t.H,sleepL (gP Pg w K mg base G hK hw N qual (defScope st) f cdv A' outer s t.H).X [] s1,rfl,rfl,⟨rfl,rfl,rfl,rfl,rfl,rfl⟩,⟨rfl,rfl⟩,fun _=>rfl,fun p hp=>⟨Heap.get?_push_of_some _ (lok.get p hp),(own p hp).1,Nat.ne_of_lt (Heap.lt_size (lok.get p hp))⟩,rfl,fun p hp=>(own p hp).2.1,rfl,(fun _ _ e=>by cases e),(fun _ _ _ _ _ _ e=>by cases e),fun g Aq egi hkM hgs ee es0 hsz hk hpn wg io fr hid=>⟨rfl,?_⟩⟩
  have hsz0:(cutGh (gP Pg w K mg base G hK hw N qual (defScope st) f cdv A' outer s t.H).n0 g.s).heap.objs.size=s.heap.objs.size:=cut_size hsz
  have Ig:Inv (cxG (gP Pg w K mg base G hK hw N qual (defScope st) f cdv A' outer s t.H).X g) [] (L2.start N vs) g.t.H g.s:=by
   refine wake_inv ⟨rfl,rfl⟩ IA.ok.frames lok rfl IA ee es0 hsz hk fun p hp=>?_
   rw[hpn] at hp
   obtain⟨q1,q2,q3,q4,q5⟩:=of_restL hp
   refine⟨q1,q2,q3,fun hm=>?_,q5⟩
   obtain⟨_,o',ho,_⟩:=IA.ok.funs.mem hm
   exact absurd (Nat.lt_of_lt_of_le (Heap.lt_size ho) q4) (Nat.lt_irrefl _)
  refine sg_funcS fun J=>?_
  have at_:GAt (gP Pg w K mg base G hK hw N qual (defScope st) f cdv A' outer s t.H) [] (fun _=>False) (fun _=>none) g (ds.map (fun d=>some (.val d))++List.replicate (N.length - ds.length) none) o g.s (L2.start N vs) (kept g fun _=>False) g.t:=
   ⟨Ig,fun b q=>q,wg,slo_start (rl.mono fr io),Le.refl _,(fun _ _ _ hq=>by cases hq),by rw[es0];exact hsz0,(fun _ hq=>by cases hq),(fun _ h=>h.elim),(fun _ h=>h.elim),(fun _ _ e=>by cases e),rfl,egi▸hgs⟩
  have sc:SgC (gP Pg w K mg base G hK hw N qual (defScope st) f cdv A' outer s t.H) A' (.func (defBody st) (envOfC qual (defScope st) s.heap.objs.size f cdv)) [] id:=⟨over_func,rfl,rfl,rfl⟩
  have run:=Y.run A' (.func (defBody st) (envOfC qual (defScope st) s.heap.objs.size f cdv)) [] (fun f=>.pure (.done (.ret (match f with
   | .ret v=>v
   | _=>.none)))) J id id [] oE g g.s [] (fun _=>False) (fun _=>none) _ o (L2.start N vs) (kept g fun _=>False) g.t sc (fun _ h=>h.elim) (fun _ _ e=>by cases e) at_
  rw[List.append_nil] at run
  unfold ymf at hm
  revert run hm
  cases em:mb (ds.map (fun d=>some (.val d))++List.replicate (N.length - ds.length) none) o with
  | mk ys res=>
  intro hm run
  have fin:∀{g':Gh} {s':Shared} {t':S3} {ip:List (Addr×Obj)} {z:L2.St} {B':Addr→Prop},Inv (cxG (gP Pg w K mg base G hK hw N qual (defScope st) f cdv A' outer s t.H).X g') ip z t'.H s'→(∀b,g'.B b→B' b)→Wd G B' oE t'→Le g'.B g'.t t'→
    Sg (model Pg w) A' (ZG (gP Pg w K mg base G hK hw N qual (defScope st) f cdv A' outer s t.H) nb A' [] oE g') (.func (defBody st) (envOfC qual (defScope st) s.heap.objs.size f cdv)) (.pure (.done (.ret .none))) [] s':=fun {g' s' t' ip z B'} I sb wd' le=>
   sg_end (.ok (.ret .none)) ⟨_,rfl,.inl rfl,ip,z,B',t',I,sb,wd',le⟩
  cases res with
  | nx u' o'=>
   cases hm
   refine run rfl fun g' s' t' fl i1 f1 n1 q=>?_
   obtain⟨rfl,z',B',a'⟩:=q
   exact fin a'.inv (fun b q=>a'.sub b (.inl q)) a'.wd a'.le
  | rt wv o'=>
   cases wv with
   | val d=>
    cases d with
    | non=>
     cases hm
     refine run rfl fun g' s' t' fl i1 f1 n1 q=>?_
     obtain⟨_,rfl,ip',z',B',I,sb,wd',le⟩:=q
     exact fin I sb wd' le
    | _=>cases hm
   | _=>cases hm
  | _=>cases hm
 exact⟨_,_,_,_,rfl,made _ _ _ _ rfl rfl rfl fun h=>Heap.get?_push_size _ rfl⟩
end
end M3
namespace M3
open PySem PySem.Spec PyProof.Rows L2 GenW
def gT:Bool→S3→S3
 | true,t=>⟨noIo,t.F,t.H⟩
 | false,t=>t
def gO:Bool→Store→Store
 | true,_=>[]
 | false,o=>o
def gN:Bool→Store→Store→Store
 | true,st,_=>st
 | false,_,o1=>o1
theorem gT_F (b:Bool) (t:S3):(gT b t).F=t.F:=by cases b <;> rfl
theorem gT_H (b:Bool) (t:S3):(gT b t).H=t.H:=by cases b <;> rfl
structure ConG (X:Cx) (G:G3) (P:P3) (pv:Bool) (pins:List (Addr×Obj)) (z:L2.St) (a:Addr) (gi:Nat) (go:Obj) (xs:List (D×Store)) (oE:Store) (st:Store) (B:Addr→Prop) (t:S3) (s:Shared) (L:List (Addr×Obj)) (N:Addr→Prop) (M:Nat→Option GenState) (tz:S3) (o:Store) (gs:GenState):Prop where
 inv:Inv X pins z t.H s
 wd:Wd G B st t
 ga:t.H a=some (zx a go)∧B a∧L.lookup a=none
 hL:∀p∈L,t.H p.1=some (zx p.1 p.2)∧B p.1
 asl:Asleep P (!pv) X.A.in1 L N M gi o tz xs oE gs
 kM:Keeps M s
 gen:s.gens[gi]?=some gs
 isg:∀h:Heap,h.get? a=some go→h.IsGen a gi
 io:IoLe tz.io (gT pv t).io
 fr:Same tz.F t.F
 hid:∀b,N b→(!pv)=true∧B b∧L.lookup b=none∧t.H b=tz.H b
 sto:o=gO pv st
 ex:ExOk X pins (L.map Prod.fst)
 sz:P.n0≤s.heap.objs.size
 prv:pv=true→∀x∈xs,x.2=[]
 nz:∀b,N b→∃ob,t.H b=some (zx b ob)
 na:¬N a
structure Stays (B:Addr→Prop) (L:List (Addr×Obj)) (N:Addr→Prop) (t:S3) (B':Addr→Prop) (t':S3):Prop where
 io:IoLe t.io t'.io
 fr:Same t.F t'.F
 hid:∀b,B b→L.lookup b=none→¬N b→B' b∧t'.H b=t.H b
section
variable {X:Cx} {G:G3} {P:P3} {pv:Bool} {pins:List (Addr×Obj)} {z:L2.St} {a:Addr} {gi:Nat} {go:Obj} {xs:List (D×Store)} {oE:Store} {st:Store} {B:Addr→Prop} {t:S3} {s:Shared} {L:List (Addr×Obj)} {N:Addr→Prop} {M:Nat→Option GenState} {tz:S3} {o:Store} {gs:GenState}
theorem next_con {Q:Option Value→Shared→Prop} {Er:Value→Shared→Prop} (E:Eats X P) (hG:P.G=G) (hh:X.A.handled=none) (hroom:X.A.depth<recursionLimit) (C:ConG X G P pv pins z a gi go xs oE st B t s L N M tz o gs) (yo:∀b,P.n0≤b→¬(butL B L b∧¬N b)→b∈X.ex∨X.s_0.heap.objs.size≤b)
  (hE:xs=[]→∀(s':Shared) (B':Addr→Prop) (t':S3),Inv X pins z t'.H s'→Wd G B' (gN pv st oE) t'→Stays B L N t B' t'→Q none s')
  (hI:∀d o1 rest,xs=(d,o1) :: rest→∀v s' B' t' L' N' M' gs' tz',ConG X G P pv pins z a gi go rest oE (gN pv st o1) B' t' s' L' N' M' tz' (gO pv o1) gs'→(∃x,Rep G.R t'.F t'.io d x∧RelV x v)→Stays B L N t B' t'→isSlp gs'=true→(∀b,B b→L.lookup b=none→¬N b→L'.lookup b=none∧¬N' b)→Q (some v) s') :
  wpAny (model X.prog X.w) X.A (pyNext (.ref a)) Q Er s:=by
 have wc:=wd_clean C.wd fun p hp=>(C.hL p hp).2
 have Ic:=inv_clean (F:=t.F) C.inv (fun p hp=>(C.hL p hp).1) C.ex
 have there:∀{b:Addr} {ob:Obj},t.H b=some (zx b ob)→s.heap.get? b=some ob:=fun {b ob} e=>(C.inv.hok b _ e).1
 have apart:∀p∈L,p.1≠X.env.locals∧∀q∈X.pn++pins,q.1≠p.1:=fun p hp=>by
  refine⟨fun e=>?_,fun q hq e=>?_⟩
  ·have:=C.inv.free
   rw[←e,(C.hL p hp).1] at this
   cases this
  ·have:=(C.inv.pin q hq).2.1
   rw[e,(C.hL p hp).1] at this
   cases this
 have after:∀(s':Shared) (B1:Addr→Prop) (t1 t2:S3) (B2:Addr→Prop) (d:D) (o1:Store) (rest:List (D×Store)) (v:Value) (L1:List (Addr×Obj)) (N1:Addr→Prop) (M1:Nat→Option GenState) (gs1:GenState) (gB:Addr→Prop) (gt:S3),(∀b,B b→L.lookup b=none→¬N b→gB b)→xs=(d,o1) :: rest→NextG X P (!pv) pins z gi gB gt d o1 rest oE v s' B1 t1 L1 N1 M1 gs1→
   t2.F=t1.F→t2.H=t1.H→Wd G B2 (gN pv st o1) t2→Stays B L N t B2 t2→(∀b,N1 b→B2 b)→IoLe t1.io (gT pv t2).io→(∃x,Rep G.R t2.F t2.io d x∧RelV x v)→Q (some v) s':=by
  intro s' B1 t1 t2 B2 d o1 rest v L1 N1 M1 gs1 gB gt hgB hx n eF eH w2 S hN hio val
  have none2:∀p∈L1,t2.H p.1=none:=fun p hp=>by rw[eH];exact(n.own p hp).2
  obtain⟨w3,l3⟩:=wd_withL w2 none2
  have ga2:t2.H a=some (zx a go):=by rw[(S.hid a C.ga.2.1 C.ga.2.2 C.na).2];exact C.ga.1
  have out:∀{b:Addr} {u:HO},t2.H b=some u→L1.lookup b=none:=fun {b u} e=>by
   cases q:L1.lookup b with
   | none=>rfl
   | some ob=>rw[none2 _ (lookL q)] at e;cases e
  have keepH:∀{b:Addr} {u:HO},t2.H b=some u→withL t2.H L1 b=some u:=fun {b u} e=>by unfold withL;rw[out e];exact e
  have ho:o1=gO pv o1:=by
   cases pv with
   | true=>exact C.prv rfl (d,o1) (by rw[hx];exact List.mem_cons_self)
   | false=>rfl
  refine hI d o1 rest hx v s' (orL B2 L1) ⟨t2.io,t2.F,withL t2.H L1⟩ L1 N1 M1 gs1 t1 ⟨?_,w3,⟨keepH ga2,.inl (S.hid a C.ga.2.1 C.ga.2.2 C.na).1,out ga2⟩,fun p hp=>⟨?_,.inr (inL hp)⟩,ho▸n.asl,n.kM,n.gen,C.isg,?_,fun b u e=>eF▸e,fun b hb=>?_,?_,n.ex,n.sz,(fun e x hm=>C.prv e x (by rw[hx];exact List.mem_cons_of_mem _ hm)),(fun b h=>let ⟨ob,e⟩:=n.nz b h;⟨ob,keepH (by rw[eH];exact e)⟩),fun h=>n.dis a h (hgB a C.ga.2.1 C.ga.2.2 C.na)⟩ val ⟨S.io,S.fr,fun b h1 h2 h3=>?_⟩ n.slp fun b h1 h2 h3=>?_
  rotate_left 6
  ·obtain⟨_,u,e,_⟩:=w2.hid b (S.hid b h1 h2 h3).1
   exact⟨out e,fun h=>n.dis b h (hgB b h1 h2 h3)⟩
  ·have:=n.inv
   rw[←eH] at this
   exact inv_withL this none2 (fun p hp=>(n.own p hp).1) n.ex
  ·obtain⟨ob,q⟩:=inL hp
   have e1:=(n.own _ (lookL q)).1
   have e2:=(n.own p hp).1
   rw[show ((p.1,ob):Addr×Obj).1=p.1 from rfl,e2] at e1
   show withL t2.H L1 p.1=_
   unfold withL
   rw[q]
   cases e1
   rfl
  ·cases pv <;> exact hio
  ·obtain⟨_,u,e,_⟩:=w2.hid b (hN b hb)
   exact⟨n.nest b hb,.inl (hN b hb),out e,(keepH e).trans (by rw[←eH];exact e.symm)⟩
  ·cases pv <;> rfl
  ·obtain⟨y1,y2⟩:=S.hid b h1 h2 h3
   obtain⟨_,u,e,_⟩:=w2.hid b y1
   exact⟨.inl y1,(keepH e).trans (e.symm.trans y2)⟩
 cases pv with
 | true=>
  have wg:=wd_priv wc
  refine step_gen (nb:=!true) (B:=bigB t.F (cleanL t.F t.H L)) (t:=⟨noIo,t.F,cleanL t.F t.H L⟩) (N:=N) (o:=o) (tz:=tz) E Ic hh hroom (C.isg _ (there C.ga.1)) C.gen C.asl C.kM (by rw[hG,C.sto];exact wg.less fun b q=>q.elim id fun h=>(by cases (C.hid b h).1)) C.io C.fr (fun b hb=>by cases (C.hid b hb).1) (fun p hp=>⟨there (C.hL p hp).1,clean_L hp⟩) apart (fun b h1 h2=>yo b h1 fun h=>h2 (big_of wc h.1)) C.sz (fun hx s' B1 t1 I1 sub w1 le=>?_) fun d o1 rest hx v s' B1 t1 L1 N1 M1 gs1 n=>?_
  ·rw[hG] at w1
   obtain⟨w2,l2⟩:=wd_back wc w1 sub le
   exact hE hx s' (butL B L) ⟨t.io,t1.F,t1.H⟩ I1 w2 ⟨IoLe.refl _,le.fr,fun b h1 h2 _=>⟨⟨h1,h2⟩,(l2.hid b ⟨h1,h2⟩).trans (clean_hid C.wd ⟨h1,h2⟩)⟩⟩
  ·have w1:=n.wd
   rw[hG] at w1
   obtain⟨w2,l2⟩:=wd_back wc w1 (fun b h=>n.sub b (.inl h)) n.le
   have eo:o1=[]:=C.prv rfl (d,o1) (by rw[hx];exact List.mem_cons_self)
   have nio:IoLe t1.io noIo:=fun k y e=>by
    have:=n.wd.dom k y e
    rw[eo] at this
    exact absurd this (Nat.not_lt_zero _)
   refine after s' B1 t1 ⟨t.io,t1.F,t1.H⟩ (butL B L) d o1 rest v L1 N1 M1 gs1 _ _ (fun b h1 h2 _=>big_of wc ⟨h1,h2⟩) hx n rfl rfl w2 ⟨IoLe.refl _,n.le.fr,fun b h1 h2 _=>⟨⟨h1,h2⟩,(l2.hid b ⟨h1,h2⟩).trans (clean_hid C.wd ⟨h1,h2⟩)⟩⟩ (fun b hb=>by cases n.nest b hb) nio ?_
   obtain⟨x,r,rv⟩:=n.val
   rw[hG] at r
   exact⟨x,Rep.mono (Same.refl _) (fun k y e=>by have:=nio k y e;cases this) r,rv⟩
 | false=>
  refine step_gen (nb:=!false) (B:=fun b=>butL B L b∧¬N b) (t:=⟨t.io,t.F,cleanL t.F t.H L⟩) (N:=N) (o:=o) (tz:=tz) E Ic hh hroom (C.isg _ (there C.ga.1)) C.gen C.asl C.kM (by rw[hG,C.sto];exact wc.less fun b q=>q.elim (fun h=>h.1) fun h=>⟨(C.hid b h).2.1,(C.hid b h).2.2.1⟩) C.io C.fr (fun b hb=>?_) (fun p hp=>⟨there (C.hL p hp).1,clean_L hp⟩) apart yo C.sz (fun hx s' B1 t1 I1 sub w1 le=>?_) fun d o1 rest hx v s' B1 t1 L1 N1 M1 gs1 n=>?_
  ·obtain⟨_,h1,h2,h3⟩:=C.hid b hb
   exact⟨fun q=>q.2 hb,(clean_hid C.wd ⟨h1,h2⟩).trans h3⟩
  ·rw[hG] at w1
   exact hE hx s' B1 t1 I1 w1 ⟨le.io,le.fr,fun b h1 h2 h3=>⟨sub b ⟨⟨h1,h2⟩,h3⟩,(le.hid b ⟨⟨h1,h2⟩,h3⟩).trans (clean_hid C.wd ⟨h1,h2⟩)⟩⟩
  ·have w1:=n.wd
   rw[hG] at w1
   have val:=n.val
   rw[hG] at val
   exact after s' B1 t1 t1 B1 d o1 rest v L1 N1 M1 gs1 _ _ (fun b h1 h2 h3=>⟨⟨h1,h2⟩,h3⟩) hx n rfl rfl w1 ⟨n.le.io,n.le.fr,fun b h1 h2 h3=>⟨n.sub b (.inl ⟨⟨h1,h2⟩,h3⟩),(n.le.hid b ⟨⟨h1,h2⟩,h3⟩).trans (clean_hid C.wd ⟨h1,h2⟩)⟩⟩ (fun b hb=>n.sub b (.inr hb)) (IoLe.refl _) val
end
end M3
namespace M3
open PySem PySem.Spec PyProof.Rows L2 GenW
mutual
def D.noR:D→Bool
 | .ref _=>false
 | .fn _ _=>false
 | .lst xs=>D.noRs xs
 | .ro xs=>D.noRs xs
 | .tup xs=>D.noRs xs
 | .ctup xs=>D.noRs xs
 | .dict _ us=>D.noRs us
 | .dd ks us=>D.noRs ks && D.noRs us
 | _=>true
def D.noRs:List D→Bool
 | []=>true
 | x :: xs=>x.noR && D.noRs xs
end
section
variable {K:KW} {F:Hp} {io io':Io}
mutual
theorem Rep.noio:∀{d:D} {v:V},d.noR=true→Rep K F io d v→Rep K F io' d v
 | .non,_,_,.non=>.non
 | .bl _,_,_,.bl=>.bl
 | .int _,_,_,.int=>.int
 | .str _,_,_,.str=>.str
 | .ty _,_,_,.ty=>.ty
 | .tup xs,_,q,.tup s r=>.tup s (RepL.noio (show D.noRs xs=true from q) r)
 | .ctup xs,_,q,.ctup s r=>.ctup s (RepL.noio (show D.noRs xs=true from q) r)
 | .lst xs,_,q,.lst e r=>.lst e (RepL.noio (show D.noRs xs=true from q) r)
 | .ro xs,_,q,.ro s r=>.ro s (RepL.noio (show D.noRs xs=true from q) r)
 | .dict _ us,_,q,.dict e z r=>.dict e z (RepL.noio (show D.noRs us=true from q) r)
 | .dd ks us,_,q,.dd e k t vs r=>by
  have q:(D.noRs ks && D.noRs us)=true:=q
  rw[Bool.and_eq_true] at q
  exact .dd e (RepL.noio q.1 k) t vs (RepL.noio q.2 r)
 | .ref _,_,q,.ref _=>by cases q
 | .fn _ _,_,q,.fn _ _ _ _ _=>by cases q
theorem RepL.noio:∀{d:List D} {v:List V},D.noRs d=true→RepL K F io d v→RepL K F io' d v
 | _,_,_,.nil=>.nil
 | x :: xs,_,q,.cons r t=>by
  have q:(x.noR && D.noRs xs)=true:=q
  rw[Bool.and_eq_true] at q
  exact .cons (Rep.noio q.1 r) (RepL.noio q.2 t)
end
end
abbrev GEM:=Sl3→Store→Option (List (D×Store)×Store×Store)
structure IGen (P:P3) (k:Nat) (e:Expr) (pv:Bool) (m:GEM):Prop where
 prv:∀u st xs oE st',m u st=some (xs,oE,st')→pv=true→∀x∈xs,x.2=[]
 run:∀(pins:List (Addr×Obj)) (s:Shared) (z:L2.St) (t:S3) (st:Store) (u:Sl3) (B0 B:Addr→Prop) (xs:List (D×Store)) (oE st':Store),Inv P.X pins z t.H s→Wd P.G B st t→Slo P.G P.hx B0 B t u z→m u st=some (xs,oE,st')→
  wpAny (model P.X.prog P.X.w) P.X.A (eval e P.X.env) (fun v s'=>∃a gi go gs t' sc,v=.ref a∧s.gens.size≤sc.gens.size∧Le B t t'∧Wd P.G B st' t'∧Inv P.X pins z t'.H sc∧MadeG P.X.prog P.X.w P.X.K P.X.mg P.X.base P.G (!pv) k P.X.stack sc (gT pv t') (gO pv st') xs oE a gi go gs s') P.X.xe s
structure CalG (Pg:Program) (w:World) (K:PySem.W.Frag) (mg:Str→Option Value) (base:Heap) (G:G3) (nb:Bool) (k:Nat) (x:Str) (n:Nat) (m:List D→Store→Option (List (D×Store)×Store)):Prop where
 ex:∃f fd ps,mg x=some (.ref f)∧PySem.W.keepIn K (.ref f)=true∧Binds K fd ps []∧ps.length=n∧GnOk Pg w K mg base G nb k f fd ps m
def gMade (pv:Bool) (m:List D→Store→Option (List (D×Store)×Store)) (ds:List D) (st:Store):Option (List (D×Store)×Store×Store):=
 if pv=true∧D.noRs ds=false then none else match m ds (gO pv st) with
  | some (xs,oE)=>if pv=true∧(xs.all fun x=>x.2.isEmpty)=false then none else some (xs,oE,st)
  | none=>none
theorem gMade_of {pv:Bool} {m:List D→Store→Option (List (D×Store)×Store)} {ds:List D} {st oE st':Store} {xs:List (D×Store)} (h:gMade pv m ds st=some (xs,oE,st')):st'=st∧m ds (gO pv st)=some (xs,oE)∧(pv=true→D.noRs ds=true)∧(pv=true→∀x∈xs,x.2=[]):=by
 unfold gMade at h
 split at h
 ·cases h
 ·rename_i n1
  cases e:m ds (gO pv st) with
  | none=>rw[e] at h;cases h
  | some r=>
   obtain⟨ys,o⟩:=r
   rw[e] at h
   dsimp only at h
   split at h
   ·cases h
   ·rename_i n2
    cases h
    refine⟨rfl,rfl,fun q=>?_,fun q x hx=>?_⟩
    ·cases y:D.noRs ds with
     | true=>rfl
     | false=>exact absurd ⟨q,y⟩ n1
    ·cases y:(xs.all fun x=>x.2.isEmpty) with
     | true=>
      have:=List.all_eq_true.mp y x hx
      exact List.isEmpty_iff.mp this
     | false=>exact absurd ⟨q,y⟩ n2
def gCall (n:Nat) (pv:Bool) (m:List D→Store→Option (List (D×Store)×Store)) (ma:AM):GEM:=fun u st=>match ma u st with
 | .ok ws st'=>(match asDs ws with
  | some ds=>if ds.length=n then gMade pv m ds st' else none
  | none=>none)
 | _=>none
theorem gCall_of {n:Nat} {pv:Bool} {m:List D→Store→Option (List (D×Store)×Store)} {ma:AM} {u:Sl3} {st oE st':Store} {xs:List (D×Store)} (h:gCall n pv m ma u st=some (xs,oE,st')):∃ws st1 ds,ma u st=.ok ws st1∧asDs ws=some ds∧ds.length=n∧gMade pv m ds st1=some (xs,oE,st'):=by
 unfold gCall at h
 cases em:ma u st with
 | err _ _ _=>rw[em] at h;cases h
 | bad=>rw[em] at h;cases h
 | ok ws st1=>
  rw[em] at h
  dsimp only at h
  cases ed:asDs ws with
  | none=>rw[ed] at h;cases h
  | some ds=>
   rw[ed] at h
   dsimp only at h
   split at h
   ·exact⟨ws,st1,ds,rfl,ed,by assumption,h⟩
   ·cases h
section
variable {P:P3} {pos p apos:Pos} {x m:Str} {o e:Expr} {es:List Expr} {k:Nat} {pv:Bool}
theorem ig_of {f:Addr} {fd:FuncData} {ps:List Str} {mg:List D→Store→Option (List (D×Store)×Store)} {pins:List (Addr×Obj)} {s:Shared} {z:L2.St} {t:S3} {st st' oE:Store} {B:Addr→Prop} {ds:List D} {us:List Value} {vs:List V} {xs:List (D×Store)} {E:Value→Shared→Prop} {t0:S3} {n0:Nat}
  (F:GnOk P.X.prog P.X.w P.X.K P.X.mg P.X.base P.G (!pv) k f fd ps mg) (hr:L2.Room k P.X.A) (hb:Binds P.X.K fd ps []) (hn:ps.length=ds.length) (I:Inv P.X pins z t.H s) (wd:Wd P.G B st t) (r:Vals vs us) (rl:RepL P.G.R t.F t.io ds vs) (l0:Le B t0 t) (hz:n0≤s.gens.size) (h:gMade pv mg ds st=some (xs,oE,st')) :
  wpAny (model P.X.prog P.X.w) P.X.A (call (.ref f) us) (fun v s'=>∃a gi go gs t' sc,v=.ref a∧n0≤sc.gens.size∧Le B t0 t'∧Wd P.G B st' t'∧Inv P.X pins z t'.H sc∧MadeG P.X.prog P.X.w P.X.K P.X.mg P.X.base P.G (!pv) k P.X.stack sc (gT pv t') (gO pv st') xs oE a gi go gs s') E s:=by
 obtain⟨rfl,hm,hno,_⟩:=gMade_of h
 have hl:us.length=ps.length:=by rw[←r.length,←rl.length,hn]
 have bt:BindsTo s fd ⟨us,[]⟩ (ps.zip us):=by
  have:=hb s us I.kIn (by simpa using hl)
  simpa using this
 have hlv:vs.length=ps.length:=by rw[←rl.length,hn]
 have run:codeAny (model P.X.prog P.X.w) P.X.A (.call (.ref f) ⟨us,[]⟩) (fun r s'=>∃a gi go gs,r=.ok (.ret (.ref a))∧MadeG P.X.prog P.X.w P.X.K P.X.mg P.X.base P.G (!pv) k P.X.stack s (gT pv t) (gO pv st') xs oE a gi go gs s') s:=by
  cases pv with
  | true=>exact F.run P.X.A P.X.stack s (gT true t) (bigB t.F t.H) [] ⟨us,[]⟩ us vs ds xs oE hr I.env0 bt r hlv (RepL.noio (hno rfl) rl) (wd_priv wd) hm
  | false=>exact F.run P.X.A P.X.stack s t B st' ⟨us,[]⟩ us vs ds xs oE hr I.env0 bt r hlv rl wd hm
 refine wpAny_call (codeAny_mono run fun r s' hq=>?_)
 obtain⟨a,gi,go,gs,rfl,hM⟩:=hq
 exact⟨a,gi,go,gs,t,s,rfl,hz,l0,wd,I,hM⟩
theorem ig_call {n:Nat} {mg:List D→Store→Option (List (D×Store)×Store)} {ma:AM} (c:CalG P.X.prog P.X.w P.X.K P.X.mg P.X.base P.G (!pv) k x n mg) (hr:L2.Room k P.X.A) (hg:Gl P.X x) (ha:MA P (e :: es) ma)
  (hdb:(x == ("__debug__" : Str))=false:=by decide) (he:starEach (e :: es) P.X.env=(false,eval e P.X.env) :: starEach es P.X.env:=by rfl) (hpl:(backTo pos (starEach es P.X.env)).any (·.1)=false:=by rfl) :
  IGen P k (.Call (.Name x p) (e :: es) [] pos) pv (gCall n pv mg ma):=by
 obtain⟨f,fd,ps,hm,hkp,hb,hn,F⟩:=c.ex
 refine⟨fun u st xs oE st' h=>?_,fun pins s z t st u B0 B xs oE st' I wd sl h=>?_⟩
 ·obtain⟨ws,st1,ds,_,_,_,h⟩:=gCall_of h
  exact(gMade_of h).2.2.2
 ·obtain⟨ws,st1,ds,em,ed,hl,h⟩:=gCall_of h
  refine wpAny_Call_Name_kw (ld_glob I hg hm (PySem.W.callWith_K (h₀:=P.X.base) I.ok.mod.kin hkp (wpAny_gsz (n:=s.gens.size) (Nat.le_refl _) (wpAny_mono (ha.pa.run pos pins s z t.H (fun vs H'=>∃t',t'.H=H'∧Le B t t'∧Wd P.G B st1 t'∧RepWs P.G P.hx B t' ws vs) I ⟨B0,B,t,st,u,rfl,wd,sl,?_⟩) (fun us s1 q hz=>?_) fun _ _ x _=>x)) he hpl) hdb)
  ·rw[em]
   exact fun t' vs l w r=>⟨t',rfl,l,w,r⟩
  ·obtain⟨vs,H1,I1,r,t',rfl,l,w,rw'⟩:=q
   exact⟨I1.kIn,ig_of F hr hb (by rw[hn,hl]) I1 w r (asDs_ok rw' ed) l hz h⟩
structure MthG (Pg:Program) (w:World) (K:PySem.W.Frag) (mg:Str→Option Value) (base:Heap) (G:G3) (nb:Bool) (k:Nat) (m:Str) (c:String) (mf:List D→Store→Option (List (D×Store)×Store)):Prop where
 ex:∃C f fd ps,G.cls c=some C∧Cls K C∧Meth K C m f∧Binds K fd ps []∧ps.length=1∧GnOk Pg w K mg base G nb k f fd ps mf
def gMeth (m:Str) (c:String) (mf:List D→Store→Option (List (D×Store)×Store)) (mo:EM):GEM:=fun u st=>match mo u st with
 | .ok (.val (.ref i)) st'=>(match st'[i]? with
  | some (.ins c' fs)=>if c'=c∧fs.lookup m=none then gMade false mf [.ref i] st' else none
  | _=>none)
 | _=>none
theorem ig_meth {c:String} {mf:List D→Store→Option (List (D×Store)×Store)} {mo:EM} (hMth:MthG P.X.prog P.X.w P.X.K P.X.mg P.X.base P.G true k m c mf) (hr:L2.Room k P.X.A) (ho:ME P o mo) {pl:Sem Bool}
  (hT:MethParts P.X o m apos pos [] pl:=by rfl) :
  IGen P k (.Call (.Attribute o m apos) [] [] pos) false (gMeth m c mf mo):=by
 obtain⟨C,f,fd,ps,ec,hc,hm,hb,hn,F⟩:=hMth.ex
 refine⟨fun u st xs oE st' h q=>(by cases q),fun pins s z t st u B0 B xs oE st' I wd sl h=>?_⟩
 unfold gMeth at h
 cases em:mo u st with
 | err _ _ _=>rw[em] at h;cases h
 | bad=>rw[em] at h;cases h
 | ok w0 st1=>
 rw[em] at h
 cases w0 with
 | val d=>
  cases d with
  | ref i=>
   dsimp only at h
   cases ek:st1[i]? with
   | none=>rw[ek] at h;cases h
   | some ob=>
   rw[ek] at h
   cases ob with
   | ins c' fs=>
    dsimp only at h
    split at h
    rotate_left
    ·cases h
    rename_i hcf
    obtain⟨rfl,hno⟩:=hcf
    refine PySem.W.methodCall_KW (pl:=pl) (wpAny_gsz (n:=s.gens.size) (Nat.le_refl _) (wpAny_mono (ho.pe.run pins s z t.H (fun v H'=>∃t',t'.H=H'∧Le B t t'∧Wd P.G B st1 t'∧Rep P.G.R t'.F t'.io (.ref i) v) I ⟨B0,B,t,st,u,rfl,wd,sl,?_⟩) (fun v s1 q hz=>?_) fun _ _ x _=>x)) hT
    ·rw[em]
     exact fun t' v l w r=>⟨t',rfl,l,w,r⟩
    ·obtain⟨y,H1,I1,rv,t',rfl,l,w,rr⟩:=q
     cases rr with
     | ref eio=>
     rename_i a
     obtain rfl:v=Value.ref a:=rv
     obtain⟨a',eio',nb,hF,ob⟩:=w.obj i _ ek rfl
     rw[eio] at eio'
     cases eio'
     obtain⟨C',dx,gs,ec',eh,rf⟩:=ob
     rw[ec] at ec'
     cases ec'
     refine getmeth_ok I1 eh hc hm ((rf.look (f:=m)).2 hno) ?_
     refine PySem.W.callWith_K0 (first:=[.ref a]) I1.kIn hm.kp ?_
     exact ig_of (pv:=false) (ds:=[.ref i]) (us:=[.ref a]) (vs:=[.ref a]) F hr hb (by rw[hn];rfl) I1 w (.cons rfl .nil) (.cons (.ref eio) .nil) l hz h
   | _=>cases h
  | _=>cases h
 | _=>cases h
end
section
variable {X:Cx} {G:G3} {P:P3} {pv:Bool} {pins:List (Addr×Obj)} {z:L2.St} {a:Addr} {gi:Nat} {go:Obj} {xs:List (D×Store)} {oE:Store} {st:Store} {B:Addr→Prop} {t:S3} {s:Shared} {L:List (Addr×Obj)} {N:Addr→Prop} {M:Nat→Option GenState} {tz:S3} {o:Store} {gs:GenState}
theorem ConG.go_on {pins':List (Addr×Obj)} {z':L2.St} {st':Store} {B':Addr→Prop} {t':S3} {s':Shared} (C:ConG X G P pv pins z a gi go xs oE st B t s L N M tz o gs) (I:Inv X pins' z' t'.H s') (wd:Wd G B' st' t') (hg:s'.gens[gi]?=some gs) (kM:Keeps M s') (io:IoLe t.io t'.io) (fr:Same t.F t'.F) (hid:∀b,B b→(∃p ob,t.H b=some (zx p ob))→B' b∧t'.H b=t.H b) (sto:gO pv st'=gO pv st)
  (ex:ExOk X pins' (L.map Prod.fst)) (sz:P.n0≤s'.heap.objs.size):ConG X G P pv pins' z' a gi go xs oE st' B' t' s' L N M tz o gs:=by
 obtain⟨g1,g2,g3⟩:=C.ga
 obtain⟨g4,g5⟩:=hid a g2 ⟨_,_,g1⟩
 refine⟨I,wd,⟨g5.trans g1,g4,g3⟩,fun p hp=>?_,C.asl,kM,hg,C.isg,?_,fun b u e=>fr b u (C.fr b u e),fun b hb=>?_,C.sto.trans sto.symm,ex,sz,C.prv,fun b hb=>?_,C.na⟩
 ·obtain⟨h1,h2⟩:=C.hL p hp
  obtain⟨h3,h4⟩:=hid p.1 h2 ⟨_,_,h1⟩
  exact⟨h4.trans h1,h3⟩
 ·have q:=C.io
  cases pv with
  | true=>exact q
  | false=>exact q.trans io
 ·obtain⟨h1,h2,h3,h4⟩:=C.hid b hb
  obtain⟨ob,e⟩:=C.nz b hb
  obtain⟨h5,h6⟩:=hid b h2 ⟨_,_,e⟩
  exact⟨h1,h5,h3,h6.trans h4⟩
 ·obtain⟨ob,e⟩:=C.nz b hb
  obtain⟨_,h2,_,_⟩:=C.hid b hb
  exact⟨ob,(hid b h2 ⟨_,_,e⟩).2.trans e⟩
end
end M3
namespace M3
open PySem PySem.Spec PyProof.Rows L2 GenW
def fGen (m:GEM) (pv:Bool):FM:=fun u st=>match m u st with
 | some (xs,oE,st')=>if xs.length<1000000 then .ok (xs.map (·.1)) (gN pv st' oE) else .bad
 | none=>.bad
def noCells (scope:Scope):Bool:=scope.names.all fun y=>match y.2 with
 | .cell=>false
 | .free=>false
 | _=>true
theorem noCells_at {scope:Scope} (h:noCells scope=true):∀y∈scope.names,(y.2 == .cell)=false∧(y.2 == .free)=false:=fun y hy=>by
 have:=List.all_eq_true.mp h y hy
 cases e:y.2 <;> rw[e] at this <;> first | exact⟨rfl,rfl⟩ | cases this
theorem cells_none {ns:List (Str×NameKind)} (h:∀y∈ns,(y.2 == .cell)=false):∀(n:Nat) (acc:List (Str×Addr)),cellsFrom n ns acc=acc:=by
 induction ns with
 | nil=>intro n acc;rfl
 | cons y r ih=>
  intro n acc
  obtain⟨x,k⟩:=y
  have hk:(k == .cell)=false:=h (x,k) List.mem_cons_self
  unfold cellsFrom
  rw[if_neg (by rw[hk];exact Bool.false_ne_true)]
  exact ih (fun y hy=>h y (List.mem_cons_of_mem _ hy)) n acc
theorem clo_none {cells:List (Str×Addr)} {ns:List (Str×NameKind)} (h:∀y∈ns,(y.2 == .free)=false):∀(acc:List (Str×Addr)),cloFrom cells ns acc=acc:=by
 induction ns with
 | nil=>intro acc;rfl
 | cons y r ih=>
  intro acc
  obtain⟨x,k⟩:=y
  have hk:(k == .free)=false:=h (x,k) List.mem_cons_self
  unfold cloFrom
  rw[if_neg (by rw[hk];exact Bool.false_ne_true)]
  exact ih (fun y hy=>h y (List.mem_cons_of_mem _ hy)) acc
section
variable {P:P3} {pos:Pos}
theorem grow_in {G:G3} {B:Addr→Prop} {st:Store} {t:S3} {p:Addr} {vs us:List V} (w:Wd G B st t) (hB:B p) (h:t.H p=some (.lst vs)):Wd G B st ⟨t.io,t.F,upd t.H p (.lst us)⟩:=by
 have w1:Wd G (plus (fun b=>B b∧b≠p) p) st t:=w.less fun b q=>q.elim (fun y=>y.1) fun e=>e▸hB
 obtain⟨w2,_⟩:=grow_wd (xs:=[]) (d:=.non) (v:=.non) w1 (fun q=>q.2 rfl) h (.lst us)
 refine w2.less fun b q=>?_
 by_cases e:b=p
 ·exact .inr e
 ·exact .inl ⟨q,e⟩
theorem slo_none {G:G3} {X:Hex} {B0 B:Addr→Prop} {t:S3} {z:L2.St}:Slo G X B0 B t (List.replicate z.length none) z:=
 ⟨by simp,(fun _=>0),(fun i w e=>by
  rw[List.getElem?_replicate] at e
  split at e <;> cases e),(fun i j w w' _ _ e _=>by
  rw[List.getElem?_replicate] at e
  split at e <;> cases e)⟩
theorem between {n m b:Nat} (h:n≤m):b∈List.range' n (m - n)↔n≤b∧b<m:=by
 rw[List.mem_range'_1]
 omega
theorem withL_at {H:Hp} {L:List (Addr×Obj)} {h:Heap} (hg:∀p∈L,h.get? p.1=some p.2):∀p∈L,withL H L p.1=some (zx p.1 p.2):=fun p hp=>by
 obtain⟨ob,q⟩:=inL hp
 have e1:=hg _ (lookL q)
 have e2:=hg p hp
 rw[show ((p.1,ob):Addr×Obj).1=p.1 from rfl,e2] at e1
 unfold withL
 rw[q]
 cases e1
 rfl
theorem gen_core {k i:Nat} {tg elt iter:Expr} {scope:Scope} {own:List (Str×Nat)} {m:GEM} {pv:Bool} {gs:List Nat} {pos':Pos} {pins:List (Addr×Obj)} {s:Shared} {z:L2.St} {Q:VK} {B0 B:Addr→Prop} {t:S3} {st:Store} {u:Sl3} {use:Option (Value→Sem Unit)} {Qf:Value→Shared→Prop}
  (hA:P.X.A.handled=none) (hN:P.X.N.Nodup) (hr:L2.Room k P.X.A.in1) (hd:P.X.A.depth<recursionLimit) (hi:IGen P k iter pv m) (ok:BlkOk P.X.N P.X.env.scope scope own) (hcl:noCells scope=true) (hiN:i<P.X.N.length)
  (hg:∀(s:Shared) (H:Hp) (C:Addr) (cl:List (Str×Addr)) (fp:List Addr),CoolS P.X.A s H (frs P.X.stack) fp→MG (P.blk s H scope C cl fp) tg (gName3 i) gs)
  (he:∀(s:Shared) (H:Hp) (C:Addr) (cl:List (Str×Addr)) (fp:List Addr),CoolS P.X.A s H (frs P.X.stack) fp→ME (P.blk s H scope C cl fp) elt (eVar i)) (hgs:∀j∈gs,j∈own.map (·.2)) (hs:∀x,foldedSetIterable iter P.X.env x=pure x)
  (I:Inv P.X pins z t.H s) (wd:Wd P.G B st t) (sl:Slo P.G P.hx B0 B t u z) (h:PostF P.G B (fun c d H=>P.wx c d z H) t Q (fGen m pv u st))
  (out:∀D C s' m H',Inv P.X pins z H' s'→Q (.ref D) H'→s'.heap.Ns C m→FpOk P.X pins H' C→compPost (model P.X.prog P.X.w) P.X.A P.X.xe use Qf (.ref D) C (.ok .next) s') :
  wpAny (model P.X.prog P.X.w) P.X.A (comprehension (.ListComp elt [⟨tg,iter,[],0⟩] scope pos) scope P.X.env pos' (newList []) false (eval iter P.X.env) use) Qf P.X.xe s:=by
 unfold fGen at h
 cases em:m u st with
 | none=>rw[em] at h;exact h.elim
 | some r=>
 obtain⟨xs,oE,st'⟩:=r
 rw[em] at h
 dsimp only at h
 split at h
 rotate_left
 ·exact h.elim
 rename_i hlen
 refine wpAny_comprehension_free (use:=use) rfl hs (closure_ok fun y hy e=>I.ok.has _ (ok.free y hy e)) ok.kind (fun y hy e=>(ok.uniq y hy).trans (congrArg some e)) ?_
 refine thn (hi.run pins s z t st u B0 B xs oE st' I wd sl em) ?_
 rintro v s1 ⟨a,gi,go,gs0,t1,sc,rfl,_,l1,wd1,Ic,hM⟩
 refine wpAny_pyIter_gen (hM.gen _ hM.obj) ?_
 refine wpAny_newObj_type (newEnv_comp ?_) (Nat.zero_le _)
 have I1:Inv P.X pins z t1.H s1:=Ic.call' (ch:=[]) hM.os (Un.kept hM.keep) (Ic.hok.kept hM.keep) hM.bare fun b hb=>by cases hb
 have laid:Inv P.X pins z (upd t1.H s1.heap.objs.size (.lst [])) (laidL s1):=I1.laid (t':=s1.toks) (fun b o e=>Heap.get?_push_of_some _ e) (Nat.le_refl _) ⟨Nat.zero_le _,[],0,.nil,Heap.get?_push_size _ rfl⟩
 have lt1:∀{b:Addr} {ob:Obj},s1.heap.get? b=some ob→b<s1.heap.objs.size:=fun e=>Heap.lt_size e
 have nD:sc.heap.objs.size≤s1.heap.objs.size:=Nat.le_trans hM.big (Nat.le_of_lt (lt1 hM.obj))
 have fpm:∀{b:Addr},b∈List.range' sc.heap.objs.size (s1.heap.objs.size - sc.heap.objs.size)↔sc.heap.objs.size≤b∧b<s1.heap.objs.size:=fun {b}=>between nD
 obtain⟨fp,hfp⟩:∃fp,fp=List.range' sc.heap.objs.size (s1.heap.objs.size - sc.heap.objs.size):=⟨_,rfl⟩
 rw[←hfp] at fpm
 have neD:∀{b:Addr} {ob:Obj},s1.heap.get? b=some ob→b≠s1.heap.objs.size:=fun e=>Nat.ne_of_lt (lt1 e)
 have sizeL:(laidL s1).heap.objs.size=s1.heap.objs.size+1:=Heap.size_push ..
 have feet:∀b∈fp,FpOk P.X pins (upd t1.H s1.heap.objs.size (.lst [])) b∧b<(laidL s1).heap.objs.size:=fun b hb=>by
  obtain⟨h1,h2⟩:=fpm.mp hb
  exact⟨Ic.fpOk h1 ((upd_ne (Nat.ne_of_lt h2)).trans (Ic.hok.fresh h1)),by rw[sizeL];exact Nat.lt_succ_of_lt h2⟩
 have ins:=block_start laid ok hN feet
 obtain⟨Pg,L0,hn,hG,⟨q1,q2,q3,q4,q5,q6⟩,stk,fn,hL0,asl⟩:=hM.wake P.X.A.in1 hr (show P.X.A.in1.frames=some P.X.stack from I.ok.frames)
 have hcells:∀x c,(P.X.blk (laidL s1) (upd t1.H s1.heap.objs.size (.lst [])) scope (blkEnv P.X scope (laidL s1)) fp).env.cells.lookup x=some c→c<Pg.n0:=fun x c e=>by
  have e0:(P.X.blk (laidL s1) (upd t1.H s1.heap.objs.size (.lst [])) scope (blkEnv P.X scope (laidL s1)) fp).env.cells=[]:=by
   show cellsFrom _ scope.names (cloFrom P.X.env.cells scope.names [])=[]
   rw[cells_none fun y hy=>(noCells_at hcl y hy).1,clo_none fun y hy=>(noCells_at hcl y hy).2]
  rw[e0] at e
  cases e
 have EY:Eats (P.X.blk (laidL s1) (upd t1.H s1.heap.objs.size (.lst [])) scope (blkEnv P.X scope (laidL s1)) fp) Pg:=⟨q1,q2,q3,q4,q5,q6,stk,fn,hcells⟩
 have hget1:∀p∈(a,go) :: L0,s1.heap.get? p.1=some p.2:=fun p hp=>by
  exact(List.mem_cons.mp hp).elim (fun e=>by rw[e];exact hM.obj) fun e=>(hL0 p e).1
 have hnone1:∀p∈(a,go) :: L0,t1.H p.1=none:=fun p hp=>by
  refine(List.mem_cons.mp hp).elim (fun e=>by rw[e];exact Ic.hok.fresh hM.big) fun e=>?_
  have:=(hL0 p e).2.1
  rw[gT_H] at this
  exact this
 have hyoung:∀p∈(a,go) :: L0,sc.heap.objs.size≤p.1:=fun p hp=>by
  exact(List.mem_cons.mp hp).elim (fun e=>by rw[e];exact hM.big) fun e=>by rw[←hn];exact asl.young p e
 have hnone:∀p∈(a,go) :: L0,upd t1.H s1.heap.objs.size (.lst []) p.1=none:=fun p hp=>(upd_ne (neD (hget1 p hp))).trans (hnone1 p hp)
 have hget:∀p∈(a,go) :: L0,(blkFirst scope (laidL s1)).heap.get? p.1=some p.2:=fun p hp=>pushCells_keeps _ _ _ _ (Heap.get?_push_of_some _ (Heap.get?_push_of_some _ (hget1 p hp)))
 have exY:ExOk (P.X.blk (laidL s1) (upd t1.H s1.heap.objs.size (.lst [])) scope (blkEnv P.X scope (laidL s1)) fp) [] (((a,go) :: L0).map Prod.fst):=fun b hb=>by
  obtain⟨p,hp,rfl⟩:=List.mem_map.mp hb
  have m:=fpm.mpr ⟨hyoung p hp,lt1 (hget1 p hp)⟩
  exact⟨.inl m,(ins.ok.exf _ m).1,fun x c e=>(ins.ok.exf _ m).2 x c e,fun q hq=>by cases hq⟩
 have IY:=inv_withL ins hnone hget exY
 obtain⟨wdD,lD⟩:=own_wd (ho:=.lst []) wd1 (I1.hok.fresh (Nat.le_refl _))
 obtain⟨wdL,lL⟩:=wd_withL (L:=(a,go) :: L0) wdD hnone
 have nBD:¬B s1.heap.objs.size:=wd1.freshB (I1.hok.fresh (Nat.le_refl _))
 have aL0:L0.lookup a=none:=by
  cases q:L0.lookup a with
  | none=>rfl
  | some ob=>exact absurd rfl (hL0 _ (lookL q)).2.2
 have C0:ConG (P.X.blk (laidL s1) (upd t1.H s1.heap.objs.size (.lst [])) scope (blkEnv P.X scope (laidL s1)) fp) P.G Pg pv [] (L2.wipe z (own.map (·.2))) a gi go xs oE st' (orL (plus B s1.heap.objs.size) ((a,go) :: L0)) ⟨t1.io,t1.F,withL (upd t1.H s1.heap.objs.size (.lst [])) ((a,go) :: L0)⟩ (blkFirst scope (laidL s1)) L0 (fun _=>False) (fun _=>none) (gT pv t1) (gO pv st') gs0:=by
  refine⟨IY,wdL,⟨withL_at hget _ List.mem_cons_self,.inr (inL (p:=(a,go)) List.mem_cons_self),aL0⟩,fun p hp=>⟨withL_at hget p (List.mem_cons_of_mem _ hp),.inr (inL (List.mem_cons_of_mem _ hp))⟩,asl,(fun _ _ e=>by cases e),hM.st,hM.gen,?_,fun b u e=>?_,fun _ h=>h.elim,rfl,fun b hb=>exY b (List.mem_cons_of_mem _ hb),?_,hi.prv _ _ _ _ _ em,(fun _ h=>h.elim),fun h=>h⟩
  ·cases pv <;> exact IoLe.refl _
  ·rw[gT_F] at e;exact e
  ·rw[hn]
   have:=ins.sz
   exact Nat.le_trans nD (Nat.le_trans (by rw[show (P.X.blk (laidL s1) (upd t1.H s1.heap.objs.size (.lst [])) scope (blkEnv P.X scope (laidL s1)) fp).s_0=laidL s1 from rfl,sizeL];exact Nat.le_succ _) this)
 have cools:CoolS P.X.A (laidL s1) (upd t1.H s1.heap.objs.size (.lst [])) (frs P.X.stack) fp:=.inl hA
 have gG:=hg (laidL s1) (upd t1.H s1.heap.objs.size (.lst [])) (laidL s1).heap.objs.size (cellsFrom ((laidL s1).heap.objs.size+1) scope.names (cloFrom P.X.env.cells scope.names [])) fp cools
 have gE:=he (laidL s1) (upd t1.H s1.heap.objs.size (.lst [])) (laidL s1).heap.objs.size (cellsFrom ((laidL s1).heap.objs.size+1) scope.names (cloFrom P.X.env.cells scope.names [])) fp cools
 refine(show codeAny _ _ (.compStart (.ListComp elt [⟨tg,iter,[],0⟩] scope pos) 0 (.ref a) (.ref s1.heap.objs.size) (blkEnv P.X scope (laidL s1))) (compPost _ _ _ use Qf (.ref s1.heap.objs.size) (laidL s1).heap.objs.size) (blkFirst scope (laidL s1)) from ?_)
 refine(fun loop=>codeAny_compStart_list loop (wpAny_pyIter_gen (hM.gen _ (hget _ List.mem_cons_self)) loop)) ?_
 have wl:(L2.wipe z (own.map (·.2))).length=P.X.N.length:=(wipe_length _ _).trans I.len
 refine compLoop_any (fun n now=>∃rem st2 B2 t2 Lc N2 M2 tz o2 gs2 acc vs,n=rem.length∧ConG (P.X.blk (laidL s1) (upd t1.H s1.heap.objs.size (.lst [])) scope (blkEnv P.X scope (laidL s1)) fp) P.G Pg pv [] (L2.wipe z (own.map (·.2))) a gi go rem oE st2 B2 t2 now Lc N2 M2 tz o2 gs2∧B2 s1.heap.objs.size∧Lc.lookup s1.heap.objs.size=none∧
  t2.H s1.heap.objs.size=some (.lst vs)∧RepL P.G.R t2.F t2.io acc vs∧acc++rem.map (·.1)=xs.map (·.1)∧IoLe t1.io t2.io∧Same t1.F t2.F∧(∀b,B b→B2 b∧Lc.lookup b=none∧t2.H b=t1.H b∧¬N2 b)∧(pv=true→st2=st')∧¬N2 s1.heap.objs.size) (fun n s5=>?_) xs.length ⟨xs,st',orL (plus B s1.heap.objs.size) ((a,go) :: L0),⟨t1.io,t1.F,withL (upd t1.H s1.heap.objs.size (.lst [])) ((a,go) :: L0)⟩,L0,fun _=>False,fun _=>none,gT pv t1,gO pv st',gs0,[],[],rfl,C0,.inl (.inr rfl),?_,?_,.nil,rfl,IoLe.refl _,Same.refl _,fun b hb=>?_,(fun _=>rfl),fun h=>h⟩
 rotate_left
 ·cases q:L0.lookup s1.heap.objs.size with
  | none=>rfl
  | some ob=>exact absurd rfl (neD (hget1 _ (List.mem_cons_of_mem _ (lookL q))))
 ·show withL _ _ _=_
  unfold withL
  have:((a,go) :: L0).lookup s1.heap.objs.size=none:=by
   cases q:((a,go) :: L0).lookup s1.heap.objs.size with
   | none=>rfl
   | some ob=>exact absurd rfl (neD (hget1 _ (lookL q)))
  rw[this]
  exact upd_same
 ·obtain⟨_,ub,eb,_⟩:=wd1.hid b hb
  have nb:b≠s1.heap.objs.size:=fun e=>nBD (e▸hb)
  have e2:upd t1.H s1.heap.objs.size (.lst []) b=some ub:=(upd_ne nb).trans eb
  refine⟨.inl (.inl hb),?_,(lL.hid b (.inl hb)).trans (upd_ne nb),fun h=>h⟩
  cases q:L0.lookup b with
  | none=>rfl
  | some ob=>
   have:=hnone1 _ (List.mem_cons_of_mem _ (lookL q))
   rw[show ((b,ob):Addr×Obj).1=b from rfl,eb] at this
   cases this
 rintro⟨rem,st2,B2,t2,Lc,N2,M2,tz,o2,gs2,acc,vs,rfl,C,hD,hDL,hDv,rl,hcat,io2,fr2,hid2,hst,hND⟩
 refine next_con (X:=P.X.blk (laidL s1) (upd t1.H s1.heap.objs.size (.lst [])) scope (blkEnv P.X scope (laidL s1)) fp) EY hG hA hd C (fun b h1 h2=>?_) (fun hx s' B' t' I' w' S=>?_) fun d o1 rest hx v s6 B' t' L' N' M' gs' tz' C' val S slp hLL=>?_
 ·rcases Nat.lt_or_ge (b:Nat) s1.heap.objs.size with h | h
  ·exact .inl (fpm.mpr ⟨hn▸h1,h⟩)
  ·refine .inr ?_
   show (laidL s1).heap.objs.size≤b
   rw[sizeL]
   refine Nat.lt_of_le_of_ne h fun e=>h2 ?_
   rw[←e]
   exact⟨⟨hD,hDL⟩,hND⟩
 ·obtain⟨mm,hmm,_⟩:=I'.loc
  have I7:Inv P.X pins z t'.H s':=laid.call' (ch:=fp) I'.os I'.base I'.hok I'.bare fun b hb=>by
   obtain⟨_,f1,_,f3,f4,f5⟩:=(feet b hb).1
   exact⟨f3,f1,f4,f5⟩
  have SD:=S.hid s1.heap.objs.size hD hDL hND
  refine out s1.heap.objs.size (laidL s1).heap.objs.size s' mm t'.H I7 ?_ hmm (laid.fpOk (Nat.le_refl _) I'.free)
  refine h t' s1.heap.objs.size vs ⟨l1.io.trans (io2.trans S.io),fun b q e=>S.fr b q (fr2 b q (l1.fr b q e)),fun b hb=>?_⟩ ?_ (fun hb=>nBD hb) (SD.2.trans hDv) ?_
  ·obtain⟨x1,x2,x3,x6⟩:=hid2 b hb
   exact(S.hid b x1 x2 x6).2.trans (x3.trans (l1.hid b hb))
  ·have e:gN pv st2 oE=gN pv st' oE:=by
    cases pv with
    | true=>exact hst rfl
    | false=>rfl
   rw[←e]
   refine w'.less fun b q=>?_
   rcases q with q | q
   ·obtain⟨x1,x2,_,x6⟩:=hid2 b q
    exact(S.hid b x1 x2 x6).1
   ·exact q▸SD.1
  ·rw[hx,List.map_nil,List.append_nil] at hcat
   rw[←hcat]
   exact rl.mono S.fr S.io
 ·have SD:=S.hid s1.heap.objs.size hD hDL hND
  obtain⟨x,rx,rv⟩:=val
  have goo:s6.heap.get? a=some go:=(C'.inv.hok a _ C'.ga.1).1
  obtain⟨go',nm,qn,e1,e2,e3,_⟩:=C'.isg _ goo
  refine L2.go_of e1 e2 e3 (by decide) ?_
  refine wpAny_mono (wpAny_doze (gG.pg.run [] (lull s6) (L2.wipe z (own.map (·.2))) t'.H x v (fun z2 H2=>H2=t'.H∧Slo P.G P.hx B' B' t' ((List.replicate (L2.wipe z (own.map (·.2))).length none).set i (some (.val d))) z2∧L2.wipe z2 (own.map (·.2))=L2.wipe z (own.map (·.2))) (inv_lull C'.inv) rv
   ⟨B',B',t',gN pv st2 o1,List.replicate (L2.wipe z (own.map (·.2))).length none,d,_,rfl,C'.wd,slo_none,rx,rfl,fun z2 sl2 b2=>⟨rfl,sl2,by rw[b2.wipe hgs,lc_ok.wipe_wipe]⟩⟩)) (fun _ s8 q=>?_) fun _ s8 q=>(let ⟨_,_,y⟩:=q;y.elim)
  obtain⟨u8,d8,z8,H8,I8,rfl,sl8,bw8⟩:=q
  have J8:=inv_dozed d8 C'.inv.bare I8
  have g8:=d8.slp gi gs' C'.gen slp
  have k8:Keeps M' s8:=fun i x e=>⟨d8.slp i x (C'.kM i x e).1 (C'.kM i x e).2,(C'.kM i x e).2⟩
  refine wpAny_pure ?_
  rw[if_pos rfl]
  have ev:eVar i ((List.replicate (L2.wipe z (own.map (·.2))).length none).set i (some (.val d))) (gN pv st2 o1)=.ok (.val d) (gN pv st2 o1):=by
   unfold eVar
   rw[List.getElem?_set_self (by rw[List.length_replicate,wl];exact hiN)]
  refine wpAny_mono (wpAny_doze (gE.pe.run [] (lull s8) z8 t'.H (fun y H9=>∃t9,t9.H=H9∧Le B' t' t9∧Wd P.G B' (gN pv st2 o1) t9∧Rep P.G.R t9.F t9.io d y) (inv_lull J8) ⟨B',B',t',gN pv st2 o1,_,rfl,C'.wd,sl8,?_⟩)) (fun v9 s9 q=>?_) fun _ s9 q=>(let ⟨_,_,y⟩:=q;y.elim)
  ·rw[ev]
   exact fun t9 y l w r=>⟨t9,rfl,l,w,r⟩
  obtain⟨u9,d9,y,H9,I9,ry,t9,rfl,l9,w9,r9⟩:=q
  have J9:=inv_dozed d9 J8.bare I9
  have g9:=d9.slp gi gs' g8 slp
  have k9:Keeps M' s9:=fun i x e=>⟨d9.slp i x (k8 i x e).1 (k8 i x e).2,(k8 i x e).2⟩
  have D9:t9.H s1.heap.objs.size=some (.lst vs):=(l9.hid _ SD.1).trans (SD.2.trans hDv)
  have rl9:RepL P.G.R t9.F t9.io acc vs:=(rl.mono S.fr S.io).mono l9.fr l9.io
  have hacc:vs.length<sizeLine:=by
   have e:=congrArg List.length hcat
   rw[List.length_append,List.length_map,List.length_map] at e
   have e4:=rl9.length
   exact szl (by omega)
  refine wpAny_mono (wpAny_doze (app_ok (X:=P.X.blk (laidL s1) (upd t1.H s1.heap.objs.size (.lst [])) scope (blkEnv P.X scope (laidL s1)) fp) (Q:=fun _ sa=>Inv (P.X.blk (laidL s1) (upd t1.H s1.heap.objs.size (.lst [])) scope (blkEnv P.X scope (laidL s1)) fp) [] z8 (upd t9.H s1.heap.objs.size (.lst (vs++[y]))) sa) (E:=fun _ _=>False) (inv_lull J9) D9 hacc ry fun s' I'=>I')) (fun _ s10 q=>?_) fun _ s10 q=>(let ⟨_,_,y⟩:=q;y.elim)
  obtain⟨u10,d10,I10⟩:=q
  have J10:=inv_dozed d10 J9.bare I10
  have g10:=d10.slp gi gs' g9 slp
  have k10:Keeps M' s10:=fun i x e=>⟨d10.slp i x (k9 i x e).1 (k9 i x e).2,(k9 i x e).2⟩
  have same:=wiped bw8
  have zxD:∀{b:Addr},(∃p ob,t'.H b=some (zx p ob))→b≠s1.heap.objs.size:=fun {b} ⟨p,ob,e⟩ z=>by
   rw[z,SD.2.trans hDv] at e
   cases e
  have nbD:∀{b:Addr},B b→b≠s1.heap.objs.size:=fun {b} h e=>nBD (e▸h)
  refine⟨rest.length,by rw[hx];exact Nat.lt_succ_self _,rest,gN pv st2 o1,B',⟨t9.io,t9.F,upd t9.H s1.heap.objs.size (.lst (vs++[y]))⟩,L',N',M',tz',gO pv o1,gs',acc++[d],vs++[y],rfl,
   C'.go_on (J10.weak same.1 same.2) (grow_in w9 SD.1 D9) g10 k10 l9.io l9.fr (fun b hb hz=>⟨hb,(upd_ne (zxD hz)).trans (l9.hid b hb)⟩) rfl C'.ex ?_,SD.1,(hLL _ hD hDL hND).1,upd_same,rl9.append (.cons r9 .nil),?_,io2.trans (S.io.trans l9.io),fun b q e=>l9.fr b q (S.fr b q (fr2 b q e)),fun b hb=>?_,(fun e=>?_),(hLL _ hD hDL hND).2⟩
  ·rw[hn]
   have:=J10.sz
   exact Nat.le_trans nD (Nat.le_trans (by rw[show (P.X.blk (laidL s1) (upd t1.H s1.heap.objs.size (.lst [])) scope (blkEnv P.X scope (laidL s1)) fp).s_0=laidL s1 from rfl,sizeL];exact Nat.le_succ _) this)
  ·rw[hx] at hcat
   rw[←hcat]
   simp
  ·obtain⟨x1,x2,x3,x6⟩:=hid2 b hb
   obtain⟨x4,x5⟩:=S.hid b x1 x2 x6
   obtain⟨x7,x8⟩:=hLL b x1 x2 x6
   exact⟨x4,x7,(upd_ne (nbD hb)).trans ((l9.hid b x4).trans (x5.trans x3)),x8⟩
  ·cases pv with
   | true=>exact hst rfl
   | false=>cases e
variable {k i:Nat} {tg elt iter:Expr} {scope:Scope} {own:List (Str×Nat)} {m:GEM} {pv:Bool} {gs:List Nat}
theorem ms_setGen {j:Nat} {y:Str} {py spos:Pos} (hA:P.X.A.handled=none) (hN:P.X.N.Nodup) (hr:L2.Room k P.X.A.in1) (hd:P.X.A.depth<recursionLimit) (hi:IGen P k iter pv m) (ok:BlkOk P.X.N P.X.env.scope scope own) (hcl:noCells scope=true) (hiN:i<P.X.N.length)
  (hg:∀(s:Shared) (H:Hp) (C:Addr) (cl:List (Str×Addr)) (fp:List Addr),CoolS P.X.A s H (frs P.X.stack) fp→MG (P.blk s H scope C cl fp) tg (gName3 i) gs)
  (he:∀(s:Shared) (H:Hp) (C:Addr) (cl:List (Str×Addr)) (fp:List Addr),CoolS P.X.A s H (frs P.X.stack) fp→ME (P.blk s H scope C cl fp) elt (eVar i))
  (hsw:swapsWith (.ListComp elt [⟨tg,iter,[],0⟩] scope pos) (some (.Name y py)) spos.line P.X.env=pure true) (hy:P.X.N[j]?=some y:=by rfl) (hyl:P.X.env.scope.names.lookup y=some .local:=by rfl) (hgs:∀j∈gs,j∈own.map (·.2):=by decide) (hs:∀x,foldedSetIterable iter P.X.env x=pure x:=by intro _;rfl) :
  MS P (.Assign [.Name y py] (.ListComp elt [⟨tg,iter,[],0⟩] scope pos) spos) (sSet j (eF (fGen m pv))):=by
 refine⟨⟨fun pins s z H E I ⟨B0,B,t,st,u,eH,b0,wd,sl,h⟩=>?_⟩⟩
 subst eH
 rw[exec_Assign_Name_used _ _ _ _ hsw]
 have h2:PostF P.G B (fun c d H=>P.wx c d z H) t (fun x H1=>gName j x z H1 E.nx) (fGen m pv u st):=by
  unfold sSet eF M.bind at h
  cases e:fGen m pv u st with
  | ok xs st'=>
   rw[e] at h
   dsimp only[M.pure] at h
   exact fun s' p vs l w nb hp r=>h B ⟨s'.io,upd s'.F p (.lst vs),s'.H⟩ _ b0 ((l.trans (freeze_le w)).less b0) (freeze_wd w nb hp) ((sl.mono' (l.trans (freeze_le w))).set (.lst upd_same (r.mono (freeze_le w).fr (freeze_le w).io)) j)
  | err c x st'=>rw[e] at h;exact fun s' cv dd l w q=>h B s' z cv dd b0 (l.less b0) w (sl.mono' l) q
  | bad=>rw[e] at h;exact h
 exact wpAny_bind (wpAny_standAt (wpAny_bind (wpAny_bind (thn (gen_core (Qf:=fun _ s'=>SP P.X pins E .next s') hA hN hr hd hi ok hcl hiN hg he hgs hs I wd sl h2 fun D C s' mm H' I' q hn f=>out_set hN hy hyl I' q hn f) fun _ s' hq=>wpAny_pure (wpAny_pure hq)))))
end
end M3
namespace M3
open PySem PySem.Spec PyProof.Rows L2 GenW
section
variable {j k:Nat} {A:Around} {s0:Shared} {H0:Hp} {fs ex:List Addr}
theorem gRoom (h:L2.Room k A):RoomS k A s0 H0 fs ex:=⟨h.dp,h.un,.inl h.hd⟩
theorem gRoomG (h:L2.Room k A) (g:Gh) (l:List Addr):RoomS k A g.s0 g.t.H l []:=gRoom h
theorem gr_at (h:RoomS j A s0 H0 fs ex) (hn:A.handled=none) (l:k≤j):L2.Room k A:=⟨hn,by have:=h.dp;omega,by have:=h.un;omega⟩
theorem gr_in (h:RoomS j A s0 H0 fs ex) (hn:A.handled=none) (l:k+1≤j):L2.Room k A.in1:=by
 refine⟨hn,?_,?_⟩
 ·have:=h.dp
  show A.depth+3 * k+5<recursionLimit
  omega
 ·have:=h.un
  show A.units+1+16 * k+200<cLine
  omega
end
end M3
namespace M3
open PySem PySem.Spec PyProof.Rows L2 GenW
def lullBut (g:Nat) (s:Shared):Shared:={ s with gens:=s.gens.mapIdx fun i x=>if i=g then x else snooze x }
def sleptBut (g:Nat) (s:Shared):Nat→Option GenState:=fun i=>if i=g then none else slept s i
theorem but_at (g:Nat) (s:Shared) (i:Nat):(lullBut g s).gens[i]?=s.gens[i]?.map fun x=>if i=g then x else snooze x:=by
 show (s.gens.mapIdx fun i x=>if i=g then x else snooze x)[i]?=_
 rw[Array.getElem?_mapIdx]
theorem slept_some {s:Shared} {i:Nat} {x:GenState} (e:slept s i=some x):s.gens[i]?=some x∧isSlp x=true:=by
 unfold slept at e
 cases h:s.gens[i]? with
 | none=>rw[h] at e;cases e
 | some y=>
  rw[h] at e
  dsimp only at e
  split at e
  ·cases e;exact⟨rfl,by assumption⟩
  ·cases e
theorem slept_none {s:Shared} {i:Nat} {y:GenState} (e:slept s i=none) (h:s.gens[i]?=some y):isSlp y=false:=by
 unfold slept at e
 rw[h] at e
 dsimp only at e
 split at e
 ·cases e
 ·rename_i n
  cases q:isSlp y with
  | false=>rfl
  | true=>exact absurd q n
theorem doze_but (g:Nat) (s:Shared) (nice:∀k l c p fs cl,s.gens[g]?=some (.suspended k l c p fs cl)→splitAtGen fs=none):Doze (sleptBut g s) (lullBut g s) s:=by
 refine⟨rfl,rfl,rfl,rfl,by show _=(s.gens.mapIdx _).size;simp,fun i x e=>?_,fun i e=>?_,fun i k l c p fs cl e q=>?_⟩
 ·unfold sleptBut at e
  split at e
  ·cases e
  ·rename_i n
   obtain⟨e1,e2⟩:=slept_some e
   exact⟨e2,by rw[but_at,e1,Option.map_some,if_neg n],e1⟩
 ·rw[but_at]
  unfold sleptBut at e
  cases h:s.gens[i]? with
  | none=>rfl
  | some y=>
   rw[Option.map_some]
   split at e
   ·rename_i z;rw[if_pos z]
   ·rename_i n
    rw[if_neg n]
    have:=slept_none e h
    cases y <;> first | rfl | cases this
 ·rw[but_at] at q
  cases h:s.gens[i]? with
  | none=>rw[h] at q;cases q
  | some y=>
   rw[h,Option.map_some] at q
   unfold sleptBut at e
   split at e
   ·rename_i z
    rw[if_pos z] at q
    injection q with q
    exact nice k l c p fs cl (by rw[←z,h,q])
   ·rename_i n
    rw[if_neg n] at q
    have:=slept_none e h
    cases y <;> first | (injection q with q;cases q;done) | cases this
structure DozedB (g:Nat) (s u s':Shared):Prop where
 heap:s'.heap=u.heap
 os:s'.os=u.os
 bare:AllBare s.gens→AllBare u.gens→AllBare s'.gens
 slp:∀(i:Nat) (x:GenState),i≠g→s.gens[i]?=some x→isSlp x=true→s'.gens[i]?=some x
 own:s'.gens[g]?=u.gens[g]?
theorem dozedB_of {g:Nat} {s u s':Shared} (d:Doze (sleptBut g s) u s'):DozedB g s u s':=by
 refine⟨d.heap,d.os,fun h h' y hy=>?_,fun i x n e q=>(d.slp i x (by unfold sleptBut slept;rw[if_neg n,e];dsimp only;rw[if_pos q])).2.2,d.oth g (by unfold sleptBut;rw[if_pos rfl])⟩
 obtain⟨i,hi,e⟩:=Array.mem_iff_getElem.mp hy
 have e:s'.gens[i]?=some y:=by rw[Array.getElem?_eq_getElem hi,e]
 cases hO:sleptBut g s i with
 | none=>exact h' y (Array.mem_of_getElem? ((d.oth i hO).symm.trans e))
 | some x=>
  have q:=(d.slp i x hO).2.2
  rw[e] at q
  cases q
  unfold sleptBut at hO
  split at hO
  ·cases hO
  ·exact h _ (Array.mem_of_getElem? (slept_some hO).1)
theorem bare_but {g:Nat} {s:Shared} (h:AllBare s.gens):AllBare (lullBut g s).gens:=fun y hy=>by
 obtain⟨i,hi,e⟩:=Array.mem_iff_getElem.mp hy
 have e:(lullBut g s).gens[i]?=some y:=by rw[Array.getElem?_eq_getElem hi,e]
 rw[but_at] at e
 cases q:s.gens[i]? with
 | none=>rw[q] at e;cases e
 | some x=>
  rw[q,Option.map_some] at e
  injection e with e
  have hx:=h x (Array.mem_of_getElem? q)
  rw[←e]
  split
  ·exact hx
  ·rw[snooze_bare];exact hx
theorem inv_but {X:Cx} {pins:List (Addr×Obj)} {z:L2.St} {H:Hp} {s:Shared} (g:Nat) (I:Inv X pins z H s):Inv X pins z H (lullBut g s):=
 ⟨I.ok,I.os,bare_but I.bare,I.base,I.loc,I.cell,I.free,I.freeC,I.pin,I.hok,I.len⟩
theorem inv_dozedB {X:Cx} {pins:List (Addr×Obj)} {z:L2.St} {H:Hp} {g:Nat} {s u s':Shared} (d:DozedB g s u s') (hb:AllBare s.gens) (I:Inv X pins z H u):Inv X pins z H s':=by
 have e:=d.heap
 refine⟨I.ok,d.os.trans I.os,d.bare hb I.bare,?_,?_,?_,I.free,I.freeC,?_,?_,I.len⟩ <;> rw[e]
 ·exact I.base
 ·exact I.loc
 ·exact I.cell
 ·exact I.pin
 ·exact I.hok
end M3
namespace M3
open PySem PySem.Spec PyProof.Rows L2 GenW
def yForG (m:GEM) (g:GM) (b:YM):YM:=fun u o=>match m u o with
 | some (xs,_,o1)=>yForL g b (xs.map (·.1)) u o1
 | none=>([],.bad)
def withN (N:Addr→Prop) (a:Addr) (L:List (Addr×Obj)):Addr→Prop:=fun b=>N b∨b=a∨∃ob,L.lookup b=some ob
def withM (M:Nat→Option GenState) (gi:Nat) (gs:GenState):Nat→Option GenState:=fun i=>if i=gi then some gs else M i
theorem withM_keeps {M:Nat→Option GenState} {gi:Nat} {gs:GenState} {s:Shared} (k:Keeps M s) (e:s.gens[gi]?=some gs) (h:isSlp gs=true):Keeps (withM M gi gs) s:=fun i x q=>by
 unfold withM at q
 split at q
 ·rename_i z
  cases q
  rw[z]
  exact⟨e,h⟩
 ·exact k i x q
section
variable {P:P3} {pos:Pos}
structure Head (P:P3) (Pg:P3) (ip:List (Addr×Obj)) (N:Addr→Prop) (M:Nat→Option GenState) (a:Addr) (gi:Nat) (go:Obj) (r:List (D×Store)) (oE:Store) (g:Gh) (u:Sl3) (o:Store) (s:Shared) (z:L2.St) (B:Addr→Prop) (t:S3) (L:List (Addr×Obj)) (tz:S3) (gs:GenState):Prop where
 at_:GAt P ip (withN N a L) M g u o s z B t
 asl:∃Nc Mc,(∀b,¬Nc b)∧(∀i,Mc i=none)∧Asleep Pg false P.X.A.in1 L Nc Mc gi [] tz r oE gs
 ha:t.H a=some (zx a go)
 aL:L.lookup a=none
 hL:∀p∈L,t.H p.1=some (zx p.1 p.2)
 NL:∀b,N b→L.lookup b=none∧b≠a
 gen:s.gens[gi]?=some gs
 fr:Same tz.F t.F
 io:IoLe tz.io noIo
 ne:gi≠g.gi
 prv:∀x∈r,x.2=[]
theorem Head.con {Pg:P3} {ip:List (Addr×Obj)} {N:Addr→Prop} {M:Nat→Option GenState} {a:Addr} {gi:Nat} {go:Obj} {r:List (D×Store)} {oE:Store} {g:Gh} {u:Sl3} {o:Store} {s:Shared} {z:L2.St} {B:Addr→Prop} {t:S3} {L:List (Addr×Obj)} {tz:S3} {gs:GenState}
  (h:Head P Pg ip N M a gi go r oE g u o s z B t L tz gs) (isg:∀h:Heap,h.get? a=some go→h.IsGen a gi) (hb:Pg.n0≤a) (hp:P.n0≤Pg.n0) (v:Shared) (I:Inv (cxG P.X g) ip z t.H v) (hv:v.gens[gi]?=some gs) :
  ∃Nc Mc,(∀b,¬Nc b)∧ConG (cxG P.X g) P.G Pg true ip z a gi go r oE o B t v L Nc Mc tz [] gs:=by
 obtain⟨Nc,Mc,hN,hM,asl⟩:=h.asl
 have inB:∀{b:Addr},withN N a L b→B b:=fun q=>h.at_.sub _ (.inr q)
 refine⟨Nc,Mc,hN,I,h.at_.wd,⟨h.ha,inB (.inr (.inl rfl)),h.aL⟩,fun p hp=>⟨h.hL p hp,inB (.inr (.inr (inL hp)))⟩,asl,(fun i x e=>by rw[hM i] at e;cases e),hv,isg,h.io,h.fr,(fun b q=>(hN b q).elim),rfl,fun b hb=>?_,?_,(fun _=>h.prv),(fun b q=>(hN b q).elim),hN a⟩
 ·obtain⟨p,hp',rfl⟩:=List.mem_map.mp hb
  have e:=h.hL p hp'
  refine⟨.inr ?_,fun q=>?_,fun x c hc q=>?_,fun q hq e2=>?_⟩
  ·show g.s0.heap.objs.size≤p.1
   rw[h.at_.sz]
   exact Nat.le_trans hp (asl.young p hp')
  ·have:=I.free
   rw[show (cxG P.X g).env.locals=p.1 from q.symm,e] at this
   cases this
  ·have:=I.freeC x c hc
   rw[q,e] at this
   cases this
  ·have:=(I.pin q hq).2.1
   rw[e2,e] at this
   cases this
 ·obtain⟨_,ob,e⟩:=I.hok a _ h.ha
  exact Nat.le_trans hb (Nat.le_of_lt (Heap.lt_size (I.hok a _ h.ha).1))
theorem GAt.narrow {ip:List (Addr×Obj)} {N:Addr→Prop} {M:Nat→Option GenState} {a:Addr} {gi:Nat} {gs:GenState} {L:List (Addr×Obj)} {g:Gh} {u:Sl3} {o:Store} {s:Shared} {z:L2.St} {B:Addr→Prop} {t:S3} (hM:M gi=none) (x:GAt P ip (withN N a L) (withM M gi gs) g u o s z B t):GAt P ip N M g u o s z B t:=by
 have kp:∀{b},kept g N b→kept g (withN N a L) b:=fun q=>q.imp id .inl
 have hm:∀i y,M i=some y→withM M gi gs i=some y:=fun i y e=>by
  unfold withM
  rw[if_neg fun q=>by rw[q,hM] at e;cases e]
  exact e
 refine⟨x.inv,fun b q=>x.sub b (kp q),x.wd,slo_to (IoLe.refl _) (Same.refl _) x.slo fun p q _=>⟨q,rfl,kp⟩,x.le,x.dj,x.sz,x.yg,fun b q=>x.nz b (.inl q),fun b q=>x.dis b (.inl q),fun i y e=>x.gk i y (hm i y e),?_,x.gs⟩
 cases e:M g.gi with
 | none=>rfl
 | some y=>have:=x.gm;rw[hm _ _ e] at this;cases this
section
variable {Pg:P3} {ip:List (Addr×Obj)} {N:Addr→Prop} {M:Nat→Option GenState} {a:Addr} {gi:Nat} {go:Obj} {r:List (D×Store)} {oE:Store} {g:Gh} {u:Sl3} {o:Store} {s:Shared} {z:L2.St} {B:Addr→Prop} {t:S3} {L:List (Addr×Obj)} {tz:S3} {gs:GenState}
theorem Head.notL (h:Head P Pg ip N M a gi go r oE g u o s z B t L tz gs) {b:Addr} (q:kept g N b):B b∧L.lookup b=none:=by
 refine⟨h.at_.sub b (q.imp id .inl),?_⟩
 rcases q with q | q
 ·cases e:L.lookup b with
  | none=>rfl
  | some ob=>exact absurd q (h.at_.dis b (.inr (.inr ⟨ob,e⟩)))
 ·exact(h.NL b q).1
theorem Head.done (h:Head P Pg ip N M a gi go r oE g u o s z B t L tz gs) (hM:M gi=none) {Nc:Addr→Prop} (hN:∀b,¬Nc b) {v s':Shared} {B1:Addr→Prop} {t1:S3} (d:DozedB gi s v s') (hz:s.gens.size≤s'.gens.size) (I:Inv (cxG P.X g) ip z t1.H v) (w:Wd P.G B1 o t1) (S:Stays B L Nc t B1 t1):GAt P ip N M g u o s' z B1 t1:=by
 have st:∀{b},kept g N b→B1 b∧t1.H b=t.H b:=fun q=>S.hid _ (h.notL q).1 (h.notL q).2 (hN _)
 refine⟨inv_dozedB d h.at_.inv.bare I,fun b q=>(st q).1,w,slo_to S.io S.fr h.at_.slo fun p hp q=>?_,⟨h.at_.le.io.trans S.io,h.at_.le.fr.trans S.fr,fun b q=>(st (.inl q)).2.trans (h.at_.le.hid b q)⟩,h.at_.dj,h.at_.sz,h.at_.yg,fun b q=>?_,fun b q=>h.at_.dis b (.inl q),fun i y e=>?_,h.at_.gm,Nat.lt_of_lt_of_le h.at_.gs hz⟩
 ·have nl:L.lookup p=none:=by
   cases e:L.lookup p with
   | none=>rfl
   | some ob=>
    rcases q with q | q
    ·exact absurd (.inr (.inr (.inr ⟨ob,e⟩))) q
    ·exact absurd (h.hL _ (lookL e)) (q _)
  exact⟨(S.hid p hp nl (hN p)).1,(S.hid p hp nl (hN p)).2,fun q=>q.imp id .inl⟩
 ·obtain⟨ob,e⟩:=h.at_.nz b (.inl q)
  exact⟨ob,(st (.inr q)).2.trans e⟩
 ·obtain⟨e1,e2⟩:=h.at_.gk i y e
  exact⟨d.slp i y (fun q=>by rw[q,hM] at e;cases e) e1 e2,e2⟩
theorem Head.item (h:Head P Pg ip N M a gi go r oE g u o s z B t L tz gs) (hM:M gi=none) {Nc:Addr→Prop} (hN:∀b,¬Nc b) {v s':Shared} {rest:List (D×Store)} {B1:Addr→Prop} {t1:S3} {L1:List (Addr×Obj)} {N1:Addr→Prop} {M1:Nat→Option GenState} {tz1:S3} {gs1:GenState} (d:DozedB gi s v s') (hz:s.gens.size≤s'.gens.size)
  (C:ConG (cxG P.X g) P.G Pg true ip z a gi go rest oE o B1 t1 v L1 N1 M1 tz1 [] gs1) (S:Stays B L Nc t B1 t1) (sl:isSlp gs1=true) (hLL:∀b,B b→L.lookup b=none→¬Nc b→L1.lookup b=none∧¬N1 b) :
  GAt P ip (withN N a L1) (withM M gi gs1) g u o s' z B1 t1∧(∀b,N b→L1.lookup b=none∧b≠a)∧∀b,N b→t1.H b=t.H b:=by
 have st:∀{b},kept g N b→B1 b∧t1.H b=t.H b:=fun q=>S.hid _ (h.notL q).1 (h.notL q).2 (hN _)
 have nl1:∀{b},kept g N b→L1.lookup b=none:=fun q=>(hLL _ (h.notL q).1 (h.notL q).2 (hN _)).1
 have kM:Keeps M s':=fun i y e=>by
  obtain⟨e1,e2⟩:=h.at_.gk i y e
  exact⟨d.slp i y (fun q=>by rw[q,hM] at e;cases e) e1 e2,e2⟩
 refine⟨⟨inv_dozedB d h.at_.inv.bare C.inv,fun b q=>?_,C.wd,slo_to S.io S.fr h.at_.slo fun p hp q=>?_,⟨h.at_.le.io.trans S.io,h.at_.le.fr.trans S.fr,fun b q=>(st (.inl q)).2.trans (h.at_.le.hid b q)⟩,h.at_.dj,h.at_.sz,h.at_.yg,fun b q=>?_,fun b q=>?_,withM_keeps kM (d.own.trans C.gen) sl,?_,Nat.lt_of_lt_of_le h.at_.gs hz⟩,fun b q=>⟨nl1 (.inr q),(h.NL b q).2⟩,fun b q=>(st (.inr q)).2⟩
 ·rcases q with q | q | q | ⟨ob,q⟩
  ·exact(st (.inl q)).1
  ·exact(st (.inr q)).1
  ·exact q▸C.ga.2.1
  ·exact(C.hL _ (lookL q)).2
 ·have nl:L.lookup p=none:=by
   cases e:L.lookup p with
   | none=>rfl
   | some ob=>
    rcases q with q | q
    ·exact absurd (.inr (.inr (.inr ⟨ob,e⟩))) q
    ·exact absurd (h.hL _ (lookL e)) (q _)
  refine⟨(S.hid p hp nl (hN p)).1,(S.hid p hp nl (hN p)).2,fun q=>?_⟩
  rcases q with q | q | q | ⟨ob,q⟩
  ·exact .inl q
  ·exact .inr (.inl q)
  ·exact .inr (.inr (.inl q))
  ·rw[(hLL p hp nl (hN p)).1] at q;cases q
 ·rcases q with q | q | ⟨ob,q⟩
  ·obtain⟨ob,e⟩:=h.at_.nz b (.inl q)
   exact⟨ob,(st (.inr q)).2.trans e⟩
  ·exact⟨go,q▸C.ga.1⟩
  ·exact⟨ob,(C.hL _ (lookL q)).1⟩
 ·rcases q with q | q | ⟨ob,q⟩
  ·exact h.at_.dis b (.inl q)
  ·exact h.at_.dis b (.inr (.inl q))
  ·intro y
   rw[nl1 (.inl y)] at q
   cases q
 ·unfold withM
  rw[if_neg fun q=>h.ne q.symm]
  exact h.at_.gm
end
theorem ys_forG {k:Nat} {tg iter:Expr} {body:List Stmt} {m:GEM} {gt:GM} {gs:List Nat} {mb:YM} (hA:P.X.A.handled=none) (hr:L2.Room k P.X.A.in1) (hd:P.X.A.depth<recursionLimit) (hi:∀g,IGen (P.gh g) k iter true m) (hg:∀g,MG (P.gh g) tg gt gs) (hb:YSs P true body mb)
  (hs:∀x,foldedSetIterable iter P.X.env x=pure x:=by intro _;rfl):YS P true (.For tg iter body [] pos) (yForG m gt mb):=by
 refine⟨fun A c fs K J gd lv rest oE2 g s ip N M u o z B t gc hN hM a0 fin k0=>?_⟩
 unfold yForG at fin k0⊢
 cases e:m u o with
 | none=>rw[e] at fin;cases fin
 | some r0=>
 obtain⟨xs,oE,o1⟩:=r0
 rw[e] at fin k0
 dsimp only at fin k0⊢
 refine sg_forS hs ?_
 rw[gc.over]
 refine wpAny_mono (wpAny_dozeO (doze_lull s) ((hi g).run ip (lull s) z t o u (kept g N) B xs oE o1 (inv_lull a0.inv) a0.wd a0.slo e)) (fun v s1 q1=>?_) fun _ _ x=>x.elim
 obtain⟨⟨w1,d1,a,gi,go,gs0,t1,sc,rfl,hsz,l1,wd1,Ic,hMd⟩,hz1⟩:=q1
 have hsz:s.gens.size≤sc.gens.size:=by rw[(doze_lull s).size];exact hsz
 have Iw:Inv (cxG P.X g) ip z t1.H w1:=Ic.call' (ch:=[]) hMd.os (Un.kept hMd.keep) (Ic.hok.kept hMd.keep) hMd.bare fun b hb=>by cases hb
 have I1:=inv_dozed (dozed_of d1) a0.inv.bare Iw
 have obj1:s1.heap.get? a=some go:=by rw[d1.heap];exact hMd.obj
 have out:s.gens.size≤gi:=by rw[hMd.ix];exact hsz
 have hMn:M gi=none:=by
  cases q:M gi with
  | none=>rfl
  | some y=>
   have:=(Array.getElem?_eq_some_iff.mp (a0.gk gi y q).1).1
   exact absurd (Nat.lt_of_lt_of_le this out) (Nat.lt_irrefl _)
 have gen1:s1.gens[gi]?=some gs0:=by
  rw[d1.oth gi ?_]
  ·exact hMd.st
  ·unfold slept
   rw[Array.getElem?_eq_none out]
 refine wpAny_pyIter_gen (hMd.gen _ obj1) ?_
 intro p kk hkk
 obtain⟨Pg,L0,hn,hG,⟨q1,q2,q3,q4,q5,q6⟩,stk,fn,hL0,asl⟩:=hMd.wake P.X.A.in1 hr (show P.X.A.in1.frames=some P.X.stack from Ic.ok.frames)
 have hcells:∀x c,P.X.env.cells.lookup x=some c→c<Pg.n0:=fun x c q=>by
  obtain⟨_,ob,e1,_⟩:=Ic.cell x c q
  rw[hn]
  exact Heap.lt_size e1
 have EY:∀g':Gh,Eats (cxG P.X g') Pg:=fun g'=>⟨q1,q2,q3,q4,q5,q6,stk,fn,hcells⟩
 have hp:P.n0≤Pg.n0:=by
  show P.X.s_0.heap.objs.size≤_
  rw[hn,←a0.sz]
  exact Ic.sz
 have hba:Pg.n0≤a:=hn▸hMd.big
 have hget:∀p∈(a,go) :: L0,s1.heap.get? p.1=some p.2:=fun p hp=>by
  rw[d1.heap]
  exact(List.mem_cons.mp hp).elim (fun e=>by rw[e];exact hMd.obj) fun e=>(hL0 p e).1
 have hnone:∀p∈(a,go) :: L0,t1.H p.1=none:=fun p hp=>by
  refine(List.mem_cons.mp hp).elim (fun e=>by rw[e];exact Ic.hok.fresh hMd.big) fun e=>?_
  have:=(hL0 p e).2.1
  rw[gT_H] at this
  exact this
 have hyoung:∀p∈(a,go) :: L0,sc.heap.objs.size≤p.1:=fun p hp=>by
  exact(List.mem_cons.mp hp).elim (fun e=>by rw[e];exact hMd.big) fun e=>by rw[←hn];exact asl.young p e
 have ex1:ExOk (cxG P.X g) ip (((a,go) :: L0).map Prod.fst):=fun b hb=>by
  obtain⟨p,hp,rfl⟩:=List.mem_map.mp hb
  obtain⟨_,f1,_,f3,f4,f5⟩:=Ic.fpOk (hyoung p hp) (hnone p hp)
  exact⟨f3,f1,f4,f5⟩
 have IY:=inv_withL I1 hnone hget ex1
 obtain⟨wdL,lL⟩:=wd_withL (L:=(a,go) :: L0) wd1 hnone
 have aL0:L0.lookup a=none:=by
  cases q:L0.lookup a with
  | none=>rfl
  | some ob=>exact absurd rfl (hL0 _ (lookL q)).2.2
 have notB:∀p∈(a,go) :: L0,¬B p.1:=fun p hp h=>by
  obtain⟨_,u,e,_⟩:=wd1.hid _ h
  rw[hnone p hp] at e
  cases e
 have cons:∀{b:Addr},withN (fun _=>False) a L0 b→∃p∈(a,go) :: L0,p.1=b:=fun q=>by
  rcases q with q | q | ⟨ob,q⟩
  ·exact q.elim
  ·exact⟨_,List.mem_cons_self,q.symm⟩
  ·exact⟨_,List.mem_cons_of_mem _ (lookL q),rfl⟩
 have nB:∀{b:Addr},b=a∨(∃ob,L0.lookup b=some ob)→¬B b:=fun q=>by
  obtain⟨p,hp,rfl⟩:=cons (.inr q)
  exact notB p hp
 have stay:∀b,B b→withL t1.H ((a,go) :: L0) b=t.H b:=fun b h=>(lL.hid b h).trans (l1.hid b h)
 have zat:=withL_at (H:=t1.H) hget
 have a1:GAt P ip (withN N a L0) M g u o1 s1 z (orL B ((a,go) :: L0)) ⟨t1.io,t1.F,withL t1.H ((a,go) :: L0)⟩:=by
  refine⟨IY,fun b q=>?_,wdL,slo_to l1.io l1.fr a0.slo fun p hp _=>⟨.inl hp,stay p hp,fun q=>?_⟩,a0.le.trans ((l1.trans lL).less fun b q=>a0.sub b (.inl q)),a0.dj,a0.sz,a0.yg,fun b q=>?_,fun b q=>?_,a0.gk.doze d1,a0.gm,Nat.lt_of_lt_of_le a0.gs hz1⟩
  ·rcases q with q | q | q
   ·exact .inl (a0.sub b (.inl q))
   ·exact .inl (a0.sub b (.inr q))
   ·obtain⟨p,hp,rfl⟩:=cons (.inr q)
    exact .inr (inL hp)
  ·rcases q with q | q | q
   ·exact .inl q
   ·exact .inr q
   ·exact absurd hp (nB q)
  ·rcases q with q | q
   ·obtain⟨ob,e⟩:=a0.nz b q
    exact⟨ob,(stay b (a0.sub b (.inr q))).trans e⟩
   ·obtain⟨p,hp,rfl⟩:=cons (.inr q)
    exact⟨p.2,zat p hp⟩
  ·rcases q with q | q
   ·exact a0.dis b q
   ·exact fun y=>nB q (a0.sub b (.inl y))
 have h1:Head P Pg ip N M a gi go xs oE g u o1 s1 z (orL B ((a,go) :: L0)) ⟨t1.io,t1.F,withL t1.H ((a,go) :: L0)⟩ L0 (gT true t1) gs0:=
  ⟨a1,⟨_,_,fun _ q=>q,fun _=>rfl,asl⟩,zat _ List.mem_cons_self,aL0,fun p hp=>zat p (List.mem_cons_of_mem _ hp),fun b q=>by
   have hB:=a0.sub b (.inr q)
   refine⟨?_,fun y=>nB (.inl y) hB⟩
   cases y:L0.lookup b with
   | none=>rfl
   | some ob=>exact absurd hB (nB (.inr ⟨ob,y⟩)),gen1,Same.refl _,IoLe.refl _,fun q=>absurd (Nat.lt_of_lt_of_le (q▸a0.gs) out) (Nat.lt_irrefl _),(hi g).prv _ _ _ _ _ e rfl⟩
 have gl:=gc_in (k:=kk) (c':=.forLoop tg (.ref a) body [] P.X.env) (l:=lv []) (kp:=[]) (p:=p) gc rfl rfl
 have loop:∀(r:List (D×Store)) (g':Gh) (s':Shared) (u':Sl3) (o':Store) (z':L2.St) (B':Addr→Prop) (t':S3) (L:List (Addr×Obj)) (tz:S3) (gs:GenState),Head P Pg ip N M a gi go r oE g' u' o' s' z' B' t' L tz gs→
   (yForL gt mb (r.map (·.1)) u' o').2.fine=true→(∀(g2:Gh) (s3:Shared) (t2:S3) (f:Flow),IoLe t'.io t2.io→Same t'.F t2.F→(∀b,N b→t2.H b=t'.H b)→OutS P ip N M g2 t2 s3 (yForL gt mb (r.map (·.1)) u' o').2 f→Sg (model P.X.prog P.X.w) A (ZG P true A rest oE2 g2) c (K f) fs s3)→
   Sg (model P.X.prog P.X.w) A (ZG P true A ((yForL gt mb (r.map (·.1)) u' o').1++rest) oE2 g') (.forLoop tg (.ref a) body [] P.X.env) ((model P.X.prog P.X.w).den (.forLoop tg (.ref a) body [] P.X.env)) (.ret kk none (gd false) (lv []) c p [] :: fs) s':=by
  intro r
  induction r with
  | nil=>
   intro g' s' u' o' z' B' t' L tz gs h fin' k'
   obtain⟨Nc,Mc,hNc,C⟩:=h.con hMd.gen hba hp (lullBut gi s') (inv_but gi h.at_.inv) (by rw[but_at,h.gen,Option.map_some,if_pos rfl])
   refine sg_loopS ?_
   rw[gl.over]
   refine wpAny_mono (wpAny_dozeO (doze_but gi s' fun k l c p fs cl q=>(let ⟨_,_,_,_,y⟩:=h.asl;y.nice k l c p fs cl (by rw[h.gen] at q;exact Option.some.inj q))) (next_con (X:=cxG P.X g') (G:=P.G) (P:=Pg) (Er:=fun _ _=>False) (Q:=fun r v=>r=none∧∃B1 t1,Inv (cxG P.X g') ip z' t1.H v∧Wd P.G B1 o' t1∧Stays B' L Nc t' B1 t1) (EY g') hG hA hd C (fun b h1 _=>.inr (by show g'.s0.heap.objs.size≤b;rw[h.at_.sz];exact Nat.le_trans hp h1)) (fun _ s2 B1 t1 I w S=>⟨rfl,B1,t1,I,w,S⟩) fun d o1 rest hx=>by cases hx)) (fun r s4 q=>?_) fun _ _ x=>x.elim
   obtain⟨⟨v,d4,rfl,B1,t4,I,w,S⟩,hz4⟩:=q
   have a4:=h.done hMn hNc (dozedB_of d4) hz4 I w S
   refine sg_leaf (.ok .next) ?_
   rw[hkk]
   exact k' g' s4 t4 .next S.io S.fr (fun b q=>(S.hid b (h.notL (.inr q)).1 (h.notL (.inr q)).2 (hNc b)).2) ⟨rfl,z',B1,a4⟩
  | cons d0 r ih=>
   obtain⟨d0,oo⟩:=d0
   intro g' s' u' o' z' B' t' L tz gs h fin' k'
   obtain⟨Nc,Mc,hNc,C⟩:=h.con hMd.gen hba hp (lullBut gi s') (inv_but gi h.at_.inv) (by rw[but_at,h.gen,Option.map_some,if_pos rfl])
   refine sg_loopS ?_
   rw[gl.over]
   refine wpAny_mono (wpAny_dozeO (doze_but gi s' fun k l c p fs cl q=>(let ⟨_,_,_,_,y⟩:=h.asl;y.nice k l c p fs cl (by rw[h.gen] at q;exact Option.some.inj q))) (next_con (X:=cxG P.X g') (G:=P.G) (P:=Pg) (Er:=fun _ _=>False) (Q:=fun rr v=>∃vv,rr=some vv∧∃B1 t1 L1 N1 M1 gs1 tz1,ConG (cxG P.X g') P.G Pg true ip z' a gi go r oE o' B1 t1 v L1 N1 M1 tz1 [] gs1∧(∃x,Rep P.G.R t1.F t1.io d0 x∧RelV x vv)∧Stays B' L Nc t' B1 t1∧isSlp gs1=true∧(∀b,B' b→L.lookup b=none→¬Nc b→L1.lookup b=none∧¬N1 b)) (EY g') hG hA hd C (fun b h1 _=>.inr (by show g'.s0.heap.objs.size≤b;rw[h.at_.sz];exact Nat.le_trans hp h1)) (fun hx=>by cases hx) fun d o1 rest hx v s' B1 t1 L1 N1 M1 gs1 tz1 C1 val S sl hLL=>by cases hx;exact⟨v,rfl,B1,t1,L1,N1,M1,gs1,tz1,C1,val,S,sl,hLL⟩)) (fun rr s4 q=>?_) fun _ _ x=>x.elim
   obtain⟨⟨v4,d4,vv,rfl,B1,t4,L1,N1,M1,gs1,tz1,C1,⟨x,rx,rv⟩,S,slp,hLL⟩,hz4⟩:=q
   obtain⟨a4,NL1,n4⟩:=h.item hMn hNc (dozedB_of d4) hz4 C1 S slp hLL
   have goo:s4.heap.get? a=some go:=by rw[(dozedB_of d4).heap];exact(C1.inv.hok a _ C1.ga.1).1
   obtain⟨go',nm,qn,e1,e2,e3,_⟩:=hMd.gen _ goo
   refine L2.go_of e1 e2 e3 (by decide) ?_
   rw[List.map_cons] at fin' k'⊢
   unfold yForL at fin' k'⊢
   dsimp only at fin' k'⊢
   cases eg:gt d0 u' with
   | none=>rw[eg] at fin';cases fin'
   | some u1=>
   rw[eg] at fin' k'
   dsimp only at fin' k'⊢
   refine wpAny_mono (wpAny_dozeO (doze_lull s4) ((hg g').pg.run _ (lull s4) z' t4.H x vv (fun z2 H2=>H2=t4.H∧Slo P.G none (kept g' (withN N a L1)) B1 t4 u1 z2) (inv_lull a4.inv) rv ⟨kept g' (withN N a L1),B1,t4,o',u',d0,u1,rfl,a4.wd,a4.slo,rx,eg,fun z2 sl _=>⟨rfl,sl⟩⟩)) (fun _ s6 q=>?_) fun _ _ x=>x.elim
   obtain⟨⟨w6,d6,z2,H2,I6',e6,sl6⟩,hz6⟩:=q
   subst e6
   have I6:=inv_dozed (dozed_of d6) a4.inv.bare I6'
   intro J'
   have a6:GAt P ip (withN N a L1) (withM M gi gs1) g' u1 o' s6 z2 B1 t4:=⟨I6,a4.sub,a4.wd,sl6,a4.le,a4.dj,a4.sz,a4.yg,a4.nz,a4.dis,a4.gk.doze d6,a4.gm,Nat.lt_of_lt_of_le a4.gs hz6⟩
   have run:=fun rest'=>hb.run A (.forLoop tg (.ref a) body [] P.X.env) (.ret kk none (gd false) (lv []) c p [] :: fs) (turnK tg (.ref a) body P.X.env) J' id id rest' oE2 g' s6 ip (withN N a L1) (withM M gi gs1) u1 o' z2 B1 t4 gl (fun _ _=>rfl) (fun _ _ _=>rfl) a6
   have on:∀{g2:Gh} {s3:Shared} {t2:S3} {u2:Sl3} {o2:Store} {z3:L2.St} {B3:Addr→Prop},IoLe t4.io t2.io→Same t4.F t2.F→(∀b,withN N a L1 b→t2.H b=t4.H b)→GAt P ip (withN N a L1) (withM M gi gs1) g2 u2 o2 s3 z3 B3 t2→(yForL gt mb (r.map (·.1)) u2 o2).2.fine=true→
     (∀(g4:Gh) (s4:Shared) (t4:S3) (f:Flow),IoLe t2.io t4.io→Same t2.F t4.F→(∀b,N b→t4.H b=t2.H b)→OutS P ip N M g4 t4 s4 (yForL gt mb (r.map (·.1)) u2 o2).2 f→Sg (model P.X.prog P.X.w) A (ZG P true A rest oE2 g4) c (K f) fs s4)→
     Sg (model P.X.prog P.X.w) A (ZG P true A ((yForL gt mb (r.map (·.1)) u2 o2).1++rest) oE2 g2) (.forLoop tg (.ref a) body [] P.X.env) (.pure (.again (.forLoop tg (.ref a) body [] P.X.env))) (.ret kk none (gd false) (lv []) c p [] :: fs) s3:=by
    intro g2 s3 t2 u2 o2 z3 B3 i2 fr2 n2 a3 fin3 k3
    have gm2:gi≠g2.gi:=fun q=>by
     have:=a3.gm
     unfold withM at this
     rw[if_pos q.symm] at this
     cases this
    have gen3:s3.gens[gi]?=some gs1:=(a3.gk gi gs1 (by unfold withM;rw[if_pos rfl])).1
    have Na:Asleep Pg false P.X.A.in1 L1 N1 M1 gi [] tz1 r oE gs1:=C1.asl
    have h3:Head P Pg ip N M a gi go r oE g2 u2 o2 s3 z3 B3 t2 L1 tz1 gs1:=by
     refine⟨?_,⟨N1,M1,fun b q=>?_,fun i=>?_,Na⟩,(n2 a (.inr (.inl rfl))).trans C1.ga.1,C1.ga.2.2,fun p hp=>(n2 p.1 (.inr (.inr (inL hp)))).trans (C1.hL p hp).1,NL1,gen3,fun b y q=>fr2 b y (C1.fr b y q),C1.io,gm2,fun x hx=>h.prv x (List.mem_cons_of_mem _ hx)⟩
     ·refine⟨a3.inv,a3.sub,a3.wd,a3.slo,a3.le,a3.dj,a3.sz,a3.yg,a3.nz,a3.dis,fun i y e=>a3.gk i y ?_,?_,a3.gs⟩
      ·unfold withM
       rw[if_neg fun q=>by rw[q,hMn] at e;cases e]
       exact e
      ·have:=a3.gm
       unfold withM at this
       rw[if_neg fun q=>gm2 q.symm] at this
       exact this
     ·cases (C1.hid b q).1
     ·cases q:M1 i with
      | none=>rfl
      | some y=>cases Na.nest i y q
    exact sg_again rfl (ih g2 s3 u2 o2 z3 B3 t2 L1 tz1 gs1 h3 fin3 k3)
   have n24:∀{t2:S3},(∀b,withN N a L1 b→t2.H b=t4.H b)→∀b,N b→t2.H b=t'.H b:=fun n b q=>(n b (.inl q)).trans (n4 b q)
   cases em:mb u1 o' with
   | mk ys rr=>
   rw[em] at fin' k' run
   cases rr with
   | nx u2 o2=>
    dsimp only at fin' k' run⊢
    rw[List.append_assoc]
    refine run _ rfl fun g2 s3 t2 f i2 fr2 n2 q=>?_
    obtain⟨rfl,z3,B3,a3⟩:=q
    exact on i2 fr2 n2 a3 fin' fun g4 s4 t5 f i4 fr4 n5 q=>k' g4 s4 t5 f (S.io.trans (i2.trans i4)) (fun b x y=>fr4 b x (fr2 b x (S.fr b x y))) (fun b h=>(n5 b h).trans (n24 n2 b h)) q
   | ct u2 o2=>
    dsimp only at fin' k' run⊢
    rw[List.append_assoc]
    refine run _ rfl fun g2 s3 t2 f i2 fr2 n2 q=>?_
    obtain⟨rfl,z3,B3,a3⟩:=q
    exact on i2 fr2 n2 a3 fin' fun g4 s4 t5 f i4 fr4 n5 q=>k' g4 s4 t5 f (S.io.trans (i2.trans i4)) (fun b x y=>fr4 b x (fr2 b x (S.fr b x y))) (fun b h=>(n5 b h).trans (n24 n2 b h)) q
   | bk u2 o2=>
    dsimp only at fin' k' run⊢
    refine run _ rfl fun g2 s3 t2 f i2 fr2 n2 q=>?_
    obtain⟨rfl,z3,B3,a3⟩:=q
    refine sg_leaf (.ok .next) ?_
    rw[hkk]
    exact k' g2 s3 t2 .next (S.io.trans i2) (fun b x y=>fr2 b x (S.fr b x y)) (n24 n2) ⟨rfl,z3,B3,a3.narrow hMn⟩
   | rt w o2=>
    dsimp only at fin' k' run⊢
    refine run _ fin' fun g2 s3 t2 f i2 fr2 n2 q=>?_
    obtain⟨ew,rfl,q⟩:=q
    refine sg_leaf (.ok (.ret .none)) ?_
    rw[hkk]
    exact k' g2 s3 t2 _ (S.io.trans i2) (fun b x y=>fr2 b x (S.fr b x y)) (n24 n2) ⟨ew,rfl,q⟩
   | err _ _ _ _=>cases fin'
   | bad=>cases fin'
 exact loop xs g s1 u o1 z _ _ L0 _ gs0 h1 fin fun g2 s3 t2 f i2 fr2 n2 q=>k0 g2 s3 t2 f (l1.io.trans i2) (fun b x y=>fr2 b x (l1.fr b x y)) (fun b h=>(n2 b h).trans (stay b (a0.sub b (.inr h)))) q
end
theorem gr_in0 {j k:Nat} {A:Around} (h:L2.Room j A) (l:k+1≤j):L2.Room k A.in1:=by
 refine⟨h.hd,?_,?_⟩
 ·have:=h.dp
  show A.depth+3 * k+5<recursionLimit
  omega
 ·have:=h.un
  show A.units+1+16 * k+200<cLine
  omega
end M3
namespace My
open PySem L2 M3
theorem range_get {n i:Nat} {d:D} (h:(rangeD 0 n)[i]?=some d):d=.int i∧i<n:=by
 unfold rangeD at h
 rw[List.getElem?_map] at h
 by_cases hi:i<n
 ·rw[List.getElem?_range hi] at h
  simp at h
  exact⟨h.symm,hi⟩
 ·rw[List.getElem?_eq_none (by simpa using hi)] at h;cases h
theorem rangeD_length (lo:Int) (n:Nat):(rangeD lo n).length=n:=by simp[rangeD]
def S (l:List Nat):Str:=⟨l.toArray⟩
@[simp] theorem S_length (l:List Nat):(S l).length=l.length:=by show l.toArray.size=_;simp
@[simp] theorem S_list (l:List Nat):(S l).cps.toList=l:=by simp[S]
theorem S_app (a b:List Nat):S a++S b=S (a++b):=by
 show (⟨a.toArray++b.toArray⟩:Str)=⟨(a++b).toArray⟩
 simp
theorem S_inj {a b:List Nat} (h:S a=S b):a=b:=by have:=congrArg (fun z:Str=>z.cps.toList) h;simpa using this
theorem S_cut (l:List Nat) (lo hi:Option Int):cutS (S l) lo hi=S (cutD l lo hi):=by
 unfold cutS cutD
 rw[S_list,S_length]
 rfl
theorem cut_to {α:Type} (xs:List α) {i:Int} (h:0≤i):cutD xs none (some i)=xs.take i.toNat:=by
 obtain⟨n,rfl⟩:=Int.eq_ofNat_of_zero_le h
 unfold cutD
 rw[HT.sIx_none,HT.sIx_nat]
 simp[List.take_eq_take_iff]
theorem cut_from {α:Type} (xs:List α) {i:Int} (h:0≤i):cutD xs (some i) none=xs.drop i.toNat:=by
 obtain⟨n,rfl⟩:=Int.eq_ofNat_of_zero_le h
 unfold cutD
 rw[HT.sIx_none,HT.sIx_nat]
 simp only[Int.toNat_natCast]
 by_cases q:n≤xs.length
 ·rw[Nat.min_eq_left q];exact List.take_of_length_le (by simp)
 ·rw[Nat.min_eq_right (by omega),List.drop_eq_nil_of_le (Nat.le_refl _),List.drop_eq_nil_of_le (by omega)];simp
theorem cut_mid {α:Type} (xs:List α) {i j:Int} (h:0≤i) (h':0≤j):cutD xs (some i) (some j)=(xs.drop i.toNat).take (j.toNat - i.toNat):=by
 obtain⟨n,rfl⟩:=Int.eq_ofNat_of_zero_le h
 obtain⟨m,rfl⟩:=Int.eq_ofNat_of_zero_le h'
 unfold cutD
 rw[HT.sIx_nat,HT.sIx_nat]
 simp only[Int.toNat_natCast]
 by_cases q:n≤xs.length
 ·rw[Nat.min_eq_left q]
  rw[List.take_eq_take_iff]
  simp only[List.length_drop]
  omega
 ·rw[Nat.min_eq_right (a:=n) (by omega),List.drop_eq_nil_of_le (Nat.le_refl _),List.drop_eq_nil_of_le (by omega)];simp
theorem mul_one_sign (c n:Nat):Txt.mul (S [c]) (n:Int)=S (List.replicate n c):=by
 unfold Txt.mul
 by_cases h0:(n:Int)<1
 ·rw[if_pos h0]
  have:n=0:=by omega
  subst this;rfl
 ·rw[if_neg h0]
  by_cases h1:n=1
  ·subst h1;rfl
  ·rw[if_neg (by simp only[S_length,Bool.or_eq_true,beq_iff_eq,List.length_cons,List.length_nil];omega)]
   unfold S
   congr 1
   have all:∀(n:Nat) (acc:List Nat),List.foldl (fun x1 x2=>x1++x2) acc.toArray (List.replicate n [c].toArray)=(acc++List.replicate n c).toArray:=by
    intro n
    induction n with
    | zero=>intro acc;simp
    | succ n ih=>
     intro acc
     rw[List.replicate_succ,List.foldl_cons]
     have:acc.toArray++[c].toArray=(acc++[c]).toArray:=by simp
     rw[this,ih,List.replicate_succ]
     simp
   have:=all n []
   simpa using this
def IsNm (w:Str):Prop:=1≤w.length∧w.length≤8∧∀c∈w.cps.toList,97≤c∧c≤122
def letters:List Nat:=(List.range 26).map (97 + ·)
theorem letters_eq:("abcdefghijklmnopqrstuvwxyz" : Str)=S letters:=by decide +kernel
theorem letters_get {n:Nat} (h:n<26):letters[n]?=some (97+n):=by unfold letters;simp[h]
def wordL (d k:Nat):List Nat:=
 ((List.replicate (d % 8) (97+d / 64 % 26)).take (d / 8 % 8)++[97+(d+5 * k) % 26]++((List.replicate (d % 8) (97+d / 64 % 26)).drop (d / 8 % 8)++(List.replicate (d % 8) (97+d / 64 % 26)).take (k * (d / 3 % 3)))).take 8
def word (d k:Nat):Str:=S (wordL d k)
theorem wordL_nm (d k:Nat):1≤(wordL d k).length∧(wordL d k).length≤8∧∀c∈wordL d k,97≤c∧c≤122:=by
 unfold wordL
 refine⟨by simp;omega,by simp;omega,fun c hc=>?_⟩
 have h:=List.mem_of_mem_take hc
 have rep:∀c∈List.replicate (d % 8) (97+d / 64 % 26),97≤c∧c≤122:=fun c hc=>by rw[List.eq_of_mem_replicate hc];omega
 rcases List.mem_append.mp h with h | h
 ·rcases List.mem_append.mp h with h | h
  ·exact rep c (List.mem_of_mem_take h)
  ·rw[List.mem_singleton.mp h];omega
 ·rcases List.mem_append.mp h with h | h
  ·exact rep c (List.mem_of_mem_drop h)
  ·exact rep c (List.mem_of_mem_take h)
theorem word_nm (d k:Nat):IsNm (word d k):=by
 have:=wordL_nm d k
 exact⟨by rw[word,S_length];exact this.1,by rw[word,S_length];exact this.2.1,by rw[word,S_list];exact this.2.2⟩
theorem wordL_at (d k:Nat):(wordL d k)[min (d / 8 % 8) (d % 8)]?=some (97+(d+5 * k) % 26):=by
 unfold wordL
 rw[List.getElem?_take_of_lt (by omega),List.append_assoc,List.getElem?_append_right (by simp),List.getElem?_append_left (by simp)]
 simp
theorem word_inj {d j k:Nat} (hj:j<26) (hk:k<26) (h:word d j=word d k):j=k:=by
 have e:=S_inj h
 have a:=wordL_at d j
 rw[e,wordL_at] at a
 simp at a
 omega
def words (d n:Nat):List Str:=(List.range n).map (word d)
theorem words_nodup (d:Nat) {n:Nat} (h:n≤26):(words d n).Nodup:=by
 unfold words
 rw[List.nodup_iff_pairwise_ne,List.pairwise_map]
 refine List.Pairwise.imp_of_mem ?_ (List.nodup_iff_pairwise_ne.mp List.nodup_range)
 intro a b ha hb hab e
 exact hab (word_inj (by have:=List.mem_range.mp ha;omega) (by have:=List.mem_range.mp hb;omega) e)
theorem words_length (d n:Nat):(words d n).length=n:=by simp[words]
theorem words_nm {d n:Nat} {w:Str} (h:w∈words d n):IsNm w:=by
 unfold words at h
 obtain⟨k,_,rfl⟩:=List.mem_map.mp h
 exact word_nm d k
theorem lcL_range {gm:GM} {m:EM} {u0:Sl3} {st:Store} {n:Nat} (f:Nat→D) (h:∀i,i<n→∃u1,gm (.int i) u0=some u1∧m u1 st=.ok (.val (f i)) st) (hn:n≤1000000) :
  lcL gm tYes3 m u0 (rangeD 0 n) [] st=.ok ((List.range n).map f) st:=by
 have:=lcL_eq (st:=st) (t:=tYes3) (m:=m) (gm:=gm) (u0:=u0) (fun _=>true) (fun d=>match d with | .int i=>f i.toNat | _=>.non) (rangeD 0 n) [] (fun d hd=>?_) (by simp[rangeD_length];exact hn)
 ·rw[this]
  have e:(rangeD 0 n).filter (fun _=>true)=rangeD 0 n:=List.filter_eq_self.mpr fun _ _=>rfl
  rw[e,rangeD,List.map_map,List.nil_append]
  congr 1
  apply List.map_congr_left
  intro a _
  simp
 ·unfold rangeD at hd
  obtain⟨i,hi,rfl⟩:=List.mem_map.mp hd
  obtain⟨u1,e1,e2⟩:=h i (List.mem_range.mp hi)
  exact⟨u1,by simpa using e1,rfl,fun _=>by simpa using e2⟩
theorem lcR_run {gm:GM} {m:EM} {u0:Sl3} {st:Store} {n:Nat} {k:Res (List D)→Prop} (f:Nat→D) (hn:n≤1000000) (h:∀i,i<n→∃u1,gm (.int i) u0=some u1∧M3.run (m u1 st) (fun r=>r=.ok (.val (f i)) st)) (hk:k (.ok ((List.range n).map f) st)) :
  M3.run (lcL gm tYes3 m u0 (rangeD 0 n) [] st) k:=by
 rw[lcL_range f h hn];exact hk
theorem log2_le {n k:Nat} (h:n<2 ^ k):n.log2≤k:=by
 by_cases z:n=0
 ·subst z;simp
 ·exact Nat.le_of_lt ((Nat.log2_lt z).mpr h)
theorem two20:(2:Nat) ^ 31≤2 ^ 1048576:=Nat.pow_le_pow_right (by decide) (by decide)
theorem mulC_of {i j:Int} {a b:Nat} (ha:i.natAbs.log2≤a) (hb:j.natAbs.log2≤b) (h:a+b<100000000):mulC i j=true:=decide_eq_true (by omega)
theorem pys_strs:∀ws:List Str,D.pys (ws.map .str)=some (ws.map .str)
 | []=>rfl
 | w :: ws=>by
  rw[List.map_cons,D.pys,pys_strs ws]
  rfl
theorem okN {w:Str} (h:IsNm w):PyData.strOk w=true:=by
 unfold PyData.strOk
 rw[Array.all_eq_true_iff_forall_mem]
 intro c hc
 have:=h.2.2 c (by simpa using hc)
 exact decide_eq_true (by omega)
theorem canLay_strs:∀{ws:List Str},(∀w∈ws,PyData.strOk w=true)→PyData.canLayAll0 (ws.map .str)=true
 | [],_=>rfl
 | w :: ws,h=>by
  rw[List.map_cons,PyData.canLayAll0,PyData.canLay0,h w List.mem_cons_self,canLay_strs fun x hx=>h x (List.mem_cons_of_mem _ hx)]
  rfl
theorem depth_strs:∀ws:List Str,PyData.depthAll (ws.map .str)=0
 | []=>rfl
 | w :: ws=>by rw[List.map_cons,PyData.depthAll,PyData.depth,depth_strs ws];rfl
theorem eqv_strs:∀xs ys:List Str,PyData.eqvAll (xs.map .str) (ys.map .str)=decide (xs=ys)
 | [],[]=>by simp[PyData.eqvAll]
 | [],y :: ys=>by simp[PyData.eqvAll]
 | x :: xs,[]=>by simp[PyData.eqvAll]
 | x :: xs,y :: ys=>by
  rw[List.map_cons,List.map_cons,PyData.eqvAll,PyData.eqv,eqv_strs xs ys]
  by_cases h:x=y <;> by_cases h2:xs=ys <;> simp[h,h2]
theorem eqF_str (neg:Bool) {x y:Str} (hx:PyData.strOk x=true) (hy:PyData.strOk y=true):eqF neg (.val (.str x)) (.val (.str y))=some (.val (.bl (if neg then !decide (x=y) else decide (x=y)))):=by
 have s:∀{z:Str},PyData.strOk z=true→SeqAt.shaped (.str z)=true:=fun {z} h=>by
  unfold SeqAt.shaped
  rw[PyData.canLay0,h,PyData.depth];rfl
 unfold eqF
 simp only[W_rd_val,D.eqv?,D.py,s hx,s hy,and_self,if_true,Option.map_some,PyData.eqv]
 congr 4
 all_goals (by_cases h:x=y <;> simp[h])
theorem eqF_lst (neg:Bool) {xs ys:List Str} (hx:∀w∈xs,PyData.strOk w=true) (hy:∀w∈ys,PyData.strOk w=true):eqF neg (.val (.lst (xs.map .str))) (.val (.lst (ys.map .str)))=some (.val (.bl (if neg then !decide (xs=ys) else decide (xs=ys)))):=by
 have s:∀{zs:List Str},(∀w∈zs,PyData.strOk w=true)→SeqAt.shaped (.list (zs.map .str))=true:=fun {zs} h=>by
  unfold SeqAt.shaped
  rw[PyData.canLay0,canLay_strs h,PyData.depth,depth_strs];rfl
 unfold eqF
 simp only[W_rd_val,D.eqv?,D.py,pys_strs,Option.map_some,s hx,s hy,and_self,if_true,PyData.eqv,eqv_strs]
def tupS (ws:List Str):D:=.tup (ws.map .str)
theorem lc_strs {gm:GM} {t:TM} {m:EM} {u0:Sl3} {st:Store} {ws:List Str} {k:Res (List D)→Prop} (p:Str→Bool) (f:Str→D) (hn:ws.length≤1000000)
  (h:∀w∈ws,∃u1,gm (.str w) u0=some u1∧M3.run (t u1 st) (fun r=>r=.ok (p w) st)∧(p w=true→M3.run (m u1 st) (fun r=>r=.ok (.val (f w)) st))) (hk:k (.ok ((ws.filter p).map f) st)) :
  M3.run (lcL gm t m u0 (ws.map .str) [] st) k:=by
 have e:=lcL_eq (gm:=gm) (t:=t) (m:=m) (u0:=u0) (st:=st) (fun d=>match d with | .str x=>p x | _=>false) (fun d=>match d with | .str x=>f x | _=>.non) (ws.map .str) [] (fun d hd=>by
  obtain⟨w,hw,rfl⟩:=List.mem_map.mp hd
  exact h w hw) (by simpa using hn)
 rw[e]
 have e2:((ws.map D.str).filter fun d=>match d with | .str x=>p x | _=>false)=(ws.filter p).map D.str:=by
  clear e hk h hn
  induction ws with
  | nil=>rfl
  | cons w ws ih=>
   simp only[List.map_cons,List.filter_cons,ih]
   cases p w <;> simp
 rw[e2,List.map_map]
 exact hk
theorem get_map {α β:Type} {f:α→β} {l:List α} {i:Nat} {b:β} (h:(l.map f)[i]?=some b):∃a,l[i]?=some a∧b=f a:=by
 rw[List.getElem?_map] at h
 cases e:l[i]? with
 | none=>rw[e] at h;cases h
 | some a=>rw[e] at h;exact⟨a,rfl,by cases h;rfl⟩
theorem kit_tuple:kitB "tuple" "tuple" = some true:=by decide +kernel
@[simp] theorem isiF_tup (xs:List D):isiF [.val (.tup xs),.val (.ty "tuple")]=some (.val (.bl true)):=by
 unfold isiF
 simp[D.tyn,kit_tuple]
theorem lcL_mapE {α:Type} {gm:GM} {t:TM} {m:EM} {u0:Sl3} {st:Store} (f:α→D) (p:α→Bool) (g:α→D):∀(xs:List α) (acc:List D),
  (∀x∈xs,∃u1,gm (f x) u0=some u1∧t u1 st=.ok (p x) st∧(p x=true→m u1 st=.ok (.val (g x)) st))→acc.length+xs.length≤1000000→
  lcL gm t m u0 (xs.map f) acc st=.ok (acc++(xs.filter p).map g) st
 | [],acc,_,_=>by simp[lcL,M.pure]
 | x :: xs,acc,h,hz=>by
  obtain⟨u1,e1,e2,e3⟩:=h x List.mem_cons_self
  have ih:=fun acc=>lcL_mapE f p g xs acc fun d hd=>h d (List.mem_cons_of_mem _ hd)
  simp only[List.length_cons] at hz
  apply of_run
  rw[List.map_cons,lcL_cons,e1]
  simp only[run_of_some,kBind_ok,run_bind,run_quiet,e2,run_ok,kQuiet_ok,run_ite]
  cases hp:p x with
  | false=>
   rw[if_neg Bool.false_ne_true,ih acc (by omega)]
   simp[hp]
  | true=>
   rw[if_pos rfl,e3 hp]
   simp only[run_ok,kQuiet_ok,kBind_ok,run_bind,W.d,run_of_some,run_chk]
   rw[if_pos (by omega),ih _ (by simp;omega)]
   simp[hp]
theorem lcM_run {α:Type} {gm:GM} {t:TM} {m:EM} {u0:Sl3} {st:Store} {xs:List α} {k:Res (List D)→Prop} (f:α→D) (p:α→Bool) (g:α→D) (hn:xs.length≤1000000)
  (h:∀x∈xs,∃u1,gm (f x) u0=some u1∧M3.run (t u1 st) (fun r=>r=.ok (p x) st)∧(p x=true→M3.run (m u1 st) (fun r=>r=.ok (.val (g x)) st))) (hk:k (.ok ((xs.filter p).map g) st)) :
  M3.run (lcL gm t m u0 (xs.map f) [] st) k:=by
 rw[lcL_mapE f p g xs [] h (by simpa using hn)];exact hk
theorem lcA_run {α:Type} {gm:GM} {m:EM} {u0:Sl3} {st:Store} {xs:List α} {k:Res (List D)→Prop} (f:α→D) (g:α→D) (hn:xs.length≤1000000)
  (h:∀x∈xs,∃u1,gm (f x) u0=some u1∧M3.run (m u1 st) (fun r=>r=.ok (.val (g x)) st)) (hk:k (.ok (xs.map g) st)) :
  M3.run (lcL gm tYes3 m u0 (xs.map f) [] st) k:=
 lcM_run f (fun _=>true) g hn (fun x hx=>let ⟨u1,e,r⟩:=h x hx;⟨u1,e,rfl,fun _=>r⟩) (by rw[List.filter_eq_self.mpr (fun _ _=>rfl)];exact hk)
theorem kit_bool:kitB "bool" "bool" = some true:=by decide +kernel
@[simp] theorem isiF_bool (x:Bool):isiF [.val (.bl x),.val (.ty "bool")]=some (.val (.bl true)):=by
 unfold isiF
 simp[D.tyn,kit_bool]
@[simp] theorem eqF_bl (neg a b:Bool):eqF neg (.val (.bl a)) (.val (.bl b))=some (.val (.bl (if neg then !decide (a=b) else decide (a=b)))):=by
 cases neg <;> cases a <;> cases b <;> rfl
end My
namespace My
open PySem L2 M3
def mb_w_digits:SM:=(sSeq (sOwn 3 (fLst aNil))
 (sSeq (sSet 4 (eBin subF (eVar 0) (eBin powF (eC (.int 10)) (eC (.int 18)))))
 (sSeq (sFor (iRange1 (aCons (eVar 2) aNil)) (gName3 5) (sIf (tOf (eBin geF (eVar 0) (eBin powF (eC (.int 10)) (eC (.int 18))))) (sSeq (sApp 3 (eBin modF (eB intCF (aCons (eVar 4) aNil)) (eC (.int 5040))))
 (sSet 4 (eBin divF (eVar 4) (eC (.int 5040))))) (sSeq (sSet 6 (eBin modF (eB intCF (aCons (eBin addF (eBin addF (eBin mulF (eVar 0) (eC (.int 48271))) (eBin mulF (eBin addF (eVar 1) (eVar 5)) (eC (.int 69621)))) (eC (.int 7))) aNil)) (eC (.int 2147483647))))
 (sApp 3 (eBin modF (eBin modF (eB intCF (aCons (eBin addF (eBin addF (eBin mulF (eVar 6) (eVar 6)) (eBin mulF (eC (.int 40692)) (eVar 1))) (eVar 5)) aNil)) (eC (.int 1000003))) (eC (.int 5040)))))))
 (sRetO 3))))
def mf_w_digits:List D→M D:=mfn 7 mb_w_digits
def mb_w_cell_at:SM:=(sSeq (sIf (tOf (eBin ltF (eVar 1) (eB lenF (aCons (eVar 0) aNil)))) (sRetV (eBin ixF (eVar 0) (eVar 1))) sNext)
 (sSeq (sIf (tOf (eBin gtF (eB lenF (aCons (eVar 0) aNil)) (eC (.int 0)))) (sRetV (eBin addF (eBin modF (eB intCF (aCons (eBin ixF (eVar 0) (eBin modF (eVar 1) (eB lenF (aCons (eVar 0) aNil)))) aNil)) (eC (.int 1000003))) (eBin mulF (eC (.int 1009)) (eVar 1)))) sNext)
 (sRetV (eVar 1))))
def mf_w_cell_at:List D→M D:=mfn 2 mb_w_cell_at
def mb_w_spelled:SM:=(sSeq (sSet 2 (eC (.str "abcdefghijklmnopqrstuvwxyz")))
 (sSeq (sSet 3 (eBin mulF (eBin ixF (eVar 2) (eBin modF (eBin divF (eB intCF (aCons (eVar 0) aNil)) (eC (.int 64))) (eC (.int 26)))) (eBin modF (eB intCF (aCons (eVar 0) aNil)) (eC (.int 8)))))
 (sSeq (sSet 4 (eBin modF (eBin divF (eB intCF (aCons (eVar 0) aNil)) (eC (.int 8))) (eC (.int 8))))
 (sSeq (sSet 5 (eBin modF (eBin divF (eB intCF (aCons (eVar 0) aNil)) (eC (.int 3))) (eC (.int 3))))
 (sSeq (sSet 6 (eF (fLc (iRange1 (aCons (eVar 1) aNil)) (gName3 8) tYes3 (eBin ixF (eVar 2) (eBin modF (eB intCF (aCons (eBin addF (eVar 0) (eBin mulF (eC (.int 5)) (eVar 8))) aNil)) (eC (.int 26)))) [8])))
 (sSeq (sSet 7 (eF (fLc (iRange1 (aCons (eVar 1) aNil)) (gName3 8) tYes3 (eBin addF (eSlA (eVar 3) (pSome (eVar 4)) pNone) (eSlA (eVar 3) pNone (pSome (eBin mulF (eVar 8) (eVar 5))))) [8])))
 (sRetV (eF (fLc (iRange1 (aCons (eVar 1) aNil)) (gName3 8) tYes3 (eSlA (eBin addF (eBin addF (eSlA (eVar 3) pNone (pSome (eVar 4))) (eBin ixF (eVar 6) (eVar 8))) (eBin ixF (eVar 7) (eVar 8))) pNone (pSome (eC (.int 8)))) [8])))))))))
def mf_w_spelled:List D→M D:=mfn 9 mb_w_spelled
def mb_w_ordered:SM:=(sSeq (sOwnD 2)
 (sSeq (sFor (iSeq (eBin addF (eF (fB lstCF (aCons (eVar 0) aNil))) (eF (fLst (aCons (eTup (aCons (eC (.str "")) (aCons (eVar 1) aNil))) aNil))))) (gName3 3) (sSeq (sSet 4 (eBin addF (eF (fLc (iSeq (eBin ixF (eVar 3) (eC (.int 1)))) (gName3 9) tYes3 (eBin dgF (eVar 2) (eVar 9)) [9])) (eF (fLst (aCons (eF (fB lstCF (aCons (eBin ixF (eVar 3) (eC (.int 1))) aNil))) aNil)))))
 (sSeq (sSet 5 (eF (fLst (aCons (eBin ixF (eVar 3) (eC (.int 0))) aNil))))
 (sSeq (sFor (iRange1 (aCons (eC (.int 3)) aNil)) (gName3 6) (sSeq (sSet 7 (eF (fLc (iSeq (eVar 4)) (gName3 10) (tOf (eBin gtF (eB lenF (aCons (eVar 10) aNil)) (eC (.int 0)))) (eBin ixF (eVar 10) (eC (.int 0))) [10])))
 (sSeq (sSet 8 (eF (fLc (iSeq (eVar 7)) (gName3 9) (tNot3 (tTru (eB anyF (aCons (eF (fLc (iSeq (eVar 4)) (gName3 10) tYes3 (eBin (inF false) (eVar 9) (eSlA (eVar 10) (pSome (eC (.int 1))) pNone)) [10])) aNil)))) (eVar 9) [9])))
 (sSeq (sSet 5 (eBin addF (eVar 5) (eSlA (eVar 8) pNone (pSome (eC (.int 1))))))
 (sSet 4 (eF (fLc (iSeq (eVar 4)) (gName3 10) tYes3 (eF (fLc (iSeq (eVar 10)) (gName3 9) (tOf (eBin (inF true) (eVar 9) (eVar 5))) (eVar 9) [9])) [10])))))))
 (sSeq (sIf (tTru (eB anyF (aCons (eF (fLc (iSeq (eVar 4)) (gName3 10) tYes3 (eBin gtF (eB lenF (aCons (eVar 10) aNil)) (eC (.int 0))) [10])) aNil))) (sRetV (eC .non)) sNext)
 (sSetK 2 (eBin ixF (eVar 3) (eC (.int 0))) (eVar 5)))))))
 (sRetV (eSlA (eBin dgF (eVar 2) (eC (.str ""))) (pSome (eC (.int 1))) pNone))))
def mf_w_ordered:List W→M D:=mfnW 11 mb_w_ordered
def mb_w_class_list:SM:=(sSeq (sOwn 2 (fLst aNil))
 (sSeq (sFor (iRange1 (aCons (eB lenF (aCons (eVar 1) aNil)) aNil)) (gName3 3) (sSeq (sSet 4 (eBin addF (eF (fLst (aCons (eTup aNil) aNil))) (eF (fLc (iSeq (eSlA (eVar 1) pNone (pSome (eVar 3)))) (gName3 6) tYes3 (eTup (aCons (eVar 6) aNil)) [6]))))
 (sSeq (sIf (tOf (eBin (eqF false) (eVar 3) (eC (.int 2)))) (sSet 4 (eBin addF (eVar 4) (eF (fLst (aCons (eTup (aCons (eBin ixF (eVar 1) (eC (.int 0))) (aCons (eBin ixF (eVar 1) (eC (.int 1))) aNil))) (aCons (eTup (aCons (eBin ixF (eVar 1) (eC (.int 1))) (aCons (eBin ixF (eVar 1) (eC (.int 0))) aNil))) aNil)))))) sNext)
 (sSeq (sSet 5 (eBin ixF (eVar 4) (eBin modF (eB intCF (aCons (eBin ixF (eVar 0) (eVar 3)) aNil)) (eB lenF (aCons (eVar 4) aNil)))))
 (sSeq (sIf (tOf (eBin (isNF false) (eLend 2 (eCallW 2 mf_w_ordered (aCons (eVar 2) (aCons (eVar 5) aNil)))) (eC .non))) (sSet 5 (eTup aNil)) sNext)
 (sApp 2 (eTup (aCons (eBin ixF (eVar 1) (eVar 3)) (aCons (eVar 5) aNil)))))))))
 (sRetO 2)))
def mf_w_class_list:List D→M D:=mfn 7 mb_w_class_list
def mb_is_word:SM:=(sSeq (sIf (tNot3 (tTru (eB isi2F (aCons (eVar 0) (aCons (eC (.ty "str")) aNil))))) (sRetV (eC (.bl false))) sNext)
 (sRetV (eAnd (eChain leF leF (eC (.int 1)) (eB lenF (aCons (eVar 0) aNil)) (eC (.int 8))) (eB allF (aCons (eF (fLc (iSeq (eVar 0)) (gName3 1) tYes3 (eBin (inF false) (eVar 1) (eC (.str "abcdefghijklmnopqrstuvwxyz"))) [1])) aNil)))))
def mf_is_word:List D→M D:=mfn 2 mb_is_word
def mb_good_names:SM:=(sSeq (sIf (tOr3 (tNot3 (tTru (eB isi2F (aCons (eVar 0) (aCons (eC (.ty "list")) aNil))))) (tNot3 (tOf (eChain leF leF (eVar 1) (eB lenF (aCons (eVar 0) aNil)) (eVar 2))))) (sRetV (eC (.bl false))) sNext)
 (sSeq (sIf (tNot3 (tTru (eB allF (aCons (eF (fLc (iSeq (eVar 0)) (gName3 3) tYes3 (eCall 1 mf_is_word (aCons (eVar 3) aNil)) [3])) aNil)))) (sRetV (eC (.bl false))) sNext)
 (sRetV (eBin (eqF false) (eLenSet (eVar 0)) (eB lenF (aCons (eVar 0) aNil))))))
def mf_good_names:List D→M D:=mfn 4 mb_good_names
def mb_are_chosen:SM:=(sSeq (sIf (tNot3 (tTru (eB isi2F (aCons (eVar 0) (aCons (eC (.ty "tuple")) aNil))))) (sRetV (eC (.bl false))) sNext)
 (sRetV (eB allF (aCons (eF (fLc (iSeq (eVar 0)) (gName3 2) tYes3 (eAnd (eBin (inF false) (eVar 2) (eVar 1)) (eBin (eqF false) (eCnt (eVar 0) (eVar 2)) (eC (.int 1)))) [2])) aNil))))
def mf_are_chosen:List D→M D:=mfn 3 mb_are_chosen
def mb_good_classes:SM:=(sSeq (sIf (tNot3 (tTru (eB isi2F (aCons (eVar 0) (aCons (eC (.ty "list")) aNil))))) (sRetV (eC (.bl false))) sNext)
 (sSeq (sIf (tNot3 (tTru (eB allF (aCons (eF (fLc (iSeq (eVar 0)) (gName3 2) tYes3 (eAnd (eB isi2F (aCons (eVar 2) (aCons (eC (.ty "tuple")) aNil))) (eBin (eqF false) (eB lenF (aCons (eVar 2) aNil)) (eC (.int 2)))) [2])) aNil)))) (sRetV (eC (.bl false))) sNext)
 (sSeq (sSet 1 (eF (fLc (iSeq (eVar 0)) (gName3 2) tYes3 (eBin ixF (eVar 2) (eC (.int 0))) [2])))
 (sSeq (sIf (tNot3 (tTru (eCall 3 mf_good_names (aCons (eVar 1) (aCons (eC (.int 1)) (aCons (eC (.int 3)) aNil)))))) (sRetV (eC (.bl false))) sNext)
 (sRetV (eB allF (aCons (eF (fLc (iRange1 (aCons (eB lenF (aCons (eVar 1) aNil)) aNil)) (gName3 3) tYes3 (eCall 2 mf_are_chosen (aCons (eBin ixF (eBin ixF (eVar 0) (eVar 3)) (eC (.int 1))) (aCons (eSlA (eVar 1) pNone (pSome (eVar 3))) aNil))) [3])) aNil)))))))
def mf_good_classes:List D→M D:=mfn 4 mb_good_classes
def mb_free_name:SM:=(sSeq (sFor (iSeq (eVar 0)) (gName3 1) (sIf (tNot3 (tTru (eB anyF (aCons (eF (fLc (iSeq (eVar 0)) (gName3 2) tYes3 (eBin (inF false) (eBin ixF (eVar 1) (eC (.int 0))) (eSlA (eVar 2) (pSome (eC (.int 1))) pNone)) [2])) aNil)))) (sRetV (eBin ixF (eVar 1) (eC (.int 0)))) sNext))
 (sRaise "NoOrder"))
def mf_free_name:List D→M D:=mfn 3 mb_free_name
def mb_merge_orders:SM:=(sSeq (sSet 1 (eF (fLc (iSeq (eVar 0)) (gName3 5) (tOf (eBin gtF (eB lenF (aCons (eVar 5) aNil)) (eC (.int 0)))) (eB tupCF (aCons (eVar 5) aNil)) [5])))
 (sSeq (sOwn 2 (fLst aNil))
 (sSeq (whileL (tTru (eVar 1)) (sSeq (sSet 3 (eCall 1 mf_free_name (aCons (eVar 1) aNil)))
 (sSeq (sApp 2 (eVar 3))
 (sSeq (sSet 4 (eF (fLc (iSeq (eVar 1)) (gName3 5) tYes3 (eB tupCF (aCons (eF (fLc (iSeq (eVar 5)) (gName3 6) (tOf (eBin (eqF true) (eVar 6) (eVar 3))) (eVar 6) [6])) aNil)) [5])))
 (sSet 1 (eF (fLc (iSeq (eVar 4)) (gName3 5) (tOf (eBin gtF (eB lenF (aCons (eVar 5) aNil)) (eC (.int 0)))) (eVar 5) [5])))))) 1000)
 (sRetV (eB tupCF (aCons (eVar 2) aNil))))))
def mf_merge_orders:List D→M D:=mfn 7 mb_merge_orders
def mb_class_orders:SM:=(sSeq (sOwnD 1)
 (sSeq (sFor (iSeq (eVar 0)) (gTup3 2 (gCons3 (gName3 2) (gCons3 (gName3 3) gNil3))) (sSeq (sSet 4 (eF (fLc (iSeq (eVar 3)) (gName3 5) tYes3 (eBin dgF (eVar 1) (eVar 5)) [5])))
 (sSetK 1 (eVar 2) (eBin addF (eTup (aCons (eVar 2) aNil)) (eCall 1 mf_merge_orders (aCons (eBin addF (eVar 4) (eF (fLst (aCons (eVar 3) aNil)))) aNil))))))
 (sRetD 1)))
def mf_class_orders:List D→M D:=mfn 6 mb_class_orders
def mb_bad_part:SM:=(sSeq (sIf (tNot3 (tTru (eCall 3 mf_good_names (aCons (eVar 0) (aCons (eC (.int 1)) (aCons (eC (.int 3)) aNil)))))) (sRetV (eC (.str "methods"))) sNext)
 (sSeq (sIf (tNot3 (tTru (eCall 3 mf_good_names (aCons (eVar 1) (aCons (eC (.int 0)) (aCons (eC (.int 4)) aNil)))))) (sRetV (eC (.str "layers"))) sNext)
 (sSeq (sIf (tNot3 (tTru (eCall 2 mf_are_chosen (aCons (eVar 2) (aCons (eVar 1) aNil))))) (sRetV (eC (.str "inner"))) sNext)
 (sSeq (sIf (tOf (eBin (inF true) (eVar 3) (eTup (aCons (eC (.str "keep")) (aCons (eC (.str "live")) aNil))))) (sRetV (eC (.str "running"))) sNext)
 (sSeq (sIf (tOf (eBin (inF true) (eVar 4) (eTup (aCons (eC (.str "maker")) (aCons (eC (.str "caller")) aNil))))) (sRetV (eC (.str "stored"))) sNext)
 (sRetV (eC .non)))))))
def mf_bad_part:List D→M D:=mfn 5 mb_bad_part
def mb_good_row:SM:=(sSeq (sIf (tNot3 (tTru (eB isi2F (aCons (eVar 0) (aCons (eC (.ty "str")) aNil))))) (sRetV (eC (.bl false))) sNext)
 (sSeq (sIf (tOf (eBin (inF false) (eVar 0) (eC (.ctup ((["set 0","set 1","if","else","end","proceed","run","yield"]:List Str).map .str))))) (sRetV (eC (.bl true))) sNext)
 (sSeq (sSet 3 (eM1 splitF (eVar 0) (eC (.str " "))))
 (sSeq (sIf (tOf (eBin (eqF true) (eB lenF (aCons (eVar 3) aNil)) (eC (.int 2)))) (sRetV (eC (.bl false))) sNext)
 (sSeq (sIf (tOf (eBin (inF false) (eBin ixF (eVar 3) (eC (.int 0))) (eTup (aCons (eC (.str "say")) (aCons (eC (.str "ask")) aNil))))) (sRetV (eCall 1 mf_is_word (aCons (eBin ixF (eVar 3) (eC (.int 1))) aNil))) sNext)
 (sSeq (sIf (tOf (eBin (inF false) (eBin ixF (eVar 3) (eC (.int 0))) (eTup (aCons (eC (.str "on")) (aCons (eC (.str "off")) aNil))))) (sRetV (eBin (inF false) (eBin ixF (eVar 3) (eC (.int 1))) (eVar 1))) sNext)
 (sRetV (eAnd (eBin (inF false) (eBin ixF (eVar 3) (eC (.int 0))) (eTup (aCons (eC (.str "call")) (aCons (eC (.str "store")) aNil)))) (eBin (inF false) (eBin ixF (eVar 3) (eC (.int 1))) (eVar 2))))))))))
def mf_good_row:List D→M D:=mfn 4 mb_good_row
def mb_switches:SM:=(sRetV (eOr (eM1 startsF (eVar 0) (eC (.str "on "))) (eM1 startsF (eVar 0) (eC (.str "off ")))))
def mf_switches:List D→M D:=mfn 1 mb_switches
def mb_well_nested:SM:=(sSeq (sOwn 1 (fLst aNil))
 (sSeq (sFor (iSeq (eVar 0)) (gName3 2) (sIf (tOr3 (tOf (eBin (eqF false) (eVar 2) (eC (.str "if")))) (tTru (eCall 1 mf_switches (aCons (eVar 2) aNil)))) (sSeq (sApp 1 (eVar 2))
 (sIf (tOf (eBin gtF (eB lenF (aCons (eVar 1) aNil)) (eC (.int 3)))) (sRetV (eC (.bl false))) sNext)) (sIf (tOf (eBin (eqF false) (eVar 2) (eC (.str "else")))) (sSeq (sIf (tOr3 (tOf (eBin (eqF false) (eB lenF (aCons (eVar 1) aNil)) (eC (.int 0)))) (tOf (eBin (eqF true) (eBin ixF (eVar 1) (eNeg (eC (.int 1)))) (eC (.str "if"))))) (sRetV (eC (.bl false))) sNext)
 (sSetI 1 (eNeg (eC (.int 1))) (eC (.str "else")))) (sIf (tOf (eBin (eqF false) (eVar 2) (eC (.str "end")))) (sSeq (sIf (tOf (eBin (eqF false) (eB lenF (aCons (eVar 1) aNil)) (eC (.int 0)))) (sRetV (eC (.bl false))) sNext)
 (sPop 1)) sNext))))
 (sRetV (eBin (eqF false) (eB lenF (aCons (eVar 1) aNil)) (eC (.int 0))))))
def mf_well_nested:List D→M D:=mfn 3 mb_well_nested
def mb_good_body:SM:=(sSeq (sIf (tNot3 (tTru (eB isi2F (aCons (eVar 0) (aCons (eC (.ty "tuple")) aNil))))) (sRetV (eC (.bl false))) sNext)
 (sSeq (sIf (tOr3 (tOf (eBin gtF (eB lenF (aCons (eVar 0) aNil)) (eC (.int 10)))) (tOf (eBin gtF (eCnt (eVar 0) (eC (.str "proceed"))) (eC (.int 2))))) (sRetV (eC (.bl false))) sNext)
 (sSeq (sIf (tNot3 (tTru (eB allF (aCons (eF (fLc (iSeq (eVar 0)) (gName3 3) tYes3 (eCall 3 mf_good_row (aCons (eVar 3) (aCons (eVar 1) (aCons (eVar 2) aNil)))) [3])) aNil)))) (sRetV (eC (.bl false))) sNext)
 (sRetV (eCall 1 mf_well_nested (aCons (eVar 0) aNil))))))
def mf_good_body:List D→M D:=mfn 4 mb_good_body
def mb_good_bodies:SM:=(sSeq (sIf (tNot3 (tTru (eB isi2F (aCons (eVar 0) (aCons (eC (.ty "dict")) aNil))))) (sRetV (eC (.bl false))) sNext)
 (sSeq (sFor (iKeysDD (eVar 0)) (gName3 4) (sSeq (sIf (tOr3 (tNot3 (tTru (eB isi2F (aCons (eVar 4) (aCons (eC (.ty "tuple")) aNil))))) (tOf (eBin (eqF true) (eB lenF (aCons (eVar 4) aNil)) (eC (.int 3))))) (sRetV (eC (.bl false))) sNext)
 (sSeq (sIf (tAnd3 (tOf (eBin (eqF true) (eBin ixF (eVar 4) (eC (.int 0))) (eC (.str "")))) (tOf (eBin (inF true) (eBin ixF (eVar 4) (eC (.int 0))) (eVar 2)))) (sRetV (eC (.bl false))) sNext)
 (sSeq (sIf (tOr3 (tOf (eBin (inF true) (eBin ixF (eVar 4) (eC (.int 1))) (eVar 1))) (tOf (eBin (inF true) (eBin ixF (eVar 4) (eC (.int 2))) (eVar 3)))) (sRetV (eC (.bl false))) sNext)
 (sIf (tNot3 (tTru (eCall 3 mf_good_body (aCons (eGetDD (eVar 0) (eVar 4)) (aCons (eVar 2) (aCons (eVar 3) aNil)))))) (sRetV (eC (.bl false))) sNext)))))
 (sRetV (eC (.bl true)))))
def mf_good_bodies:List D→M D:=mfn 5 mb_good_bodies
def mb_Book_init:SM:=(sSeq (sIf (tNot3 (tTru (eCall 1 mf_good_classes (aCons (eVar 1) aNil)))) sBad sNext)
 (sSeq (sTry0 (sFldS ["Book"] "orders" (eVar 0) (eCall 1 mf_class_orders (aCons (eVar 1) aNil))))
 (sSeq (sSet 9 (eCall 5 mf_bad_part (aCons (eVar 2) (aCons (eVar 3) (aCons (eVar 5) (aCons (eVar 6) (aCons (eVar 7) aNil)))))))
 (sSeq (sIf (tOf (eBin (isNF true) (eVar 9) (eC .non))) sBad sNext)
 (sSeq (sIf (tNot3 (tTru (eCall 4 mf_good_bodies (aCons (eVar 4) (aCons (eF (fLc (iSeq (eVar 1)) (gName3 12) tYes3 (eBin ixF (eVar 12) (eC (.int 0))) [12])) (aCons (eVar 3) (aCons (eVar 2) aNil))))))) sBad sNext)
 (sSeq (sFldS ["Book"] "class_pairs" (eVar 0) (eB tupCF (aCons (eVar 1) aNil)))
 (sSeq (sFldS ["Book"] "method_names" (eVar 0) (eB tupCF (aCons (eVar 2) aNil)))
 (sSeq (sFldS ["Book"] "layer_names" (eVar 0) (eB tupCF (aCons (eVar 3) aNil)))
 (sSeq (sFldS ["Book"] "inner_names" (eVar 0) (eB tupCF (aCons (eF (fLc (iSeq (eVar 3)) (gName3 11) (tOf (eBin (inF false) (eVar 11) (eVar 5))) (eVar 11) [11])) aNil)))
 (sSeq (sFldS ["Book"] "rules" (eVar 0) (eTup (aCons (eVar 6) (aCons (eVar 7) aNil))))
 (sSeq (sFldS ["Book"] "known" (eVar 0) eNewDD)
 (sFldS ["Book"] "texts" (eVar 0) (eDc (iKeysDD (eVar 4)) (gName3 10) tYes3 (eVar 10) (eB tupCF (aCons (eGetDD (eVar 4) (eVar 10)) aNil)) [10])))))))))))))
def mf_Book_init:List D→M D:=mfn 13 mb_Book_init
def mb_w_arranged:SM:=(sSeq (sSet 1 (eF (fLst (aCons (eTup aNil) aNil))))
 (sSeq (sSet 2 (eF (fLst (aCons (eTup aNil) aNil))))
 (sSeq (sFor (iRange1 (aCons (eB lenF (aCons (eVar 0) aNil)) aNil)) (gName3 3) (sSeq (sSet 2 (eB sumLF (aCons (eF (fLc (iSeq (eVar 2)) (gName3 4) tYes3 (eF (fLc (iSeq (eVar 0)) (gName3 5) (tOf (eBin (inF true) (eVar 5) (eVar 4))) (eBin addF (eVar 4) (eTup (aCons (eVar 5) aNil))) [5])) [4])) (aCons (eF (fLst aNil)) aNil))))
 (sSet 1 (eBin addF (eVar 1) (eVar 2)))))
 (sRetV (eVar 1)))))
def mf_w_arranged:List D→M D:=mfn 6 mb_w_arranged
def mb_Book_order:SM:=(sSeq (sSet 2 (eF (fLc (iSeq (eFld ["Book"] "class_pairs" (eVar 0))) (gName3 3) tYes3 (eBin ixF (eVar 3) (eC (.int 0))) [3])))
 (sSeq (sIf (tOr3 (tNot3 (tTru (eCall 2 mf_are_chosen (aCons (eVar 1) (aCons (eVar 2) aNil))))) (tOf (eBin (eqF false) (eB lenF (aCons (eVar 1) aNil)) (eC (.int 0))))) (sRaise "NoOrder") sNext)
 (sRetV (eCall 1 mf_merge_orders (aCons (eBin addF (eF (fLc (iSeq (eVar 1)) (gName3 4) tYes3 (eBin dgF (eFld ["Book"] "orders" (eVar 0)) (eVar 4)) [4])) (eF (fLst (aCons (eVar 1) aNil)))) aNil)))))
def mf_Book_order:List D→M D:=mfn 5 mb_Book_order
end My
namespace My
open PySem L2 M3
set_option maxHeartbeats 4000000 in
theorem cell_at_spec (ns:List Int) (k:Nat) (hk:k<1000000) (hb:∀i∈ns,i.natAbs.log2≤1048576) (hl:ns.length≤63) (st:Store) :
  ∃c:Int,mf_w_cell_at [.ro (ns.map .int),.int k] st=.ok (.int c) st∧c.natAbs.log2≤1048576:=by
 have hs:sizeLine=16777216:=sizeLine_eq
 by_cases h1:k<ns.length
 ·refine⟨ns[k],of_run ?_,hb _ (List.getElem_mem h1)⟩
  rw[mf_w_cell_at,run_mfn]
  simp[mb_w_cell_at,atN,h1]
 ·by_cases h2:0<ns.length
  ·have h3:k % ns.length<ns.length:=Nat.mod_lt _ h2
   have hat:atI (ns.map D.int) ((k:Int) % (ns.length:Int))=some (.int ns[k % ns.length]):=by
    have e3:((k:Int) % (ns.length:Int))=((k % ns.length:Nat):Int):=by omega
    rw[e3,atN];simp[h3]
   refine⟨ns[k % ns.length] % 1000003+1009 * k,of_run ?_,?_⟩
   ·rw[mf_w_cell_at,run_mfn]
    have hm:mulC 1009 k=true:=by
     unfold mulC
     have:=log2_le (n:=(k:Int).natAbs) (k:=20) (by omega)
     have e:Nat.log2 (Int.natAbs 1009)=9:=by decide
     exact decide_eq_true (by omega)
    simp[mb_w_cell_at,h1,h2,hat,hm]
   ·refine log2_le (Nat.lt_of_lt_of_le ?_ two20)
    have:=Int.emod_nonneg ns[k % ns.length] (b:=1000003) (by decide)
    have:=Int.emod_lt_of_pos ns[k % ns.length] (b:=1000003) (by decide)
    omega
  ·refine⟨k,of_run ?_,log2_le (Nat.lt_of_lt_of_le (m:=2 ^ 31) (by omega) two20)⟩
   rw[mf_w_cell_at,run_mfn]
   simp[mb_w_cell_at,h1,h2]
def Draws (n:Nat) (ds:List Int):Prop:=ds.length=n∧∀d∈ds,0≤d∧d<5040
set_option maxHeartbeats 4000000 in
theorem digits_spec (c:Int) (salt many:Nat) (hc:c.natAbs.log2≤1048576) (hs:salt<1000000) (hm:many≤1000) (st:Store) :
  ∃ds:List Int,mf_w_digits [.int c,.int salt,.int many] st=.ok (.lst (ds.map .int)) st∧Draws many ds:=by
 have hz:sizeLine=16777216:=sizeLine_eq
 suffices h:M3.run (mf_w_digits [.int c,.int salt,.int many] st) (fun r=>∃ds:List Int,r=.ok (.lst (ds.map .int)) st∧Draws many ds) by
  obtain⟨ds,e,h⟩:=h
  exact⟨ds,e,h⟩
 rw[mf_w_digits,run_mfn]
 have hr : -1000000≤(many:Int)∧(many:Int)≤1000000:=by omega
 simp[mb_w_digits,hr]
 refine forL_run (fun i u st'=>st'=st∧∃(ds:List Int) (rest:Int) (x y:Option W),Draws i ds∧u=[some (.val (.int c)),some (.val (.int salt)),some (.val (.int many)),some (.bor (ds.map .int)),some (.val (.int rest)),x,y]) ?_ ?_ ?_
 ·exact⟨rfl,[],_,none,none,⟨rfl,by simp⟩,rfl⟩
 ·rintro i d u st' hd ⟨rfl,ds,rest,x,y,hD,rfl⟩
  obtain⟨rfl,hi⟩:=range_get hd
  refine⟨_,rfl,?_⟩
  have hlen:ds.length<1000000:=by rw[hD.1];omega
  by_cases hb:(1000000000000000000:Int)≤c
  ·simp[hb,hlen]
   refine⟨ds++[rest % 5040],⟨by simp[hD.1],fun e he=>?_⟩,by simp⟩
   rcases List.mem_append.mp he with q | q
   ·exact hD.2 e q
   ·rw[List.mem_singleton.mp q];omega
  ·have m1:mulC c 48271=true:=mulC_of hc (b:=16) (by decide) (by omega)
   have m2:mulC ((salt:Int)+(i:Int)) 69621=true:=mulC_of (a:=40) (log2_le (by omega)) (b:=17) (by decide) (by omega)
   generalize hq:(c * 48271+((salt:Int)+(i:Int)) * 69621+7) % 2147483647=q
   have q0:0≤q∧q<2147483647:=by omega
   have m3:mulC q q=true:=mulC_of (a:=40) (log2_le (by omega)) (b:=40) (log2_le (by omega)) (by omega)
   have m4:mulC 40692 (salt:Int)=true:=mulC_of (a:=16) (by decide) (b:=40) (log2_le (by omega)) (by omega)
   simp[hb,hlen,m1,m2,hq,m3,m4]
   refine⟨ds++[(q * q+40692 * (salt:Int)+(i:Int)) % 1000003 % 5040],⟨by simp[hD.1],fun e he=>?_⟩,by simp⟩
   rcases List.mem_append.mp he with h | h
   ·exact hD.2 e h
   ·rw[List.mem_singleton.mp h];omega
 ·rintro u st' ⟨rfl,ds,rest,x,y,hD,rfl⟩
  rw[rangeD_length] at hD
  simp
  exact⟨ds,rfl,hD⟩
set_option maxHeartbeats 4000000 in
theorem spelled_spec (d many:Nat) (hd:d<5040) (hm:many≤26) (st:Store):mf_w_spelled [.int d,.int many] st=.ok (.lst ((words d many).map .str)) st:=by
 apply of_run
 rw[mf_w_spelled,run_mfn]
 have e1:(d:Int) / 64 % 26=((d / 64 % 26:Nat):Int):=by omega
 have e2:(d:Int) % 8=((d % 8:Nat):Int):=by omega
 have e3:(d:Int) / 8 % 8=((d / 8 % 8:Nat):Int):=by omega
 have e4:(d:Int) / 3 % 3=((d / 3 % 3:Nat):Int):=by omega
 have a1:atI letters ((d:Int) / 64 % 26)=some (97+d / 64 % 26):=by rw[e1,atN,letters_get (by omega)]
 have m1:MulS ⟨#[97+d / 64 % 26]⟩ ((d:Int) % 8)=true:=decide_eq_true ⟨by omega,by omega,by show (#[97+d / 64 % 26]:Array Nat).size≤1000;simp⟩
 have x1:Txt.mul ⟨#[97+d / 64 % 26]⟩ ((d:Int) % 8)=S (List.replicate (d % 8) (97+d / 64 % 26)):=by rw[e2];exact mul_one_sign _ _
 have r1 : -1000000≤(many:Int)∧(many:Int)≤1000000:=by omega
 have l1:letters.length≤1000000:=by decide
 simp only[mb_w_spelled,letters_eq]
 simp[a1,m1,x1,r1,l1]
 refine lcR_run (fun k=>.str (S [97+(d+5 * k) % 26])) (by omega) (fun i hi=>⟨_,rfl,?_⟩) ?_
 ·have e:((d:Int)+5 * (i:Int)) % 26=(((d+5 * i) % 26:Nat):Int):=by omega
  have a:atI letters (((d:Int)+5 * (i:Int)) % 26)=some (97+(d+5 * i) % 26):=by rw[e,atN,letters_get (by omega)]
  have m:mulC 5 (i:Int)=true:=mulC_of (a:=3) (by decide) (b:=40) (log2_le (by omega)) (by omega)
  simp[m,a,l1]
  rfl
 simp[r1]
 generalize hF:List.replicate (d % 8) (97+d / 64 % 26)=F
 have lF:F.length≤7:=by rw[←hF,List.length_replicate];omega
 refine lcR_run (fun k=>.str (S (F.drop (d / 8 % 8)++F.take (k * (d / 3 % 3))))) (by omega) (fun i hi=>⟨_,rfl,?_⟩) ?_
 ·have m:mulC (i:Int) ((d:Int) / 3 % 3)=true:=mulC_of (a:=40) (log2_le (by omega)) (b:=40) (log2_le (by omega)) (by omega)
  have c1:cutD F (some ((d:Int) / 8 % 8)) none=F.drop (d / 8 % 8):=by rw[e3,cut_from _ (by omega)];rfl
  have c2:cutD F none (some ((i:Int) * ((d:Int) / 3 % 3)))=F.take (i * (d / 3 % 3)):=by
   rw[e4,show ((i:Int) * ((d / 3 % 3:Nat):Int))=((i * (d / 3 % 3):Nat):Int) by simp,cut_to _ (by omega)];rfl
  have z1:F.length - d / 8 % 8+min (i * (d / 3 % 3)) F.length≤1000000:=by omega
  simp[m,S_cut,c1,c2,S_app,z1,show F.length≤1000000 by omega]
 simp[r1]
 refine lcR_run (fun k=>.str (word d k)) (by omega) (fun i hi=>⟨_,rfl,?_⟩) ?_
 ·have c1:cutD F none (some ((d:Int) / 8 % 8))=F.take (d / 8 % 8):=by rw[e3,cut_to _ (by omega)];rfl
  have c3:∀l:List Nat,cutD l none (some 8)=l.take 8:=fun l=>by rw[cut_to _ (by omega)];rfl
  simp[S_cut,c1,S_app,atN,hi,show F.length≤1000000 by omega,show min (d / 8 % 8) F.length+1≤1000000 by omega,c3]
  have z2:min (d / 8 % 8) F.length+1+(F.length - d / 8 % 8+min (i * (d / 3 % 3)) F.length)≤1000000:=by omega
  refine⟨z2,by omega,?_⟩
  unfold word wordL
  rw[hF]
  simp
 ·simp[words]
end My
namespace My
open PySem L2 M3
abbrev Ok (w:Str):Prop:=PyData.strOk w=true
abbrev Oks (ws:List Str):Prop:=∀w∈ws,PyData.strOk w=true
theorem any_strs (a:Str):∀xs:List Str,((xs.map PyData.str).any fun z=>PyData.eqv z (.str a))=decide (a∈xs)
 | []=>by simp
 | x :: xs=>by
  rw[List.map_cons,List.any_cons,any_strs a xs,PyData.eqv]
  by_cases h:x=a
  ·subst h;simp
  ·have h2:¬a=x:=fun e=>h e.symm
   simp[h,h2]
theorem shaped_str {a:Str} (h:Ok a):SeqAt.shaped (.str a)=true:=by
 unfold SeqAt.shaped
 rw[PyData.canLay0,h,PyData.depth];rfl
theorem shaped_lst {zs:List Str} (h:Oks zs):SeqAt.shaped (.list (zs.map .str))=true:=by
 unfold SeqAt.shaped
 rw[PyData.canLay0,canLay_strs h,PyData.depth,depth_strs];rfl
theorem shaped_tup {zs:List Str} (h:Oks zs):SeqAt.shaped (.tuple (zs.map .str))=true:=by
 unfold SeqAt.shaped
 rw[PyData.canLay0,canLay_strs h,PyData.depth,depth_strs];rfl
theorem inF_lst (neg:Bool) {a:Str} {xs:List Str} (ha:Ok a) (hx:Oks xs):inF neg (.val (.str a)) (.val (.lst (xs.map .str)))=some (.val (.bl (if neg then !decide (a∈xs) else decide (a∈xs)))):=by
 unfold inF
 dsimp only[W.dic]
 simp only[W_rd_val,D.py,pys_strs,Option.map_some,shaped_str ha,shaped_lst hx,and_self,if_true,any_strs]
theorem inF_tup (neg:Bool) {a:Str} {xs:List Str} (ha:Ok a) (hx:Oks xs):inF neg (.val (.str a)) (.val (.tup (xs.map .str)))=some (.val (.bl (if neg then !decide (a∈xs) else decide (a∈xs)))):=by
 unfold inF
 dsimp only[W.dic]
 simp only[W_rd_val,D.py,pys_strs,Option.map_some,shaped_str ha,shaped_tup hx,and_self,if_true,any_strs]
theorem filter_strs (a:Str):∀xs:List Str,((xs.map PyData.str).filter fun z=>PyData.eqv z (.str a)).length=xs.count a
 | []=>by simp
 | x :: xs=>by
  rw[List.map_cons,List.filter_cons,PyData.eqv,List.count_cons]
  have ih:=filter_strs a xs
  by_cases h:x=a
  ·subst h;simp[ih]
  ·simp[h,ih]
theorem cutD_map {α β:Type} (f:α→β) (xs:List α) (lo hi:Option Int):cutD (xs.map f) lo hi=(cutD xs lo hi).map f:=by
 unfold cutD
 rw[List.length_map,←List.map_drop,←List.map_take]
theorem cut1 {α:Type} (xs:List α):cutD xs (some 1) none=xs.tail:=by rw[cut_from _ (by decide)];simp
theorem cutT {α:Type} (xs:List α) (n:Nat):cutD xs none (some (n:Int))=xs.take n:=by rw[cut_to _ (by omega)];simp
theorem eqF_int (neg:Bool) (i j:Int):eqF neg (.val (.int i)) (.val (.int j))=some (.val (.bl (if neg then !decide (i=j) else decide (i=j)))):=by
 unfold eqF
 have s:∀i:Int,SeqAt.shaped (.int i)=true:=fun i=>by unfold SeqAt.shaped;rw[PyData.canLay0,PyData.depth];rfl
 simp only[W_rd_val,D.eqv?,D.py,s,and_self,if_true,Option.map_some,PyData.eqv]
 congr 4
 all_goals (by_cases h:i=j <;> simp[h])
end My
namespace My
open PySem L2 M3
theorem countP_strs (a:Str) (xs:List Str):((xs.map PyData.str).countP fun z=>PyData.eqv z (.str a))=xs.count a:=by
 rw[List.countP_eq_length_filter,filter_strs]
theorem cntF_str {a:Str} {xs:List Str} (ha:Ok a) (hx:Oks xs):cntF (xs.map .str) (.val (.str a))=some (.val (.int (xs.count a:Nat))):=by
 unfold cntF
 simp only[W_rd_val,Option.bind_some,pys_strs,D.py,shaped_str ha,shaped_tup hx,and_self,if_true,countP_strs]
abbrev Ords:=List (List Str)
def freeB (ls:Ords) (n:Str):Bool:=!ls.any fun q=>decide (n∈q.tail)
def frees (ls:Ords):List Str:=(ls.filterMap List.head?).filter (freeB ls)
def rm (n:Str) (o:List Str):List Str:=o.filter fun w=>!decide (w=n)
def without (n:Str) (ls:Ords):Ords:=(ls.map (rm n)).filter fun o=>!o.isEmpty
def mergeN:Nat→Ords→List Str→Option (List Str)
 | 0,ls,acc=>if ls=[] then some acc else none
 | f+1,ls,acc=>if ls=[] then some acc else match (frees ls).head? with
  | none=>none
  | some n=>mergeN f (without n ls) (acc++[n])
def nonempty (ls:Ords):Ords:=ls.filter fun o=>!o.isEmpty
def size (ls:Ords):Nat:=(ls.map List.length).sum
theorem size_le {ls:Ords} {p:List Str→Bool}:size (ls.filter p)≤size ls:=by
 unfold size
 induction ls with
 | nil=>simp
 | cons o ls ih=>
  rw[List.filter_cons]
  split <;> simp only[List.map_cons,List.sum_cons] <;> omega
theorem size_map {ls:Ords} {f:List Str→List Str} (h:∀o,(f o).length≤o.length):size (ls.map f)≤size ls:=by
 unfold size
 induction ls with
 | nil=>simp
 | cons o ls ih=>
  simp only[List.map_cons,List.sum_cons]
  have:=h o
  omega
theorem size_without {n:Str} {ls:Ords} (h:∃o∈ls,n∈o):size (without n ls)<size ls:=by
 refine Nat.lt_of_le_of_lt size_le ?_
 obtain⟨o,ho,hn⟩:=h
 unfold size
 induction ls with
 | nil=>cases ho
 | cons q ls ih=>
  simp only[List.map_cons,List.sum_cons]
  have all:∀q:List Str,(rm n q).length≤q.length:=fun q=>List.length_filter_le _ _
  have rest:((ls.map (rm n)).map List.length).sum≤(ls.map List.length).sum:=size_map (ls:=ls) all
  rcases List.mem_cons.mp ho with e | ho
  ·subst e
   have lt:(rm n o).length<o.length:=by
    rcases Nat.lt_or_ge (rm n o).length o.length with h | h
    ·exact h
    ·have e:=List.filter_eq_self.mp ((List.filter_sublist (p:=fun w=>!decide (w=n))).eq_of_length (Nat.le_antisymm (all o) h)) n hn
     simp at e
   omega
  ·have:=ih ho
   have:=all q
   omega
theorem frees_mem {n:Str} {ls:Ords} (h:n∈frees ls):∃o∈ls,n∈o:=by
 unfold frees at h
 obtain⟨h,_⟩:=List.mem_filter.mp h
 obtain⟨o,ho,e⟩:=List.mem_filterMap.mp h
 exact⟨o,ho,List.mem_of_head? e⟩
def OksL (ls:Ords):Prop:=∀o∈ls,Oks o
theorem oks_filter {o:List Str} {p} (h:Oks o):Oks (o.filter p):=fun w hw=>h w (List.mem_filter.mp hw).1
theorem oks_tail {o:List Str} (h:Oks o):Oks o.tail:=fun w hw=>h w (List.mem_of_mem_tail hw)
theorem oksL_without {n:Str} {ls:Ords} (h:OksL ls):OksL (without n ls):=fun o ho=>by
 obtain⟨ho,_⟩:=List.mem_filter.mp ho
 obtain⟨q,hq,rfl⟩:=List.mem_map.mp ho
 exact oks_filter (h q hq)
def Full (ls:Ords):Prop:=∀o∈ls,o≠[]
theorem full_without {n:Str} {ls:Ords}:Full (without n ls):=fun o ho e=>by
 have:=(List.mem_filter.mp ho).2
 subst e;simp at this
def hd0:List Str→Str
 | []=>""
 | n :: _=>n
theorem frees_full {ls:Ords} (h:Full ls):frees ls=(ls.map hd0).filter (freeB ls):=by
 have e:ls.filterMap List.head?=ls.map hd0:=by
  induction ls with
  | nil=>rfl
  | cons o ls ih=>
   cases o with
   | nil=>exact absurd rfl (h [] List.mem_cons_self)
   | cons n o=>rw[List.filterMap_cons,List.head?_cons,ih fun q hq=>h q (List.mem_cons_of_mem _ hq)];rfl
 unfold frees
 rw[e]
theorem frees_head {ls:Ords} (h:Full ls):(frees ls).head?=(ls.map hd0).find? (freeB ls):=by
 rw[frees_full h,List.head?_filter]
theorem find_at {α:Type} {p:α→Bool} {ls:List α} {i:Nat} {o:α} (h:ls[i]?=some o) (hp:p o=true) (hb:∀q∈ls.take i,p q=false):ls.find? p=some o:=by
 have e:ls=ls.take i++o :: ls.drop (i+1):=by
  obtain⟨hi,rfl⟩:=List.getElem?_eq_some_iff.mp h
  rw[←List.drop_eq_getElem_cons hi,List.take_append_drop]
 rw[e,List.find?_append,List.find?_eq_none.mpr (fun q hq=>by rw[hb q hq];exact Bool.false_ne_true)]
 simp[hp]
theorem take_succ {α:Type} {ls:List α} {i:Nat} {o q:α} (h:ls[i]?=some o) (hq:q∈ls.take (i+1)):q∈ls.take i∨q=o:=by
 rw[List.take_add_one,h] at hq
 rcases List.mem_append.mp hq with k | k
 ·exact .inl k
 ·right;simpa using k
set_option maxHeartbeats 4000000 in
theorem free_name_spec (ls:Ords) (hf:Full ls) (ho:OksL ls) (hn:ls.length≤1000) (st:Store) :
  mf_free_name [.lst (ls.map tupS)] st=match (frees ls).head? with | some n=>.ok (.str n) st | none=>.err "NoOrder" .non st:=by
 apply of_run
 rw[mf_free_name,run_mfn,frees_head hf]
 generalize hF:(ls.map hd0).find? (freeB ls)=F
 simp[mb_free_name]
 refine forL_run (fun i u st'=>st'=st∧(∃x y,u=[some (.val (.lst (ls.map tupS))),x,y])∧∀o∈(ls.map hd0).take i,freeB ls o=false) ⟨rfl,⟨_,_,rfl⟩,by simp⟩ ?_ ?_
 ·rintro i d u st' hd ⟨rfl,⟨x,y,rfl⟩,hb⟩
  obtain⟨o,ho',rfl⟩:=get_map hd
  have hmem:=List.mem_of_getElem? ho'
  refine⟨_,rfl,?_⟩
  obtain⟨n,t,rfl⟩:∃n t,o=n :: t:=by
   cases o with
   | nil=>exact absurd rfl (hf _ hmem)
   | cons n t=>exact⟨n,t,rfl⟩
  have okn:Ok n:=ho _ hmem n List.mem_cons_self
  have hi:(ls.map hd0)[i]?=some n:=by rw[List.getElem?_map,ho'];rfl
  simp only[List.set_cons_zero,List.set_cons_succ]
  simp
  refine lcA_run tupS (fun q=>.bl (decide (n∈q.tail))) (by omega) (fun q hq=>⟨_,rfl,?_⟩) ?_
  ·simp only[List.set_cons_zero,List.set_cons_succ]
   simp[tupS,atI_int]
   rw[cutD_map,cut1]
   exact inF_tup false okn (oks_tail (ho q hq))▸rfl
  ·have fr:freeB ls n = !ls.any fun q=>decide (n∈q.tail):=rfl
   cases hb':freeB ls n with
   | true=>
    rw[hb'] at fr
    have fr':(ls.any fun q=>decide (n∈q.tail))=false:=by simpa using fr.symm
    have e:=find_at (p:=freeB ls) hi hb' hb
    rw[e] at hF
    subst hF
    simp[fr',tupS,atI_int]
   | false=>
    rw[hb'] at fr
    have fr':(ls.any fun q=>decide (n∈q.tail))=true:=by simpa using fr.symm
    simp[fr']
    refine fun o ho=>?_
    rcases take_succ hi ho with k | k
    ·exact hb o k
    ·rw[k,hb']
 ·rintro u st' ⟨rfl,⟨x,y,rfl⟩,hb⟩
  have e:(ls.map hd0).find? (freeB ls)=none:=by
   rw[List.find?_eq_none]
   intro o ho
   rw[hb o (by rw[List.length_map,←List.length_map (f:=hd0),List.take_length];exact ho)]
   exact Bool.false_ne_true
  rw[e] at hF
  subst hF
  simp
theorem size_sum (ls:Ords):ls.length≤size ls∨¬Full ls:=by
 unfold size Full
 induction ls with
 | nil=>exact .inl (Nat.le_refl _)
 | cons o ls ih=>
  cases o with
  | nil=>exact .inr fun h=>h [] List.mem_cons_self rfl
  | cons n o=>
   rcases ih with ih | ih
   ·left;simp only[List.length_cons,List.map_cons,List.sum_cons];omega
   ·exact .inr fun h=>ih fun q hq=>h q (List.mem_cons_of_mem _ hq)
theorem Full.len {ls:Ords} (h:Full ls):ls.length≤size ls:=(size_sum ls).resolve_right fun q=>q h
theorem full_nonempty (ls:Ords):Full (nonempty ls):=fun o ho e=>by
 have:=(List.mem_filter.mp ho).2
 subst e;simp at this
theorem full_empty {ls:Ords} (h:Full ls) (z:size ls=0):ls=[]:=by
 have:=h.len
 rw[z] at this
 exact List.length_eq_zero_iff.mp (Nat.le_zero.mp this)
theorem mergeN_fuel:∀(f g:Nat) (ls:Ords) (acc:List Str),Full ls→size ls≤f→size ls≤g→mergeN f ls acc=mergeN g ls acc
 | 0,0,_,_,_,_,_=>rfl
 | 0,g+1,ls,acc,h,hf,_=>by
  have:=full_empty h (Nat.le_zero.mp hf)
  subst this;rfl
 | f+1,0,ls,acc,h,_,hg=>by
  have:=full_empty h (Nat.le_zero.mp hg)
  subst this;rfl
 | f+1,g+1,ls,acc,h,hf,hg=>by
  rw[mergeN,mergeN]
  split
  ·rfl
  ·cases e:(frees ls).head? with
   | none=>rfl
   | some n=>
    have lt:=size_without (frees_mem (List.mem_of_head? e))
    exact mergeN_fuel f g _ _ full_without (by omega) (by omega)
def mergeG (ls:Ords) (acc:List Str):Option (List Str):=mergeN (size ls) ls acc
theorem mergeG_nil (acc:List Str):mergeG [] acc=some acc:=rfl
theorem mergeG_step {ls:Ords} (h:Full ls) (hn:ls≠[]) (acc:List Str):mergeG ls acc=match (frees ls).head? with
  | none=>none
  | some n=>mergeG (without n ls) (acc++[n]):=by
 unfold mergeG
 have pos:size ls≠0:=fun z=>hn (full_empty h z)
 obtain⟨k,hk⟩:=Nat.exists_eq_succ_of_ne_zero pos
 rw[hk,mergeN,if_neg hn]
 cases e:(frees ls).head? with
 | none=>rfl
 | some n=>
  have lt:=size_without (frees_mem (List.mem_of_head? e))
  exact mergeN_fuel _ _ _ _ full_without (by omega) (Nat.le_refl _)
theorem len_size {ls:Ords} {o:List Str} (h:o∈ls):o.length≤size ls:=by
 unfold size
 induction ls with
 | nil=>cases h
 | cons q ls ih=>
  simp only[List.map_cons,List.sum_cons]
  rcases List.mem_cons.mp h with e | h
  ·subst e;omega
  ·have:=ih h;omega
set_option maxHeartbeats 4000000 in
theorem merge_orders_spec (ls:Ords) (ho:OksL ls) (hz:size ls≤900) (hl:ls.length≤900) (st:Store) :
  mf_merge_orders [.lst (ls.map tupS)] st=match mergeG (nonempty ls) [] with | some r=>.ok (tupS r) st | none=>.err "NoOrder" .non st:=by
 apply of_run
 rw[mf_merge_orders,run_mfn]
 generalize hR:mergeG (nonempty ls) []=R
 simp[mb_merge_orders]
 refine lcM_run tupS (fun o=>!o.isEmpty) tupS (by omega) (fun o _=>⟨_,rfl,?_,fun _=>?_⟩) ?_
 ·simp[tupS]
  cases o <;> simp
 ·simp[tupS]
 simp
 have hN:(ls.filter fun o=>!o.isEmpty)=nonempty ls:=rfl
 rw[hN]
 have sN:size (nonempty ls)≤900:=Nat.le_trans size_le hz
 refine whileL_run (fun m u st'=>st'=st∧∃(cur:Ords) (acc:List Str) (x3 x4 x5 x6:Option W),m=size cur∧Full cur∧OksL cur∧acc.length+size cur≤900∧mergeG cur acc=R∧
  u=[some (.val (.lst (ls.map tupS))),some (.val (.lst (cur.map tupS))),some (.bor (acc.map .str)),x3,x4,x5,x6]) _ (size (nonempty ls)) (by omega) ⟨rfl,nonempty ls,[],_,_,_,_,rfl,full_nonempty _,fun o h=>ho o (List.mem_filter.mp h).1,by simpa using sN,hR,rfl⟩ ?_
 rintro m u st' ⟨rfl,cur,acc,x3,x4,x5,x6,rfl,hF,hO,hA,hM,rfl⟩
 by_cases he:cur=[]
 ·subst he
  rw[mergeG_nil] at hM
  subst hM
  simp[tupS]
 ·have ne:cur.isEmpty=false:=by cases cur <;> simp at he⊢
  have lc:cur.length≤900:=Nat.le_trans hF.len (by omega)
  have fn:=free_name_spec cur hF hO (by omega) st'
  rw[mergeG_step hF he] at hM
  simp[ne]
  cases e:(frees cur).head? with
  | none=>
   rw[e] at fn hM
   simp only at fn hM
   subst hM
   simp[fn]
  | some n=>
   rw[e] at fn hM
   simp only at fn hM
   simp[fn]
   have okn:Ok n:=by
    obtain⟨o,h1,h2⟩:=frees_mem (List.mem_of_head? e)
    exact hO o h1 n h2
   have lt:=size_without (frees_mem (List.mem_of_head? e))
   simp[show acc.length<1000000 by omega]
   refine lcA_run tupS (fun o=>tupS (rm n o)) (by omega) (fun o hoc=>⟨_,rfl,?_⟩) ?_
   ·simp[tupS]
    have lo:o.length≤900:=Nat.le_trans (len_size hoc) (by omega)
    refine lc_strs (fun w=>!decide (w=n)) .str (by omega) (fun w hw=>⟨_,rfl,?_,fun _=>by simp⟩) ?_
    ·simp[eqF_str true (hO o hoc w hw) okn]
    ·simp[rm]
   simp
   refine lcM_run (fun o=>tupS (rm n o)) (fun o=>!(rm n o).isEmpty) (fun o=>tupS (rm n o)) (xs:=cur) (by omega) (fun o hoc=>⟨_,rfl,?_,fun _=>?_⟩) ?_
   ·simp[tupS]
    generalize rm n o=q
    cases q <;> simp
   ·simp
   simp
   refine⟨_,lt,without n cur,rfl,full_without,oksL_without hO,acc++[n],by simp;omega,hM,?_,by simp⟩
   unfold without
   rw[List.filter_map,List.map_map]
   rfl
end My
namespace My
open PySem L2 M3
def lstS (ws:List Str):D:=.lst (ws.map .str)
abbrev Ctab:=List (Str×List Str)
def pairD (c:Str×List Str):D:=.tup [.str c.1,tupS c.2]
def look (os:Ctab) (n:Str):List Str:=(os.lookup n).getD []
def keysT (os:Ctab):List Key:=os.map fun c=>Sum.inr c.1
theorem atK_tab (f:List Str→D) (n:Str):∀os:Ctab,atK (keysT os) (os.map fun c=>f c.2) (Sum.inr n)=(os.lookup n).map f
 | []=>rfl
 | c :: os=>by
  show (if (Sum.inr c.1:Key)=Sum.inr n then some (f c.2) else atK (keysT os) (os.map fun c=>f c.2) (Sum.inr n))=_
  rw[List.lookup_cons,atK_tab f n os]
  by_cases h:c.1=n
  ·subst h;simp
  ·have h2:¬(n == c.1)=true:=by simpa using fun e:n=c.1=>h e.symm
   rw[if_neg (fun e=>h (by injection e))]
   simp[h2]
theorem putK3_tab (f:List Str→D) (n:Str) (y:List Str) (os:Ctab) (h:n∉os.map (·.1)):putK3 (keysT os) (os.map fun c=>f c.2) (Sum.inr n) (f y)=(keysT (os++[(n,y)]),(os++[(n,y)]).map fun c=>f c.2):=by
 unfold putK3 keysT
 rw[if_neg (fun q=>h (by obtain⟨c,h1,h2⟩:=List.mem_map.mp q;injection h2 with h2;exact List.mem_map.mpr ⟨c,h1,h2⟩))]
 simp
def turn1 (p:Ords×List Str):Ords×List Str:=
 (p.1.map fun o=>o.filter fun w=>!decide (w∈p.2++(frees p.1).take 1),p.2++(frees p.1).take 1)
def turnsN:Nat→Ords×List Str→Ords×List Str
 | 0,p=>p
 | k+1,p=>turnsN k (turn1 p)
theorem turnsN_succ (k:Nat):∀p,turnsN (k+1) p=turn1 (turnsN k p):=by
 induction k with
 | zero=>intro p;rfl
 | succ k ih=>intro p;rw[turnsN,ih];rfl
def left0 (os:Ctab) (bs:List Str):Ords:=bs.map (look os)++[bs]
def lawStep (os:Ctab) (c:Str×List Str):Option Ctab:=
 if ((turnsN 3 (left0 os c.2,[c.1])).1.any fun o=>!o.isEmpty)=true then none else some (os++[(c.1,(turnsN 3 (left0 os c.2,[c.1])).2)])
def ordStep (os:Ctab) (c:Str×List Str):Option Ctab:=(mergeG (nonempty (left0 os c.2)) []).map fun m=>os++[(c.1,c.1 :: m)]
theorem frees_nonempty (ls:Ords):frees ls=frees (nonempty ls):=by
 have e1:ls.filterMap List.head?=(nonempty ls).filterMap List.head?:=by
  unfold nonempty
  induction ls with
  | nil=>rfl
  | cons o ls ih=>cases o <;> simp[List.filterMap_cons,List.filter_cons,ih]
 have e2:freeB ls=freeB (nonempty ls):=by
  funext n
  unfold freeB nonempty
  rw[List.any_filter]
  congr 2
  funext q
  cases q <;> simp
 unfold frees
 rw[e1,e2]
theorem turn1_none {p:Ords×List Str} (h:(frees p.1).head?=none) (ha:∀o∈p.1,∀w∈o,w∉p.2):turn1 p=p:=by
 have e:frees p.1=[]:=List.head?_eq_none_iff.mp h
 obtain⟨l,m⟩:=p
 unfold turn1
 dsimp only at e ha⊢
 rw[e,List.take_nil,List.append_nil]
 congr 1
 conv=>rhs;rw[←List.map_id l]
 apply List.map_congr_left
 intro o ho
 rw[List.filter_eq_self.mpr]
 ·rfl
 ·intro w hw;simpa using ha o ho w hw
theorem turnsN_fix {p:Ords×List Str} (h:turn1 p=p):∀k,turnsN k p=p
 | 0=>rfl
 | k+1=>by rw[turnsN,h,turnsN_fix h k]
theorem turn1_some {l:Ords} {m:List Str} {n:Str} (h:(frees l).head?=some n) (ha:∀o∈l,∀w∈o,w∉m):turn1 (l,m)=(l.map (rm n),m++[n]):=by
 obtain⟨r,e⟩:∃r,frees l=n :: r:=by
  cases q:frees l with
  | nil=>rw[q] at h;cases h
  | cons a r=>rw[q] at h;cases h;exact⟨r,rfl⟩
 unfold turn1
 dsimp only
 rw[e]
 simp only[List.take_succ_cons,List.take_zero]
 congr 1
 apply List.map_congr_left
 intro o ho
 unfold rm
 apply List.filter_congr
 intro w hw
 have:=ha o ho w hw
 simp[this]
theorem nonempty_rm (n:Str) (l:Ords):nonempty (l.map (rm n))=without n (nonempty l):=by
 unfold nonempty without
 induction l with
 | nil=>rfl
 | cons o l ih=>
  cases o with
  | nil=>simpa[List.filter_cons,rm] using ih
  | cons a o=>
   simp only[List.map_cons,List.filter_cons,List.isEmpty_cons,Bool.not_false,if_true]
   rw[ih]
theorem turns_merge:∀(k:Nat) (N:List Str) (l:Ords) (m acc:List Str),N.length≤k→(∀o∈l,∀w∈o,w∈N∧w∉m)→
  mergeG (nonempty l) acc=if ((turnsN k (l,m)).1.any fun o=>!o.isEmpty)=true then none else some (acc++(turnsN k (l,m)).2.drop m.length)
 | k,N,l,m,acc,hk,ha=>by
  have ha2:∀o∈l,∀w∈o,w∉m:=fun o ho w hw=>(ha o ho w hw).2
  by_cases he:nonempty l=[]
  ·have hf:(frees (l,m).1).head?=none:=by rw[show frees (l,m).1=frees l from rfl,frees_nonempty,he];rfl
   rw[turnsN_fix (turn1_none hf ha2),he,mergeG_nil]
   have:(l.any fun o=>!o.isEmpty)=false:=by
    rw[List.any_eq_false]
    intro o ho q
    have:o∈nonempty l:=List.mem_filter.mpr ⟨ho,q⟩
    rw[he] at this;cases this
   simp[this]
  ·rw[mergeG_step (full_nonempty l) he,←frees_nonempty]
   have some_left:(l.any fun o=>!o.isEmpty)=true:=by
    cases q:nonempty l with
    | nil=>exact absurd q he
    | cons o r=>
     have:o∈nonempty l:=by rw[q];exact List.mem_cons_self
     obtain⟨h1,h2⟩:=List.mem_filter.mp this
     exact List.any_eq_true.mpr ⟨o,h1,h2⟩
   cases hf:(frees l).head? with
   | none=>
    rw[turnsN_fix (turn1_none (p:=(l,m)) hf ha2)]
    simp[some_left]
   | some n=>
    obtain⟨o,ho,hn⟩:=frees_mem (List.mem_of_head? hf)
    obtain⟨nN,nm⟩:=ha o ho n hn
    have pos:0<N.length:=List.length_pos_of_mem nN
    obtain⟨k,rfl⟩:∃j,k=j+1:=⟨k - 1,by omega⟩
    have ih:=turns_merge k (N.erase n) (l.map (rm n)) (m++[n]) (acc++[n]) (by rw[List.length_erase_of_mem nN];omega) (fun q hq w hw=>by
     obtain⟨q',hq',rfl⟩:=List.mem_map.mp hq
     obtain⟨hw1,hw2⟩:=List.mem_filter.mp hw
     have hne:w≠n:=by simpa using hw2
     obtain⟨a,b⟩:=ha q' hq' w hw1
     exact⟨(List.mem_erase_of_ne hne).mpr a,by simp[b,hne]⟩)
    rw[nonempty_rm] at ih
    dsimp only
    rw[ih,turnsN,turn1_some hf ha2]
    by_cases hb:((turnsN k (l.map (rm n),m++[n])).1.any fun o=>!o.isEmpty)=true
    ·rw[if_pos hb,if_pos hb]
    ·rw[if_neg hb,if_neg hb]
     congr 1
     obtain⟨t,ht⟩:∃t,(turnsN k (l.map (rm n),m++[n])).2=(m++[n])++t:=by
      have all:∀(k:Nat) (p:Ords×List Str),∃t,(turnsN k p).2=p.2++t:=by
       intro k
       induction k with
       | zero=>exact fun p=>⟨[],by simp[turnsN]⟩
       | succ k ih=>
        intro p
        obtain⟨t,ht⟩:=ih (turn1 p)
        exact⟨_,by rw[turnsN,ht];show (p.2++_)++t=_;rw[List.append_assoc]⟩
      exact all k _
     rw[ht]
     simp
theorem step_eq {os:Ctab} {c:Str×List Str} (N:List Str) (hN:N.length≤3) (ha:∀o∈left0 os c.2,∀w∈o,w∈N∧w≠c.1):lawStep os c=ordStep os c:=by
 have h:=turns_merge 3 N (left0 os c.2) [c.1] [] hN (fun o ho w hw=>⟨(ha o ho w hw).1,by simpa using (ha o ho w hw).2⟩)
 unfold lawStep ordStep
 rw[h]
 by_cases hb:((turnsN 3 (left0 os c.2,[c.1])).1.any fun o=>!o.isEmpty)=true
 ·rw[if_pos hb,if_pos hb];rfl
 ·rw[if_neg hb,if_neg hb]
  obtain⟨t,ht⟩:∃t,(turnsN 3 (left0 os c.2,[c.1])).2=[c.1]++t:=by
   have all:∀(k:Nat) (p:Ords×List Str),∃t,(turnsN k p).2=p.2++t:=by
    intro k
    induction k with
    | zero=>exact fun p=>⟨[],by simp[turnsN]⟩
    | succ k ih=>
     intro p
     obtain⟨t,ht⟩:=ih (turn1 p)
     exact⟨_,by rw[turnsN,ht];show (p.2++_)++t=_;rw[List.append_assoc]⟩
   exact all 3 _
  rw[ht]
  simp
structure Small (p:Ords×List Str) (b:Nat):Prop where
 n:p.1.length≤200
 o:∀o∈p.1,o.length≤200∧Oks o
 m:p.2.length≤b∧Oks p.2
theorem small_turn {p:Ords×List Str} {b:Nat} (h:Small p b):Small (turn1 p) (b+1):=by
 refine⟨by simpa[turn1] using h.n,fun o ho=>?_,?_,fun w hw=>?_⟩
 ·obtain⟨q,hq,rfl⟩:=List.mem_map.mp ho
  exact⟨Nat.le_trans (List.length_filter_le _ _) (h.o q hq).1,oks_filter (h.o q hq).2⟩
 ·have:=h.m.1
  simp[turn1];omega
 ·rcases List.mem_append.mp hw with k | k
  ·exact h.m.2 w k
  ·obtain⟨o,ho,hn⟩:=frees_mem (List.mem_of_mem_take k)
   exact(h.o o ho).2 w hn
theorem small_turns {p:Ords×List Str} {b:Nat} (h:Small p b):∀k,Small (turnsN k p) (b+k)
 | 0=>h
 | k+1=>by rw[turnsN_succ];exact small_turn (small_turns h k)
theorem hd0_ok {o:List Str} (h:Oks o) (ne:o≠[]):Ok (hd0 o):=by
 cases o with
 | nil=>exact absurd rfl ne
 | cons n o=>exact h n List.mem_cons_self
theorem lookT_mem {os:Ctab} {n:Str} {o:List Str} (h:os.lookup n=some o):(n,o)∈os:=by
 induction os with
 | nil=>cases h
 | cons c os ih=>
  rw[List.lookup_cons] at h
  split at h
  ·rename_i e
   cases h
   rw[show n=c.1 from by simpa using e]
   exact List.mem_cons_self
  ·exact List.mem_cons_of_mem _ (ih h)
def okTab (os:Ctab):Prop:=∀c∈os,c.2.length≤4∧Oks c.2
theorem look_ok {os:Ctab} (h:okTab os) (n:Str):(look os n).length≤4∧Oks (look os n):=by
 unfold look
 cases e:os.lookup n with
 | none=>exact⟨Nat.zero_le _,fun w hw=>by cases hw⟩
 | some o=>exact h (n,o) (lookT_mem e)
theorem M3lookup_some {os:Ctab} {n:Str} (h:n∈os.map (·.1)):os.lookup n=some (look os n):=by
 unfold look
 induction os with
 | nil=>cases h
 | cons c os ih=>
  rw[List.lookup_cons]
  by_cases e:(n == c.1)=true
  ·rw[e];rfl
  ·have ne:n≠c.1:=fun q=>e (by rw[q];exact beq_self_eq_true _)
   have e':(n == c.1)=false:=by simpa using e
   rw[e']
   exact ih (by
    rcases List.mem_map.mp h with⟨d,hd,q⟩
    rcases List.mem_cons.mp hd with z | z
    ·subst z;exact absurd q.symm ne
    ·exact List.mem_map.mpr ⟨d,z,q⟩)
set_option maxHeartbeats 8000000 in
theorem ordered_spec (cs:Ctab) (bs:List Str) {w:W} (hw:lstCF [w]=some (cs.map pairD)) (hn:((cs++[(("" : Str),bs)]).map (·.1)).Nodup) (ok1:∀c∈cs++[(("" : Str),bs)],Ok c.1∧Oks c.2∧c.2.length≤100)
  (hin:∀i c,(cs++[(("" : Str),bs)])[i]?=some c→∀b∈c.2,b∈(cs.take i).map (·.1)) (hl:cs.length≤900) (st:Store) :
  mf_w_ordered [w,.val (tupS bs)] st=match ((cs++[(("" : Str),bs)]).foldlM lawStep []) with | some os=>.ok (lstS (look os "").tail) st | none=>.ok .non st:=by
 apply of_run
 rw[mf_w_ordered,run_mfnW]
 generalize hR:((cs++[(("" : Str),bs)]).foldlM lawStep [])=R
 simp[mb_w_ordered,hw]
 rw[if_pos (by omega)]
 have e0:cs.map pairD++[D.tup [D.str "",tupS bs]]=(cs++[(("" : Str),bs)]).map pairD:=by simp[pairD]
 rw[e0]
 generalize hC:cs++[(("" : Str),bs)]=C at *
 refine forL_run (fun i u st'=>st'=st∧∃(os:Ctab) (x3 x4 x5 x6 x7 x8 x9 x10:Option W),okTab os∧os.map (·.1)=(C.take i).map (·.1)∧(C.drop i).foldlM lawStep os=R∧
  u=[some w,some (.val (tupS bs)),some (.bod (keysT os) (os.map fun c=>lstS c.2)),x3,x4,x5,x6,x7,x8,x9,x10]) ⟨rfl,[],_,_,_,_,_,_,_,_,(fun c h=>by cases h),rfl,hR,rfl⟩ ?_ ?_
 ·rintro i d u st' hd ⟨rfl,os,x3,x4,x5,x6,x7,x8,x9,x10,hO,hK,hM,rfl⟩
  obtain⟨c,hc,rfl⟩:=get_map hd
  obtain⟨n,bb⟩:=c
  obtain⟨okn,okb,lb⟩:=ok1 _ (List.mem_of_getElem? hc)
  dsimp only at okn okb lb
  have hi:i<C.length:=(List.getElem?_eq_some_iff.mp hc).1
  have inb:∀b∈bb,b∈os.map (·.1):=fun b hb=>by
   rw[hK,←hC,List.take_append_of_le_length (by rw[←hC] at hi;simp at hi;omega)]
   exact hin i _ hc b hb
  refine⟨_,rfl,?_⟩
  simp[pairD,tupS]
  refine lcA_run (xs:=bb) D.str (fun b=>lstS (look os b)) (by omega) (fun b hb=>⟨_,rfl,?_⟩) ?_
  ·simp
   rw[atK_tab lstS b os,M3lookup_some (inb b hb)]
   simp
  simp
  rw[if_pos (by omega)]
  have e1:bb.map (fun b=>lstS (look os b))++[D.lst (bb.map .str)]=(left0 os bb).map lstS:=by simp[left0,lstS]
  rw[e1]
  have sm:Small (left0 os bb,[n]) 1:=⟨by simp[left0];omega,fun o ho=>by
   rcases List.mem_append.mp ho with k | k
   ·obtain⟨b,hb,rfl⟩:=List.mem_map.mp k
    have:=look_ok hO b
    exact⟨by omega,this.2⟩
   ·rw[List.mem_singleton.mp k];exact⟨by omega,okb⟩,by simp,fun w hw=>by rw[List.mem_singleton.mp hw];exact okn⟩
  refine forL_run (fun j u st2=>st2=st'∧∃(x6 x7 x8 x9 x10:Option W),
   u=[some w,some (.val (.tup (bs.map .str))),some (.bod (keysT os) (os.map fun c=>lstS c.2)),some (.val (.tup [.str n,.tup (bb.map .str)])),some (.val (.lst ((turnsN j (left0 os bb,[n])).1.map lstS))),some (.val (lstS (turnsN j (left0 os bb,[n])).2)),x6,x7,x8,x9,x10])
   ⟨rfl,_,_,_,_,_,rfl⟩ ?_ ?_
  ·rintro j d u st2 hd2 ⟨rfl,y6,y7,y8,y9,y10,rfl⟩
   obtain⟨rfl,hj⟩:=range_get hd2
   refine⟨_,rfl,?_⟩
   have sj:=small_turns sm j
   rw[turnsN_succ]
   generalize turnsN j (left0 os bb,[n])=p at sj⊢
   obtain⟨l,m⟩:=p
   have hl2:=sj.n
   have hm2:=sj.m
   dsimp only at hl2 hm2
   simp
   refine lcM_run lstS (fun o=>!o.isEmpty) (fun o=>.str (hd0 o)) (by omega) (fun o ho=>⟨_,rfl,?_,fun ne=>?_⟩) ?_
   ·simp[lstS]
    cases o <;> simp
   ·obtain⟨a,o,rfl⟩:∃a q,o=a :: q:=by
     cases o with
     | nil=>cases ne
     | cons a q=>exact⟨a,q,rfl⟩
    simp[lstS,atI_int,hd0]
   simp
   have okh:∀o∈nonempty l,Ok (hd0 o):=fun o ho=>hd0_ok (sj.o o (List.mem_filter.mp ho).1).2 (full_nonempty l o ho)
   have hN:(l.filter fun o=>!o.isEmpty)=nonempty l:=rfl
   rw[hN]
   have ln:(nonempty l).length≤l.length:=List.length_filter_le _ _
   refine lcM_run (xs:=nonempty l) (fun o=>.str (hd0 o)) (fun o=>freeB l (hd0 o)) (fun o=>.str (hd0 o)) (by omega) (fun o ho=>⟨_,rfl,?_,fun _=>?_⟩) ?_
   ·simp
    refine lcA_run lstS (fun q=>.bl (decide (hd0 o∈q.tail))) (by omega) (fun q hq=>⟨_,rfl,?_⟩) ?_
    ·simp[lstS]
     rw[cutD_map,cut1]
     exact inF_lst false (okh o ho) (oks_tail (sj.o q hq).2)▸rfl
    ·simp[freeB]
   ·simp
   simp
   have hf:(nonempty l).filter (fun o=>freeB l (hd0 o))=(nonempty l).filter (freeB l∘hd0):=rfl
   have fr:((nonempty l).filter (fun o=>freeB l (hd0 o))).map (fun o=>D.str (hd0 o))=(frees l).map .str:=by
    rw[frees_nonempty l,frees_full (full_nonempty l),List.filter_map,List.map_map]
    have e2:freeB (nonempty l)=freeB l:=by
     funext n
     unfold freeB nonempty
     rw[List.any_filter]
     congr 2
     funext q
     cases q <;> simp
    rw[e2]
    rfl
   rw[fr,show (1:Int)=((1:Nat):Int) from rfl,cutT,←List.map_take]
   have z1:m.length+((frees l).take 1).length≤1000000:=by
    have:=List.length_take_le 1 (frees l)
    omega
   have okm:Oks (turn1 (l,m)).2:=(small_turn sj).m.2
   have e5:(lstS m,D.lst (((frees l).take 1).map .str))=(D.lst (m.map .str),D.lst (((frees l).take 1).map .str)):=rfl
   rw[lstS,addF_lst,if_pos (by simpa using z1),←List.map_append,run_of_some,kSet_ok]
   have e6:m++(frees l).take 1=(turn1 (l,m)).2:=rfl
   rw[e6]
   simp
   refine lcA_run (xs:=l) lstS (fun o=>lstS (o.filter fun w=>!decide (w∈(turn1 (l,m)).2))) (by omega) (fun o ho=>⟨_,rfl,?_⟩) ?_
   ·simp[lstS]
    have:=(sj.o o ho).1
    refine lc_strs (ws:=o) (fun w=>!decide (w∈(turn1 (l,m)).2)) .str (by omega) (fun w hw=>⟨_,rfl,?_,fun _=>by simp⟩) ?_
    ·simp
     rw[inF_lst true ((sj.o o ho).2 w hw) okm]
     simp
    ·simp
   simp
   exact⟨by simp[turn1,lstS],by simp[lstS]⟩
  ·rintro u st2 ⟨rfl,y6,y7,y8,y9,y10,rfl⟩
   rw[rangeD_length]
   have s3:=small_turns sm 3
   have hM':lawStep os (n,bb) >>= (fun os'=>(C.drop (i+1)).foldlM lawStep os')=R:=by
    rw[←hM,List.drop_eq_getElem_cons hi,show C[i]=(n,bb) from by rw[List.getElem?_eq_getElem hi] at hc;exact Option.some.inj hc]
    rfl
   have sn:=s3.n
   have smm:=s3.m
   simp
   refine lcA_run lstS (fun o=>.bl (!o.isEmpty)) (by omega) (fun o ho=>⟨_,rfl,?_⟩) ?_
   ·simp[lstS]
    cases o <;> simp
   simp
   unfold lawStep at hM'
   dsimp only at hM'
   generalize turnsN 3 (left0 os bb,[n])=p at *
   have hx:(∃x,x∈p.1∧¬x=[])↔(p.1.any fun o=>!o.isEmpty)=true:=by
    rw[List.any_eq_true]
    exact⟨fun ⟨x,h1,h2⟩=>⟨x,h1,by cases x <;> simp at h2⊢⟩,fun ⟨x,h1,h2⟩=>⟨x,h1,by rintro rfl;simp at h2⟩⟩
   by_cases hb:(p.1.any fun o=>!o.isEmpty)=true
   ·rw[if_pos hb] at hM'
    have:R=none:=hM'.symm
    subst this
    rw[if_pos (hx.mpr hb)]
   ·rw[if_neg hb] at hM'
    rw[if_neg (fun q=>hb (hx.mp q)),run_sSetK 2 _ _ rfl]
    have fresh:n∉os.map (·.1):=by
     rw[hK]
     intro hm
     have nd:=hn
     have e:(C.map (·.1)).take i++n :: (C.map (·.1)).drop (i+1)=C.map (·.1):=by
      have hi2:i<(C.map (·.1)).length:=by simpa using hi
      have e1:(C.map (·.1))[i]=n:=by
       rw[List.getElem_map]
       rw[List.getElem?_eq_getElem hi] at hc
       rw[Option.some.inj hc]
      rw[←e1,←List.drop_eq_getElem_cons hi2,List.take_append_drop]
     rw[←e,List.nodup_append] at nd
     rw[List.map_take] at hm
     exact nd.2.2 n hm n List.mem_cons_self rfl
    have lo:os.length=i:=by
     have:=congrArg List.length hK
     simp at this;omega
    have hp2:=putK3_tab lstS n p.2 os fresh
    have kl:(keysT os).length<1000000:=by
     unfold keysT
     rw[List.length_map,lo]
     have:=congrArg List.length hC
     simp at this;omega
    simp[kl,hp2]
    refine⟨os++[(n,p.2)],?_,?_,hM',rfl,by simp⟩
    ·intro c hcm
     rcases List.mem_append.mp hcm with k | k
     ·exact hO c k
     ·rw[List.mem_singleton.mp k];exact smm
    ·rw[List.map_append,hK,List.take_add_one,List.getElem?_map,hc,List.map_take];rfl
 ·rintro u st' ⟨rfl,os,x3,x4,x5,x6,x7,x8,x9,x10,hO,hK,hM,rfl⟩
  rw[List.length_map,List.drop_length] at hM
  have:R=some os:=hM.symm
  subst this
  have hmem:("" : Str)∈os.map (·.1):=by
   rw[hK,List.length_map,List.take_length,←hC];simp
  have hg:=atK_tab lstS "" os
  rw[M3lookup_some hmem] at hg
  rw[kSeq_nx,run_sRetV,run_eSlA,run_eBin,run_eVar]
  simp only[List.getElem?_cons_succ,List.getElem?_cons_zero,kVar_some,kBind_ok,run_bind,run_eC,dgF_bod,hg,Option.map_some,run_of_some]
  simp[lstS]
  rw[cutD_map,cut1]
  simp
end My
namespace My
open PySem L2 M3
theorem mem_rm {n w:Str} {o:List Str}:w∈rm n o↔w∈o∧w≠n:=by unfold rm;simp
theorem mem_without {n w:Str} {ls:Ords}:(∃o∈without n ls,w∈o)↔(∃o∈ls,w∈o)∧w≠n:=by
 constructor
 ·rintro⟨o,ho,hw⟩
  obtain⟨h1,_⟩:=List.mem_filter.mp ho
  obtain⟨q,hq,rfl⟩:=List.mem_map.mp h1
  exact⟨⟨q,hq,(mem_rm.mp hw).1⟩,(mem_rm.mp hw).2⟩
 ·rintro⟨⟨q,hq,hw⟩,ne⟩
  have hm:=mem_rm.mpr ⟨hw,ne⟩
  refine⟨rm n q,List.mem_filter.mpr ⟨List.mem_map.mpr ⟨q,hq,rfl⟩,?_⟩,hm⟩
  cases e:rm n q with
  | nil=>rw[e] at hm;cases hm
  | cons a l=>rfl
theorem mergeG_some:∀(k:Nat) (ls:Ords) (acc r:List Str),size ls≤k→Full ls→mergeG ls acc=some r→∃t,r=acc++t∧t.Nodup∧∀w,w∈t↔∃o∈ls,w∈o
 | k,[],acc,r,_,_,h=>by
  rw[mergeG_nil] at h
  cases h
  exact⟨[],by simp,List.nodup_nil,by simp⟩
 | 0,o :: ls,acc,r,hk,hf,_=>by
  have:=full_empty hf (Nat.le_zero.mp hk)
  cases this
 | k+1,o :: ls,acc,r,hk,hf,h=>by
  rw[mergeG_step hf (by simp)] at h
  cases e:(frees (o :: ls)).head? with
  | none=>rw[e] at h;cases h
  | some n=>
   rw[e] at h
   obtain⟨t,e1,nd,hm⟩:=mergeG_some k (without n (o :: ls)) (acc++[n]) r (by have:=size_without (frees_mem (List.mem_of_head? e));omega) full_without h
   refine⟨n :: t,by rw[e1];simp,List.nodup_cons.mpr ⟨fun q=>((mem_without.mp ((hm n).mp q)).2) rfl,nd⟩,fun w=>?_⟩
   rw[List.mem_cons,hm,mem_without]
   by_cases q:w=n
   ·subst q
    exact⟨fun _=>frees_mem (List.mem_of_head? e),fun _=>.inl rfl⟩
   ·exact⟨fun z=>z.elim (fun y=>absurd y q) fun y=>y.1,fun z=>.inr ⟨z,q⟩⟩
theorem mem_nonempty {w:Str} {ls:Ords}:(∃o∈nonempty ls,w∈o)↔∃o∈ls,w∈o:=by
 constructor
 ·rintro⟨o,ho,hw⟩;exact⟨o,(List.mem_filter.mp ho).1,hw⟩
 ·rintro⟨o,ho,hw⟩
  exact⟨o,List.mem_filter.mpr ⟨ho,by cases o with | nil=>cases hw | cons a l=>rfl⟩,hw⟩
theorem merge_some {ls:Ords} {r:List Str} (h:mergeG (nonempty ls) []=some r):r.Nodup∧∀w,w∈r↔∃o∈ls,w∈o:=by
 obtain⟨t,e,nd,hm⟩:=mergeG_some _ _ _ _ (Nat.le_refl _) (full_nonempty ls) h
 rw[List.nil_append] at e
 subst e
 exact⟨nd,fun w=>(hm w).trans mem_nonempty⟩
abbrev keysS (os:Ctab):List Str:=os.map (·.1)
structure Tab (os:Ctab):Prop where
 el:∀c∈os,(∀w∈c.2,w∈keysS os)∧c.2.Nodup∧c.2.head?=some c.1
 nd:(keysS os).Nodup
theorem nodup_len {l m:List Str} (h:l.Nodup) (hs:∀w∈l,w∈m):l.length≤m.length:=by
 induction l generalizing m with
 | nil=>simp
 | cons a l ih=>
  obtain⟨h1,h2⟩:=List.nodup_cons.mp h
  have ha:=hs a List.mem_cons_self
  have:=ih h2 (m:=m.erase a) (fun w hw=>(List.mem_erase_of_ne (fun e:w=a=>h1 (by rw[←e];exact hw))).mpr (hs w (List.mem_cons_of_mem _ hw)))
  rw[List.length_erase_of_mem ha] at this
  have:=List.length_pos_of_mem ha
  simp;omega
theorem look_mem {os:Ctab} {n:Str} (h:n∈keysS os):(n,look os n)∈os:=lookT_mem (M3lookup_some h)
theorem Tab.look {os:Ctab} (t:Tab os) (n:Str):∀w∈look os n,w∈keysS os:=fun w hw=>by
 by_cases h:n∈keysS os
 ·exact(t.el _ (look_mem h)).1 w hw
 ·unfold My.look at hw
  have:os.lookup n=none:=by
   cases e:os.lookup n with
   | none=>rfl
   | some o=>exact absurd (List.mem_map.mpr ⟨(n,o),lookT_mem e,rfl⟩) h
  rw[this] at hw;cases hw
theorem Tab.left {os:Ctab} (t:Tab os) {bs:List Str} (hb:∀b∈bs,b∈keysS os):∀o∈left0 os bs,∀w∈o,w∈keysS os:=fun o ho w hw=>by
 rcases List.mem_append.mp ho with k | k
 ·obtain⟨b,hb',rfl⟩:=List.mem_map.mp k
  exact t.look b w hw
 ·rw[List.mem_singleton.mp k] at hw;exact hb w hw
theorem Tab.okTab {os:Ctab} (t:Tab os) (hl:os.length≤4) (ok:Oks (keysS os)):okTab os:=fun c hc=>by
 obtain⟨h1,h2,_⟩:=t.el c hc
 refine⟨?_,fun w hw=>ok w (h1 w hw)⟩
 have:=nodup_len h2 h1
 simp[keysS] at this
 omega
theorem Tab.step {os os':Ctab} {c:Str×List Str} (t:Tab os) (hf:c.1∉keysS os) (hb:∀b∈c.2,b∈keysS os) (h:ordStep os c=some os'):Tab os'∧keysS os'=keysS os++[c.1]∧∃m,os'=os++[(c.1,c.1 :: m)]:=by
 unfold ordStep at h
 obtain⟨m,hm,rfl⟩:=Option.map_eq_some_iff.mp h
 obtain⟨nd,el⟩:=merge_some hm
 have inm:∀w∈m,w∈keysS os:=fun w hw=>by
  obtain⟨o,ho,hw'⟩:=(el w).mp hw
  exact t.left hb o ho w hw'
 refine⟨⟨fun d hd=>?_,?_⟩,by simp[keysS],m,rfl⟩
 ·rcases List.mem_append.mp hd with k | k
  ·obtain⟨h1,h2,h3⟩:=t.el d k
   exact⟨fun w hw=>by simp only[keysS,List.map_append];exact List.mem_append_left _ (h1 w hw),h2,h3⟩
  ·rw[List.mem_singleton.mp k]
   refine⟨fun w hw=>?_,List.nodup_cons.mpr ⟨fun q=>hf (inm _ q),nd⟩,rfl⟩
   simp only[keysS,List.map_append]
   rcases List.mem_cons.mp hw with q | q
   ·subst q;exact List.mem_append_right _ (by simp)
   ·exact List.mem_append_left _ (inm w q)
 ·simp only[keysS,List.map_append]
  rw[List.nodup_append]
  exact⟨t.nd,by simp,fun a ha b hb e=>by simp at hb;subst hb;subst e;exact hf ha⟩
def Follows (ks:List Str):Ctab→Prop
 | []=>True
 | c :: cs=>c.1∉ks∧(∀b∈c.2,b∈ks)∧Follows (ks++[c.1]) cs
theorem fold_eq:∀(cs os:Ctab),Tab os→Follows (keysS os) cs→os.length+cs.length≤4→cs.foldlM lawStep os=cs.foldlM ordStep os
 | [],os,_,_,_=>rfl
 | c :: cs,os,t,⟨h1,h2,h3⟩,hl=>by
  rw[List.foldlM_cons,List.foldlM_cons,step_eq (keysS os) (by simp at hl⊢;omega) (fun o ho w hw=>⟨t.left h2 o ho w hw,fun e=>h1 (e▸t.left h2 o ho w hw)⟩)]
  cases e:ordStep os c with
  | none=>rfl
  | some os'=>
   obtain⟨t',k',m,em⟩:=t.step h1 h2 e
   exact fold_eq cs os' t' (by rw[k'];exact h3) (by rw[em];simp at hl⊢;omega)
theorem fold_tab:∀(cs os os':Ctab),Tab os→Follows (keysS os) cs→cs.foldlM ordStep os=some os'→Tab os'∧keysS os'=keysS os++keysS cs
 | [],os,os',t,_,h=>by cases h;exact⟨t,by simp⟩
 | c :: cs,os,os',t,⟨h1,h2,h3⟩,h=>by
  rw[List.foldlM_cons] at h
  cases e:ordStep os c with
  | none=>rw[e] at h;cases h
  | some os1=>
   rw[e] at h
   obtain⟨t',k',m,em⟩:=t.step h1 h2 e
   obtain⟨a,b⟩:=fold_tab cs os1 os' t' (by rw[k'];exact h3) h
   exact⟨a,by rw[b,k'];simp[keysS]⟩
theorem Tab.nil:Tab []:=⟨fun c h=>(by cases h),List.nodup_nil⟩
theorem follows_append {ks:List Str}:∀{cs:Ctab} {d:Ctab},Follows ks (cs++d)↔Follows ks cs∧Follows (ks++keysS cs) d
 | [],d=>by simp[Follows,keysS]
 | c :: cs,d=>by
  simp only[List.cons_append,Follows,follows_append (cs:=cs),keysS,List.map_cons]
  rw[show ks++c.1 :: cs.map (·.1)=ks++[c.1]++cs.map (·.1) by simp]
  constructor
  ·rintro⟨a,b,c,d⟩;exact⟨⟨a,b,c⟩,d⟩
  ·rintro⟨⟨a,b,c⟩,d⟩;exact⟨a,b,c,d⟩
theorem follows_at {cs:Ctab}:∀{ks:List Str} {i:Nat} {c:Str×List Str},Follows ks cs→cs[i]?=some c→c.1∉ks++keysS (cs.take i)∧∀b∈c.2,b∈ks++keysS (cs.take i):=by
 induction cs with
 | nil=>intro ks i c _ h;simp at h
 | cons d cs ih=>
  intro ks i c ⟨h1,h2,h3⟩ h
  cases i with
  | zero=>simp at h;subst h;simpa[keysS] using ⟨h1,h2⟩
  | succ i=>
   have:=ih h3 (by simpa using h)
   simpa[keysS] using this
theorem follows_nodup:∀{cs:Ctab} {ks:List Str},ks.Nodup→Follows ks cs→(ks++keysS cs).Nodup
 | [],ks,h,_=>by simpa[keysS] using h
 | c :: cs,ks,h,⟨h1,h2,h3⟩=>by
  have:=follows_nodup (cs:=cs) (ks:=ks++[c.1]) (by rw[List.nodup_append];exact⟨h,by simp,fun a ha b hb e=>by simp at hb;subst hb;subst e;exact h1 ha⟩) h3
  simpa[keysS] using this
structure Cls3 (cs:Ctab):Prop where
 fo:Follows [] cs
 len:cs.length≤3
 nm:∀n∈keysS cs,IsNm n
 bnd:∀c∈cs,c.2.Nodup
 ord:∃os,cs.foldlM ordStep []=some os
theorem nm_ne {n:Str} (h:IsNm n):n≠"":=by
 rintro rfl
 have:=h.1
 revert this
 decide +kernel
theorem ok_empty:Ok ("" : Str):=by decide +kernel
theorem Cls3.okk {cs:Ctab} (h:Cls3 cs):Oks (keysS cs):=fun w hw=>okN (h.nm w hw)
theorem Cls3.bases {cs:Ctab} (h:Cls3 cs) {c:Str×List Str} (hc:c∈cs):∀b∈c.2,b∈keysS cs:=fun b hb=>by
 obtain⟨i,hi⟩:=List.mem_iff_getElem?.mp hc
 have:=(follows_at h.fo hi).2 b hb
 rw[List.nil_append] at this
 obtain⟨d,hd,e⟩:=List.mem_map.mp this
 exact List.mem_map.mpr ⟨d,List.mem_of_mem_take hd,e⟩
theorem Cls3.blen {cs:Ctab} (h:Cls3 cs) {c:Str×List Str} (hc:c∈cs):c.2.length≤3:=by
 have:=nodup_len (h.bnd c hc) (h.bases hc)
 have:=h.len
 simp[keysS] at this⊢
 simp[keysS] at *
 omega
theorem ordered_cls {cs:Ctab} {w:W} (hw:lstCF [w]=some (cs.map pairD)) (h:Cls3 cs) {bs:List Str} (hb:∀b∈bs,b∈keysS cs) (hl:bs.length≤100) (st:Store):∃os,cs.foldlM ordStep []=some os∧Tab os∧keysS os=keysS cs∧
  mf_w_ordered [w,.val (tupS bs)] st=match mergeG (nonempty (left0 os bs)) [] with | some r=>.ok (lstS r) st | none=>.ok .non st:=by
 obtain⟨os,ho⟩:=h.ord
 obtain⟨t,k⟩:=fold_tab cs [] os Tab.nil h.fo ho
 have k':keysS os=keysS cs:=by simpa[keysS] using k
 refine⟨os,ho,t,k',?_⟩
 have ne:("" : Str)∉keysS cs:=fun q=>nm_ne (h.nm _ q) rfl
 have fo2:Follows [] (cs++[(("" : Str),bs)]):=follows_append.mpr ⟨h.fo,by simpa using ne,by simpa using hb,trivial⟩
 have sp:=ordered_spec cs bs hw (by have:=follows_nodup List.nodup_nil fo2;simpa[keysS] using this) (fun c hc=>by
  rcases List.mem_append.mp hc with q | q
  ·exact⟨h.okk _ (List.mem_map.mpr ⟨c,q,rfl⟩),fun b hb=>h.okk b (h.bases q b hb),by have:=h.blen q;omega⟩
  ·rw[List.mem_singleton.mp q];exact⟨ok_empty,fun b hb'=>h.okk b (hb b hb'),hl⟩) (fun i c hc b hb'=>by
   have:=(follows_at fo2 hc).2 b hb'
   rw[List.nil_append] at this
   by_cases hi:i≤cs.length
   ·rw[List.take_append_of_le_length hi] at this;exact this
   ·have:=(List.getElem?_eq_some_iff.mp hc).1
    simp at this
    omega) (by have:=h.len;omega) st
 rw[sp,fold_eq _ [] Tab.nil fo2 (by have:=h.len;simp;omega),List.foldlM_append,ho]
 show (match (ordStep os ("",bs) >>= fun o=>some o) with | some os=>_ | none=>_)=_
 unfold ordStep
 dsimp only
 cases e:mergeG (nonempty (left0 os bs)) [] with
 | none=>rfl
 | some m=>
  show Res.ok (lstS (look (os++[(("" : Str),("" : Str) :: m)]) "").tail) st=_
  have:look (os++[(("" : Str),("" : Str) :: m)]) "" = ("" : Str) :: m:=by
   unfold look
   rw[List.lookup_append]
   have e2:os.lookup ("" : Str)=none:=by
    cases q:os.lookup ("" : Str) with
    | none=>rfl
    | some o=>exact absurd (k'▸List.mem_map.mpr ⟨_,lookT_mem q,rfl⟩) ne
   rw[e2]
   simp
  rw[this]
  rfl
end My
namespace My
open PySem L2 M3
def classTail:SM:=(sSeq (sSet 5 (eBin ixF (eVar 4) (eBin modF (eB intCF (aCons (eBin ixF (eVar 0) (eVar 3)) aNil)) (eB lenF (aCons (eVar 4) aNil)))))
 (sSeq (sIf (tOf (eBin (isNF false) (eLend 2 (eCallW 2 mf_w_ordered (aCons (eVar 2) (aCons (eVar 5) aNil)))) (eC .non))) (sSet 5 (eTup aNil)) sNext)
 (sApp 2 (eTup (aCons (eBin ixF (eVar 1) (eVar 3)) (aCons (eVar 5) aNil))))))
theorem cls_snoc {cs:Ctab} (hC:Cls3 cs) {n:Str} {bs:List Str} (hn:IsNm n) (hf:n∉keysS cs) (hb:∀b∈bs,b∈keysS cs) (nd:bs.Nodup) (hl:cs.length≤2)
  (ho:∀os,cs.foldlM ordStep []=some os→∃m,mergeG (nonempty (left0 os bs)) []=some m):Cls3 (cs++[(n,bs)]):=by
 refine⟨follows_append.mpr ⟨hC.fo,by simpa using hf,by simpa using hb,trivial⟩,by simp;omega,fun w hw=>?_,fun c hc=>?_,?_⟩
 ·simp only[keysS,List.map_append] at hw
  rcases List.mem_append.mp hw with k | k
  ·exact hC.nm w k
  ·simp at k;rw[k];exact hn
 ·rcases List.mem_append.mp hc with k | k
  ·exact hC.bnd c k
  ·rw[List.mem_singleton.mp k];exact nd
 ·obtain⟨os,e⟩:=hC.ord
  obtain⟨m,em⟩:=ho os e
  refine⟨os++[(n,n :: m)],?_⟩
  rw[List.foldlM_append,e]
  show (ordStep os (n,bs) >>= fun o=>some o)=_
  unfold ordStep
  dsimp only
  rw[em];rfl
set_option maxHeartbeats 8000000 in
theorem class_tail (ds:List Int) (names:List Str) (cs:Ctab) (menu:Ords) (i:Nat) (x5 x6:Option W) (st:Store) (k:SRes→Prop) (hC:Cls3 cs) (hK:keysS cs=names.take i) (hi:i<names.length) (hd:∀d∈ds,0≤d∧d<5040) (hl:names.length≤ds.length)
  (hn:names.Nodup) (hm:∀n∈names,IsNm n) (h3:names.length≤3) (mne:menu≠[]) (mlen:menu.length≤10) (mb:∀bs∈menu,bs.Nodup∧∀b∈bs,b∈names.take i)
  (hk:∀(cs':Ctab) (y5:Option W),Cls3 cs'→keysS cs'=names.take (i+1)→k (.nx [some (.val (.lst (ds.map .int))),some (.val (.lst (names.map .str))),some (.bor (cs'.map pairD)),some (.val (.int (i:Int))),some (.val (.lst (menu.map tupS))),y5,x6] st)) :
  srun (classTail [some (.val (.lst (ds.map .int))),some (.val (.lst (names.map .str))),some (.bor (cs.map pairD)),some (.val (.int (i:Int))),some (.val (.lst (menu.map tupS))),x5,x6] st) k:=by
 have pos:0<menu.length:=List.length_pos_iff.mpr mne
 have hid:i<ds.length:=by omega
 have hdi:=hd ds[i] (List.getElem_mem hid)
 have hq:(ds[i] % (menu.length:Int)).toNat<menu.length:=by
  have:=Int.emod_lt_of_pos ds[i] (b:=(menu.length:Int)) (by omega)
  have:=Int.emod_nonneg ds[i] (b:=(menu.length:Int)) (by omega)
  omega
 have h0:0≤ds[i] % (menu.length:Int):=Int.emod_nonneg ds[i] (by omega)
 obtain⟨bs,hbs⟩:∃bs,menu[(ds[i] % (menu.length:Int)).toNat]?=some bs:=⟨_,List.getElem?_eq_getElem hq⟩
 obtain⟨nd,sub⟩:=mb bs (List.mem_of_getElem? hbs)
 have subK:∀b∈bs,b∈keysS cs:=by rw[hK];exact sub
 have lcs:cs.length=i:=by
  have:=congrArg List.length hK
  simp[keysS] at this;omega
 have lb:bs.length≤100:=by have:=nodup_len nd subK;simp[keysS] at this;omega
 have nfresh:names[i]∉keysS cs:=by
  rw[hK]
  intro q
  have e:names.take i++names[i] :: names.drop (i+1)=names:=by rw[←List.drop_eq_getElem_cons hi,List.take_append_drop]
  rw[←e,List.nodup_append] at hn
  exact hn.2.2 _ q _ List.mem_cons_self rfl
 obtain⟨os,ho,ht,hk',sp⟩:=ordered_cls (w:=.len (cs.map pairD)) rfl hC subK lb st
 have key':∀bs',keysS (cs++[(names[i],bs')])=names.take (i+1):=fun bs'=>by
  simp only[keysS,List.map_append,List.map_cons,List.map_nil]
  rw[List.take_add_one,List.getElem?_eq_getElem hi,←hK];rfl
 unfold classTail
 simp[atN,hid,pos,atI_int _ h0,hbs]
 rw[run_eLend 2 rfl]
 simp[sp]
 cases e:mergeG (nonempty (left0 os bs)) [] with
 | none=>
  simp[e,hi,isNF,atN,show cs.length<1000000 by omega]
  have:=hk (cs++[(names[i],[])]) (some (.val (.tup []))) (cls_snoc hC (hm _ (List.getElem_mem hi)) nfresh (fun b h=>by cases h) List.nodup_nil (by omega) fun os' e'=>⟨[],rfl⟩) (key' [])
  simpa[pairD,tupS] using this
 | some m=>
  simp[e,hi,isNF,lstS,atN,show cs.length<1000000 by omega]
  have:=hk (cs++[(names[i],bs)]) (some (.val (tupS bs))) (cls_snoc hC (hm _ (List.getElem_mem hi)) nfresh subK nd (by omega) fun os' e'=>by rw[ho] at e';cases e';exact⟨m,e⟩) (key' bs)
  simpa[pairD,tupS] using this
set_option maxHeartbeats 8000000 in
theorem class_list_spec (ds:List Int) (names:List Str) (hd:∀d∈ds,0≤d∧d<5040) (hl:names.length≤ds.length) (hn:names.Nodup) (hm:∀n∈names,IsNm n) (h3:names.length≤3) (st:Store) :
  ∃cs,mf_w_class_list [.lst (ds.map .int),.lst (names.map .str)] st=.ok (.lst (cs.map pairD)) st∧Cls3 cs∧keysS cs=names:=by
 suffices h:M3.run (mf_w_class_list [.lst (ds.map .int),.lst (names.map .str)] st) (fun r=>∃cs,r=.ok (.lst (cs.map pairD)) st∧Cls3 cs∧keysS cs=names) by
  obtain⟨cs,e,h⟩:=h
  exact⟨cs,e,h⟩
 rw[mf_w_class_list,run_mfn]
 simp only[mb_w_class_list]
 rw[←classTail.eq_1]
 simp
 have r1 : -1000000≤(names.length:Int)∧(names.length:Int)≤1000000:=by omega
 simp[r1]
 refine forL_run (fun i u st'=>st'=st∧∃(cs:Ctab) (x3 x4 x5 x6:Option W),Cls3 cs∧keysS cs=names.take i∧u=[some (.val (.lst (ds.map .int))),some (.val (.lst (names.map .str))),some (.bor (cs.map pairD)),x3,x4,x5,x6])
  ⟨rfl,[],_,_,_,_,⟨trivial,by simp,by simp[keysS],by simp,⟨[],rfl⟩⟩,rfl,rfl⟩ ?_ ?_
 ·rintro i d u st' hdd ⟨rfl,cs,x3,x4,x5,x6,hC,hK,rfl⟩
  obtain⟨rfl,hi⟩:=range_get hdd
  refine⟨_,rfl,?_⟩
  have lcs:cs.length=i:=by
   have:=congrArg List.length hK
   simp[keysS] at this;omega
  simp
  rw[cutD_map,cutT]
  refine lcA_run (xs:=names.take i) D.str (fun n=>tupS [n]) (by simp;omega) (fun n hn'=>⟨_,rfl,?_⟩) ?_
  ·simp[tupS]
  simp
  refine⟨by omega,?_⟩
  rw[eqF_int]
  have fin:∀(md:List D) (menu:Ords),md=menu.map tupS→menu≠[]→menu.length≤10→(∀bs∈menu,bs.Nodup∧∀b∈bs,b∈names.take i)→
    srun (classTail [some (.val (.lst (ds.map .int))),some (.val (.lst (names.map .str))),some (.bor (cs.map pairD)),some (.val (.int (i:Int))),some (.val (.lst md)),x5,x6] st')
     (kTurn (fun u st'_1=>st'_1=st'∧∃(cs:Ctab),Cls3 cs∧keysS cs=names.take (i+1)∧∃(x3 x4 x5 x6:Option W),u=[some (.val (.lst (ds.map .int))),some (.val (.lst (names.map .str))),some (.bor (cs.map pairD)),x3,x4,x5,x6])
      (kSeq (sRetO 2) (kRet fun r=>∃cs,r=Res.ok (D.lst (List.map pairD cs)) st'∧Cls3 cs∧keysS cs=names))):=by
   intro md menu e a b c
   rw[e]
   refine class_tail ds names cs menu i x5 x6 st' _ hC hK hi hd hl hn hm h3 a b c fun cs' y5 h1 h2=>?_
   simp
   exact⟨cs',h1,h2,rfl⟩
  have one_:∀bs∈([] :: (names.take i).map fun n=>[n]:Ords),bs.Nodup∧∀b∈bs,b∈names.take i:=fun bs hb=>by
   rcases List.mem_cons.mp hb with e | hb
   ·subst e;exact⟨List.nodup_nil,fun b h=>by cases h⟩
   obtain⟨n,h1,rfl⟩:=List.mem_map.mp hb
   exact⟨by simp,fun b h=>by rw[List.mem_singleton.mp h];exact h1⟩
  by_cases h2:i=2
  ·subst h2
   obtain⟨a,b,r,en⟩:∃a b r,names=a :: b :: r:=by
    match names,hi with
    | a :: b :: r,_=>exact⟨a,b,r,rfl⟩
   have ab:a≠b:=fun e=>by rw[en,e] at hn;simp at hn
   have e0:atI (names.map D.str) 0=some (.str a):=by rw[en];simp only[atI_l0];rfl
   have e1:atI (names.map D.str) 1=some (.str b):=by rw[en];simp only[atI_l1];rfl
   simp[e0,e1]
   refine⟨by omega,fin _ ([] :: (((names.take 2).map fun n=>[n])++[[a,b],[b,a]])) ?_ (by simp) (by simp;omega) (fun bs hb=>?_)⟩
   ·simp[en,tupS]
   rw[←List.cons_append] at hb
   rcases List.mem_append.mp hb with k | k
   ·exact one_ bs k
   ·rw[en]
    simp at k
    rcases k with rfl | rfl
    ·exact⟨by simp[ab],fun w hw=>by simpa using hw⟩
    ·exact⟨by simp[ab.symm],fun w hw=>by simp at hw⊢;exact hw.symm⟩
  ·have h2':¬((i:Int)=2):=by omega
   simp[h2']
   exact fin _ ([] :: (names.take i).map fun n=>[n]) (by simp[tupS,Function.comp_def]) (by simp) (by simp;omega) one_
 ·rintro u st' ⟨rfl,cs,x3,x4,x5,x6,hC,hK,rfl⟩
  rw[rangeD_length] at hK
  simp
  exact⟨cs,rfl,hC,by simpa using hK⟩
end My
namespace My
open PySem L2 M3
@[simp] theorem run_eLenSet {m:EM} {u:Sl3} {st:Store} {kw}:run (eLenSet m u st) kw=run (m u st) (kBind (fun w=>M.of (lenSetF w)) kw):=run_bind _ _
theorem newTexts_nodup:∀(xs acc:List Str),xs.Nodup→(∀x∈xs,x∉acc)→newTexts acc xs=xs.length
 | [],_,_,_=>rfl
 | x :: xs,acc,h,hn=>by
  rw[List.nodup_cons] at h
  unfold newTexts
  rw[if_neg (hn x List.mem_cons_self),newTexts_nodup xs _ h.2 fun y hy q=>?_]
  ·simp;omega
  ·rcases List.mem_append.mp q with k | k
   ·exact hn y (List.mem_cons_of_mem _ hy) k
   ·rw[List.mem_singleton.mp k] at hy;exact h.1 hy
theorem size_len (x:Str):x.cps.toList.length=x.length:=by show x.cps.toList.length=x.cps.size;simp
theorem mem_letters {c:Nat} (h:97≤c∧c≤122):c∈letters:=by
 unfold letters
 exact List.mem_map.mpr ⟨c - 97,by simp;omega,by omega⟩
theorem is_word_spec {n:Str} (h:IsNm n) (st:Store):mf_is_word [.str n] st=.ok (.bl true) st:=by
 apply of_run
 obtain⟨h1,h2,h3⟩:=h
 rw[mf_is_word,run_mfn]
 simp only[mb_is_word,letters_eq]
 simp[show (1:Int)≤n.length by omega,show ¬(8:Int)<n.length by omega]
 refine⟨by omega,by omega,?_⟩
 refine lcA_run (fun c=>.str ⟨#[c]⟩) (fun c=>.bl true) (by rw[size_len];omega) (fun c hc=>⟨_,rfl,?_⟩) ?_
 ·simp[mem_letters (h3 c hc)]
 ·simp
theorem good_names_spec (names:List Str) (lo hi:Int) (h:∀n∈names,IsNm n) (hn:names.Nodup) (hl:names.length≤900) (h1:lo≤names.length) (h2:(names.length:Int)≤hi) (st:Store) :
  mf_good_names [.lst (names.map .str),.int lo,.int hi] st=.ok (.bl true) st:=by
 suffices hh:M3.run (mf_good_names [.lst (names.map .str),.int lo,.int hi] st) (fun r=>r=.ok (.bl true) st) from hh
 rw[mf_good_names,run_mfn]
 simp[mb_good_names,h1,show ¬hi<(names.length:Int) by omega]
 refine lcA_run (xs:=names) D.str (fun n=>D.bl true) (by omega) (fun n hn'=>⟨_,rfl,?_⟩) ?_
 ·simp[is_word_spec (h n hn')]
 simp[lenSetF,W.ls,strs_map,eqF_int,newTexts_nodup names [] hn (fun _ _ h=>by cases h),show names.length≤1000 by omega]
def chosen (bs names:List Str):Bool:=bs.all fun n=>decide (n∈names) && decide (bs.count n=1)
theorem are_chosen_spec (bs names:List Str) (hb:Oks bs) (hn:Oks names) (hl:bs.length≤900) (st:Store):mf_are_chosen [tupS bs,.lst (names.map .str)] st=.ok (.bl (chosen bs names)) st:=by
 suffices hh:M3.run (mf_are_chosen [tupS bs,.lst (names.map .str)] st) (fun r=>r=.ok (.bl (chosen bs names)) st) from hh
 rw[mf_are_chosen,run_mfn]
 simp[mb_are_chosen,tupS]
 refine lcA_run (xs:=bs) D.str (fun n=>D.bl (decide (n∈names) && decide (bs.count n=1))) (by omega) (fun n hn'=>⟨_,rfl,?_⟩) ?_
 ·simp[inF_lst _ (hb n hn') hn,cntF_str (hb n hn') hb,eqF_int]
  by_cases q:n∈names <;> simp[q]
  omega
 simp[chosen]
theorem chosen_true {bs names:List Str} (hd:bs.Nodup) (hb:∀b∈bs,b∈names):chosen bs names=true:=by
 unfold chosen
 rw[List.all_eq_true]
 intro b h
 simp[hb b h,List.nodup_iff_count.mp hd b]
 have:=List.count_pos_iff.mpr h
 have:=List.nodup_iff_count.mp hd b
 omega
theorem chosen_iff {bs names:List Str} (h:chosen bs names=true):bs.Nodup∧∀b∈bs,b∈names:=by
 unfold chosen at h
 rw[List.all_eq_true] at h
 refine⟨List.nodup_iff_count.mpr fun a=>?_,fun b hb=>?_⟩
 ·by_cases ha:a∈bs
  ·have:=h a ha
   simp at this
   omega
  ·rw[List.count_eq_zero.mpr ha];omega
 ·have:=h b hb
  simp at this
  exact this.1
theorem keysS_map (cs:Ctab):(cs.map fun c=>D.str c.1)=(keysS cs).map .str:=by simp[keysS]
theorem good_classes_spec {cs:Ctab} (h:Cls3 cs) (ne:cs≠[]) (st:Store):mf_good_classes [.lst (cs.map pairD)] st=.ok (.bl true) st:=by
 apply of_run
 have hl:=h.len
 have hp:=List.length_pos_iff.mpr ne
 have lk:(keysS cs).length=cs.length:=by simp[keysS]
 have nd:(keysS cs).Nodup:=by have:=follows_nodup List.nodup_nil h.fo;simpa using this
 rw[mf_good_classes,run_mfn]
 simp[mb_good_classes]
 refine lcA_run (xs:=cs) pairD (fun n=>D.bl true) (by omega) (fun n hn'=>⟨_,rfl,?_⟩) ?_
 ·simp[pairD,eqF_int]
 simp
 refine lcA_run (xs:=cs) pairD (fun c=>D.str c.1) (by omega) (fun n hn'=>⟨_,rfl,?_⟩) ?_
 ·simp[pairD]
 have e:(keysS cs).map D.str=cs.map (D.str∘fun x=>x.fst):=by simp[keysS]
 have e':(cs.map fun c=>D.str c.1)=cs.map (D.str∘fun x=>x.fst):=rfl
 have gn:=good_names_spec (keysS cs) 1 3 h.nm nd (by omega) (by omega) (by omega) st
 rw[e] at gn
 rw[e']
 simp[gn]
 refine⟨by omega,?_⟩
 refine lcR_run (fun i=>D.bl true) (by omega) (fun i hi=>⟨_,rfl,?_⟩) ?_
 ·have gi:cs[i]?=some cs[i]:=List.getElem?_eq_getElem hi
  have fa:=follows_at h.fo gi
  rw[List.nil_append] at fa
  simp[atN,hi,pairD]
  rw[cutD_map,cutT]
  rw[show keysS (cs.take i)=(keysS cs).take i by simp[keysS]] at fa
  have:=are_chosen_spec cs[i].2 ((keysS cs).take i) (fun b hb=>h.okk b (h.bases (List.getElem_mem hi) b hb)) (fun b hb=>h.okk b (List.mem_of_mem_take hb)) (by have:=h.blen (List.getElem_mem hi);omega) st
  rw[chosen_true (h.bnd _ (List.getElem_mem hi)) fa.2] at this
  rw[show (cs.take i).map (D.str∘fun x=>x.fst)=((keysS cs).take i).map D.str by simp[keysS],this]
  simp
 ·simp
theorem size_app (a b:Ords):size (a++b)=size a+size b:=by simp[size]
theorem size_mapL {f:Str→List Str} {k:Nat} (h:∀n,(f n).length≤k):∀bs:List Str,size (bs.map f)≤k * bs.length
 | []=>Nat.zero_le _
 | b :: bs=>by
  have:=size_mapL h bs
  have:=h b
  simp[size] at *
  rw[Nat.mul_add]
  omega
theorem size_left0 {os:Ctab} (h:okTab os) (bs:List Str):size (left0 os bs)≤5 * bs.length:=by
 unfold left0
 rw[size_app]
 have:=size_mapL (fun n=>(look_ok h n).1) bs
 simp[size] at *
 omega
theorem oks_left0 {os:Ctab} (h:okTab os) {bs:List Str} (hb:Oks bs):OksL (left0 os bs):=fun o ho=>by
 rcases List.mem_append.mp ho with k | k
 ·obtain⟨b,_,rfl⟩:=List.mem_map.mp k
  exact(look_ok h b).2
 ·rw[List.mem_singleton.mp k];exact hb
def ordD (os:Ctab):D:=.dict (keysT os) (os.map fun c=>tupS c.2)
theorem foldlM_take {α β:Type} {f:β→α→Option β}:∀{cs:List α} {a r:β} (i:Nat),cs.foldlM f a=some r→∃b,(cs.take i).foldlM f a=some b∧(cs.drop i).foldlM f b=some r:=by
 intro cs a r i h
 rw[←List.take_append_drop i cs,List.foldlM_append] at h
 cases e:(cs.take i).foldlM f a with
 | none=>rw[e] at h;cases h
 | some b=>rw[e] at h;exact⟨b,rfl,h⟩
set_option maxHeartbeats 8000000 in
theorem class_orders_spec {cs os:Ctab} (h:Cls3 cs) (ho:cs.foldlM ordStep []=some os) (st:Store):mf_class_orders [.lst (cs.map pairD)] st=.ok (ordD os) st:=by
 apply of_run
 have hl:=h.len
 rw[mf_class_orders,run_mfn]
 simp[mb_class_orders]
 refine forL_run (fun i u st'=>st'=st∧∃(o:Ctab) (x2 x3 x4 x5:Option W),(cs.take i).foldlM ordStep []=some o∧
  u=[some (.val (.lst (cs.map pairD))),some (.bod (keysT o) (o.map fun c=>tupS c.2)),x2,x3,x4,x5]) ⟨rfl,[],_,_,_,_,rfl,rfl⟩ ?_ ?_
 ·rintro i d u st' hd ⟨rfl,o,x2,x3,x4,x5,hO,rfl⟩
  obtain⟨c,hc,rfl⟩:=get_map hd
  obtain⟨n,bb⟩:=c
  have hi:i<cs.length:=(List.getElem?_eq_some_iff.mp hc).1
  have hm:=List.mem_of_getElem? hc
  have fa:=follows_at h.fo hc
  rw[List.nil_append] at fa
  have fot:Follows [] (cs.take i):=by
   have:=h.fo
   rw[←List.take_append_drop i cs] at this
   exact(follows_append.mp this).1
  obtain⟨t,ko⟩:=fold_tab (cs.take i) [] o Tab.nil fot hO
  have ko':keysS o=keysS (cs.take i):=by simpa[keysS] using ko
  have lo:o.length≤3:=by
   have:=congrArg List.length ko'
   simp[keysS] at this;omega
  have okt:okTab o:=t.okTab (by omega) (fun w hw=>h.okk w (by rw[ko'] at hw;obtain⟨d,hd,e⟩:=List.mem_map.mp hw;exact List.mem_map.mpr ⟨d,List.mem_of_mem_take hd,e⟩))
  have lb:=h.blen hm
  dsimp only at lb
  refine⟨_,rfl,?_⟩
  simp[pairD,tupS]
  refine lcA_run (xs:=bb) D.str (fun b=>tupS (look o b)) (by omega) (fun b hb=>⟨_,rfl,?_⟩) ?_
  ·simp
   rw[show atK (keysT o) (o.map fun c=>D.tup (c.2.map .str)) (.inr b)=_ from atK_tab tupS b o,M3lookup_some (by have:=fa.2 b hb;rw[←ko'] at this;exact this)]
   simp
  simp
  have e1:bb.map (fun b=>tupS (look o b))++[D.tup (bb.map .str)]=(left0 o bb).map tupS:=by simp[left0,tupS]
  have okb:Oks bb:=fun b hb=>h.okk b (h.bases hm b hb)
  have ms:=merge_orders_spec (left0 o bb) (oks_left0 okt okb) (by have:=size_left0 okt bb;omega) (by simp[left0];omega) st'
  obtain⟨b2,hb2,hr⟩:=foldlM_take (i+1) ho
  rw[List.take_add_one,hc,List.foldlM_append,hO] at hb2
  have hs:ordStep o (n,bb)=some b2:=by
   have:(ordStep o (n,bb) >>= fun z=>some z)=some b2:=hb2
   cases e:ordStep o (n,bb) with
   | none=>rw[e] at this;cases this
   | some z=>rw[e] at this;cases this;rfl
  have hs2:=hs
  unfold ordStep at hs2
  dsimp only at hs2
  cases em:mergeG (nonempty (left0 o bb)) [] with
  | none=>rw[em] at hs2;cases hs2
  | some m=>
   rw[em] at hs2 ms
   cases hs2
   rw[run_sSetK 1 _ _ rfl]
   simp
   rw[if_pos (by omega),e1,ms]
   simp[tupS]
   have nf:n∉o.map (·.1):=by have:=fa.1;rw[←ko'] at this;exact this
   rw[show putK3 (keysT o) (o.map fun c=>D.tup (c.2.map .str)) (.inr n) (D.tup (D.str n :: m.map .str))=_ from putK3_tab tupS n (n :: m) o nf]
   have mm:=merge_some em
   have lm:m.length≤(keysS o).length:=nodup_len mm.1 fun w hw=>by
    obtain⟨q,hq,hw'⟩:=(mm.2 w).mp hw
    exact t.left (fun b hb=>by rw[ko'];exact fa.2 b hb) q hq w hw'
   have lk:(keysS o).length=o.length:=by simp[keysS]
   rw[if_pos (by omega)]
   refine⟨by simp[keysT];omega,o++[(n,n :: m)],?_,rfl,rfl⟩
   rw[List.take_add_one,hc,List.foldlM_append,hO]
   exact hb2
 ·rintro u st' ⟨rfl,o,x2,x3,x4,x5,hO,rfl⟩
  rw[List.length_map,List.take_length,ho] at hO
  cases hO
  simp
  rw[run_sRetD 1 rfl]
  simp[ordD]
theorem good_none (st:Store):mf_good_names [.lst [],.int 0,.int 4] st=.ok (.bl true) st:=
 good_names_spec [] 0 4 (fun n h=>by cases h) (by simp) (by simp) (by simp) (by simp) st
@[simp] theorem allF_nil:allF [.val (.lst [])]=some (.val (.bl true)):=rfl
theorem in_keep:inF true (.val (.str "keep")) (.val (.tup [.str "keep",.str "live"]))=some (.val (.bl false)):=
 (inF_tup true (a:="keep") (xs:=["keep","live"]) (by decide +kernel) (by decide +kernel)).trans (by simp)
theorem in_maker:inF true (.val (.str "maker")) (.val (.tup [.str "maker",.str "caller"]))=some (.val (.bl false)):=
 (inF_tup true (a:="maker") (xs:=["maker","caller"]) (by decide +kernel) (by decide +kernel)).trans (by simp)
theorem chosen_none (st:Store):mf_are_chosen [.ctup [],.lst []] st=.ok (.bl true) st:=by
 apply of_run
 rw[mf_are_chosen,run_mfn]
 simp[mb_are_chosen]
theorem good_bodies0 (a b c:D) (st:Store):mf_good_bodies [.dd [] [],a,b,c] st=.ok (.bl true) st:=by
 apply of_run
 rw[mf_good_bodies,run_mfn]
 simp[mb_good_bodies]
 rw[run_iKeysDD [] [] (by rfl)]
 simp
theorem pf0 (a0:D):put3 "orders" a0 ([]:List (Str×D))=([("orders",a0)]:List (Str×D)):=rfl
theorem pf1 (a0 a1:D):put3 "class_pairs" a1 ([("orders",a0)]:List (Str×D))=([("orders",a0),("class_pairs",a1)]:List (Str×D)):=rfl
theorem pf2 (a0 a1 a2:D):put3 "method_names" a2 ([("orders",a0),("class_pairs",a1)]:List (Str×D))=([("orders",a0),("class_pairs",a1),("method_names",a2)]:List (Str×D)):=rfl
theorem pf3 (a0 a1 a2 a3:D):put3 "layer_names" a3 ([("orders",a0),("class_pairs",a1),("method_names",a2)]:List (Str×D))=([("orders",a0),("class_pairs",a1),("method_names",a2),("layer_names",a3)]:List (Str×D)):=rfl
theorem pf4 (a0 a1 a2 a3 a4:D):put3 "inner_names" a4 ([("orders",a0),("class_pairs",a1),("method_names",a2),("layer_names",a3)]:List (Str×D))=([("orders",a0),("class_pairs",a1),("method_names",a2),("layer_names",a3),("inner_names",a4)]:List (Str×D)):=rfl
theorem pf5 (a0 a1 a2 a3 a4 a5:D):put3 "rules" a5 ([("orders",a0),("class_pairs",a1),("method_names",a2),("layer_names",a3),("inner_names",a4)]:List (Str×D))=([("orders",a0),("class_pairs",a1),("method_names",a2),("layer_names",a3),("inner_names",a4),("rules",a5)]:List (Str×D)):=rfl
theorem pf6 (a0 a1 a2 a3 a4 a5 a6:D):put3 "known" a6 ([("orders",a0),("class_pairs",a1),("method_names",a2),("layer_names",a3),("inner_names",a4),("rules",a5)]:List (Str×D))=([("orders",a0),("class_pairs",a1),("method_names",a2),("layer_names",a3),("inner_names",a4),("rules",a5),("known",a6)]:List (Str×D)):=rfl
theorem pf7 (a0 a1 a2 a3 a4 a5 a6 a7:D):put3 "texts" a7 ([("orders",a0),("class_pairs",a1),("method_names",a2),("layer_names",a3),("inner_names",a4),("rules",a5),("known",a6)]:List (Str×D))=([("orders",a0),("class_pairs",a1),("method_names",a2),("layer_names",a3),("inner_names",a4),("rules",a5),("known",a6),("texts",a7)]:List (Str×D)):=rfl
def orderR (os:Ctab) (bs:List Str):Option (List Str):=if chosen bs (keysS os)=true∧bs≠[] then mergeG (nonempty (left0 os bs)) [] else none
structure BookAt (cs os:Ctab) (r:Nat) (st:Store):Prop where
 fs:∃fs:List (Str×D),st[r]?=some (.ins "Book" fs)∧fs.lookup ("class_pairs" : Str)=some (.tup (cs.map pairD))∧fs.lookup ("orders" : Str)=some (ordD os)∧fs.lookup ("order" : Str)=none
theorem Cls3.orders {cs os:Ctab} (h:Cls3 cs) (ho:cs.foldlM ordStep []=some os):Tab os∧keysS os=keysS cs∧okTab os:=by
 obtain⟨t,k⟩:=fold_tab cs [] os Tab.nil h.fo ho
 have k':keysS os=keysS cs:=by simpa[keysS] using k
 have:=congrArg List.length k'
 have hl:=h.len
 simp only[keysS,List.length_map] at this
 exact⟨t,k',t.okTab (by omega) (by rw[k'];exact h.okk)⟩
set_option maxHeartbeats 8000000 in
theorem book_order_spec {cs os:Ctab} (h:Cls3 cs) (ho:cs.foldlM ordStep []=some os) {r:Nat} {st:Store} (bk:BookAt cs os r st) (bs:List Str) (hb:Oks bs) (hl:bs.length≤100) :
  mf_Book_order [.ref r,tupS bs] st=match orderR os bs with | some m=>.ok (tupS m) st | none=>.err "NoOrder" .non st:=by
 apply of_run
 obtain⟨fs,hr,h1,h2,h3⟩:=bk.fs
 obtain⟨t,k',okt⟩:=h.orders ho
 have l3:=h.len
 generalize hR:(match orderR os bs with | some m=>(Res.ok (tupS m) st:Res D) | none=>.err "NoOrder" .non st)=R
 rw[mf_Book_order,run_mfn]
 simp[mb_Book_order,hr,h1]
 refine lcA_run (xs:=cs) pairD (fun c=>D.str c.1) (by omega) (fun n hn'=>⟨_,rfl,?_⟩) ?_
 ·simp[pairD]
 rw[keysS_map]
 have ac:=are_chosen_spec bs (keysS cs) hb h.okk (by omega) st
 have e:(keysS cs).map D.str=cs.map (D.str∘fun x=>x.fst):=by simp[keysS]
 rw[e] at ac⊢
 simp[ac]
 unfold orderR at hR
 rw[k'] at hR
 by_cases q:chosen bs (keysS cs)=true
 ·obtain⟨nd,sub⟩:=chosen_iff q
  simp[q,tupS,eqF_int]
  by_cases qe:bs=[]
  ·simp[qe] at hR⊢
   exact hR
  ·simp[qe,h2]
   rw[if_pos ⟨q,qe⟩] at hR
   refine lcA_run (xs:=bs) D.str (fun b=>tupS (look os b)) (by omega) (fun b hb'=>⟨_,rfl,?_⟩) ?_
   ·simp[hr,h2,ordD]
    rw[show atK (keysT os) (os.map fun c=>tupS c.2) (.inr b)=_ from atK_tab tupS b os,M3lookup_some (by have:=sub b hb';rw[←k'] at this;exact this)]
    simp
   have e1:bs.map (fun b=>tupS (look os b))++[D.tup (bs.map .str)]=(left0 os bs).map tupS:=by simp[left0,tupS]
   have lb:=nodup_len nd sub
   simp only[keysS,List.length_map] at lb
   have ms:=merge_orders_spec (left0 os bs) (oks_left0 okt hb) (by have:=size_left0 okt bs;omega) (by simp[left0];omega) st
   simp
   rw[if_pos (by omega),e1,ms]
   cases em:mergeG (nonempty (left0 os bs)) [] with
   | none=>rw[em] at hR;simpa using hR
   | some m=>rw[em] at hR;simpa[tupS] using hR
 ·simp[q] at hR⊢
  exact hR
end My
namespace My
open PySem L2 M3
section
variable {u:Sl3} {st:Store}
@[simp] theorem run_fLc2 {mi mi1:FM} {g g1:GM} {c c1:TM} {e:EM} {own vs1:List Nat} {kf}:run (fLc2 mi g c mi1 g1 c1 e own vs1 u st) kf=run (mi u st) (kBind (fun ds=>lc2L g c mi1 g1 c1 e vs1 (wipe3 u own) ds []) kf):=run_bind _ _
end
theorem lc2L_map {α β:Type} {gm g1:GM} {t t1:TM} {mi1:FM} {m:EM} {vs1:List Nat} {u0:Sl3} {st:Store} (f:α→D) (ys:α→List β) (f1:β→D) (p:α→β→Bool) (g:α→β→D):∀(xs:List α) (acc:List D),
  (∀x∈xs,∃u1,gm (f x) u0=some u1∧t u1 st=.ok true st∧mi1 u1 st=.ok ((ys x).map f1) st∧∀y∈ys x,∃u2,g1 (f1 y) (wipe3 u1 vs1)=some u2∧M3.run (t1 u2 st) (fun r=>r=.ok (p x y) st)∧(p x y=true→M3.run (m u2 st) (fun r=>r=.ok (.val (g x y)) st)))→
  acc.length+(xs.map fun x=>(ys x).length).sum≤1000000→
  lc2L gm t mi1 g1 t1 m vs1 u0 (xs.map f) acc st=.ok (acc++xs.flatMap fun x=>((ys x).filter (p x)).map (g x)) st
 | [],acc,_,_=>by simp[lc2L,M.pure]
 | x :: xs,acc,h,hz=>by
  obtain⟨u1,e1,e2,e3,e4⟩:=h x List.mem_cons_self
  have ih:=fun acc=>lc2L_map f ys f1 p g xs acc fun d hd=>h d (List.mem_cons_of_mem _ hd)
  simp only[List.map_cons,List.sum_cons] at hz
  have inner:=lcL_mapE (gm:=g1) (t:=t1) (m:=m) (u0:=wipe3 u1 vs1) (st:=st) f1 (p x) (g x) (ys x) acc e4 (by omega)
  have hl:((ys x).filter (p x)).length≤(ys x).length:=List.length_filter_le _ _
  unfold lc2L
  rw[List.map_cons]
  show M.bind (M.of (gm (f x) u0)) _ st=_
  rw[e1]
  show M.bind (M.quiet (t u1)) _ st=_
  unfold M.bind M.quiet
  dsimp only
  rw[e2]
  dsimp only
  rw[if_pos rfl]
  rw[e3]
  dsimp only
  rw[inner]
  dsimp only
  rw[ih _ (by simp;omega)]
  simp
theorem lc2_run {α β:Type} {gm g1:GM} {t t1:TM} {mi1:FM} {m:EM} {vs1:List Nat} {u0:Sl3} {st:Store} {xs:List α} {k:Res (List D)→Prop} (f:α→D) (ys:α→List β) (f1:β→D) (p:α→β→Bool) (g:α→β→D) (hz:(xs.map fun x=>(ys x).length).sum≤1000000)
  (h:∀x∈xs,∃u1,gm (f x) u0=some u1∧M3.run (t u1 st) (fun r=>r=.ok true st)∧M3.run (mi1 u1 st) (fun r=>r=.ok ((ys x).map f1) st)∧∀y∈ys x,∃u2,g1 (f1 y) (wipe3 u1 vs1)=some u2∧M3.run (t1 u2 st) (fun r=>r=.ok (p x y) st)∧(p x y=true→M3.run (m u2 st) (fun r=>r=.ok (.val (g x y)) st)))
  (hk:k (.ok (xs.flatMap fun x=>((ys x).filter (p x)).map (g x)) st)):M3.run (lc2L gm t mi1 g1 t1 m vs1 u0 (xs.map f) [] st) k:=by
 rw[lc2L_map f ys f1 p g xs [] h (by simpa using hz)]
 exact hk
abbrev K3:=Str×Str×Str
def key3 (k:K3):D:=.tup [.str k.1,.str k.2.1,.str k.2.2]
abbrev Bod:=List (K3×List Str)
def bk (b:Bod):List D:=b.map fun e=>key3 e.1
end My
namespace My
open PySem L2 M3
def grow (names:List Str) (L:Ords):Ords:=(L.map fun r=>(names.filter fun n=>!decide (n∈r)).map fun n=>r++[n]).flatten
theorem grow_mem {names:List Str} {L:Ords} {o:List Str} (h:o∈grow names L):∃r∈L,∃n∈names,n∉r∧o=r++[n]:=by
 unfold grow at h
 obtain⟨x,hx,ho⟩:=List.mem_flatten.mp h
 obtain⟨r,hr,rfl⟩:=List.mem_map.mp hx
 obtain⟨n,hn,rfl⟩:=List.mem_map.mp ho
 have:=List.mem_filter.mp hn
 exact⟨r,hr,n,this.1,by simpa using this.2,rfl⟩
theorem grow_len {names:List Str}:∀L:Ords,(grow names L).length≤names.length * L.length
 | []=>Nat.zero_le _
 | r :: L=>by
  have:=grow_len (names:=names) L
  have:=List.length_filter_le (fun n=>!decide (n∈r)) names
  simp only[grow,List.map_cons,List.flatten_cons,List.length_append,List.length_map,List.length_cons,Nat.mul_succ] at *
  omega
theorem grow_data (names:List Str) (L:Ords):(L.map fun r=>(names.filter fun n=>!decide (n∈r)).map fun n=>tupS (r++[n])).flatten=(grow names L).map tupS:=by
 unfold grow
 rw[List.map_flatten,List.map_map]
 congr 1
 apply List.map_congr_left
 intro r _
 simp
def InN (names:List Str) (b:Nat) (L:Ords):Prop:=∀o∈L,o.length≤b∧o.Nodup∧∀w∈o,w∈names
theorem InN.grow {names:List Str} {b:Nat} {L:Ords} (h:InN names b L):InN names (b+1) (grow names L):=fun o ho=>by
 obtain⟨r,hr,n,hn,nr,rfl⟩:=grow_mem ho
 obtain⟨h1,h3,h2⟩:=h r hr
 refine⟨by simp;omega,?_,fun w hw=>?_⟩
 ·rw[List.nodup_append]
  exact⟨h3,by simp,fun a ha b hb e=>by rw[List.mem_singleton.mp hb] at e;subst e;exact nr ha⟩
 ·rcases List.mem_append.mp hw with k | k
  ·exact h2 w k
  ·rw[List.mem_singleton.mp k];exact hn
theorem pow4 {i:Nat} (h:i≤4):4 ^ i≤256:=by
 rcases i with _ | _ | _ | _ | _ | i <;> first | decide | omega
end My
namespace My
open PySem L2 M3
def mb_w_is_own:SM:=(sRetV (eBin (eqF false) (eF (fB lstCF (aCons (eVar 0) aNil))) (eF (fLc (iSeq (eVar 1)) (gName3 2) (tOf (eBin (inF false) (eVar 2) (eVar 0))) (eVar 2) [2]))))
def mf_w_is_own:List D→M D:=mfn 3 mb_w_is_own
def mb_w_every_kind:SM:=(sSeq (sSet 1 (eF (fLc (iSeq (eBin dgF (eVar 0) (eC (.str "classes")))) (gName3 5) tYes3 (eBin ixF (eVar 5) (eC (.int 0))) [5])))
 (sSeq (sSet 2 (eF (fLc (iSeq (eCall 1 mf_w_arranged (aCons (eBin dgF (eVar 0) (eC (.str "methods"))) aNil))) (gName3 6) (tTru (eCall 2 mf_w_is_own (aCons (eVar 6) (aCons (eBin dgF (eVar 0) (eC (.str "methods"))) aNil)))) (eVar 6) [6])))
 (sSeq (sSet 3 (eF (fLst aNil)))
 (sSeq (sFor (iSeq (eSlA (eCall 1 mf_w_arranged (aCons (eVar 1) aNil)) (pSome (eC (.int 1))) pNone)) (gName3 4) (sIf (tOf (eBin (isNF true) (eCallW 2 mf_w_ordered (aCons (eBin dgF (eVar 0) (eC (.str "classes"))) (aCons (eVar 4) aNil))) (eC .non))) (sSet 3 (eBin addF (eVar 3) (eF (fLc (iSeq (eVar 2)) (gName3 6) tYes3 (eTup (aCons (eVar 4) (aCons (eVar 6) aNil))) [6])))) sNext))
 (sRetV (eVar 3))))))
def mf_w_every_kind:List D→M D:=mfn 7 mb_w_every_kind
def yb_arrangements:YM:=(ySeq (yPlain (sSet 1 (eF (fLst (aCons (eTup aNil) aNil)))))
 (yFor (iRange1 (aCons (eBin addF (eB lenF (aCons (eVar 0) aNil)) (eC (.int 1))) aNil)) (gName3 2) (ySeq (yFor (iSeq (eVar 1)) (gName3 3) (yYield (eVar 3)))
 (yPlain (sSet 1 (eF (fLc2 (iSeq (eVar 1)) (gName3 3) tYes3 (iSeq (eVar 0)) (gName3 4) (tOf (eBin (inF true) (eVar 4) (eVar 3))) (eBin addF (eVar 3) (eTup (aCons (eVar 4) aNil))) [3,4] [4])))))))
def yf_arrangements:List D→Store→Option (List (D×Store)×Store):=ymf 5 yb_arrangements
def mb_Book_has_order:SM:=(sSeq (sTry none (subT [("NoOrder",true)]) (sDrop (eMeth "order" 1 [("Book",mf_Book_order)] (eVar 0) (aCons (eVar 1) aNil))) (sRetV (eC (.bl false))))
 (sRetV (eC (.bl true))))
def mf_Book_has_order:List D→M D:=mfn 2 mb_Book_has_order
def mb_Book_can_own:SM:=(sRetV (eAnd (eCall 2 mf_are_chosen (aCons (eVar 1) (aCons (eFld ["Book"] "method_names" (eVar 0)) aNil))) (eBin (eqF false) (eVar 1) (eB tupCF (aCons (eF (fLc (iSeq (eFld ["Book"] "method_names" (eVar 0))) (gName3 2) (tOf (eBin (inF false) (eVar 2) (eVar 1))) (eVar 2) [2])) aNil)))))
def mf_Book_can_own:List D→M D:=mfn 3 mb_Book_can_own
def yb_Book_kinds:YM:=(ySeq (yPlain (sSet 1 (eF (fLc (iSeq (eFld ["Book"] "class_pairs" (eVar 0))) (gName3 3) tYes3 (eBin ixF (eVar 3) (eC (.int 0))) [3]))))
 (yForG (gCall 1 true yf_arrangements (aCons (eVar 1) aNil)) (gName3 2) (yIf (tTru (eMeth "has_order" 1 [("Book",mf_Book_has_order)] (eVar 0) (aCons (eVar 2) aNil))) (yForG (gCall 1 true yf_arrangements (aCons (eFld ["Book"] "method_names" (eVar 0)) aNil)) (gName3 4) (yIf (tTru (eMeth "can_own" 1 [("Book",mf_Book_can_own)] (eVar 0) (aCons (eVar 4) aNil))) (yYield (eTup (aCons (eVar 2) (aCons (eVar 4) aNil)))) yNext)) yNext)))
def yf_Book_kinds:List D→Store→Option (List (D×Store)×Store):=ymf 5 yb_Book_kinds
def mb_law:SM:=(sSeq (sSet 1 (eCall 3 mf_w_digits (aCons (eCall 2 mf_w_cell_at (aCons (eVar 0) (aCons (eC (.int 0)) aNil))) (aCons (eC (.int 3)) (aCons (eC (.int 9)) aNil)))))
 (sSeq (sOwnD 2)
 (sSeq (sSetK 2 (eC (.str "methods")) (eSlA (eCall 2 mf_w_spelled (aCons (eBin ixF (eVar 1) (eC (.int 0))) (aCons (eC (.int 3)) aNil))) pNone (pSome (eBin addF (eC (.int 1)) (eBin modF (eB intCF (aCons (eBin ixF (eVar 1) (eC (.int 1))) aNil)) (eC (.int 3)))))))
 (sSeq (sSetK 2 (eC (.str "classes")) (eCall 2 mf_w_class_list (aCons (eSlA (eVar 1) (pSome (eC (.int 2))) (pSome (eC (.int 5)))) (aCons (eSlA (eCall 2 mf_w_spelled (aCons (eBin ixF (eVar 1) (eC (.int 5))) (aCons (eC (.int 3)) aNil))) pNone (pSome (eBin addF (eC (.int 1)) (eBin modF (eB intCF (aCons (eBin ixF (eVar 1) (eC (.int 6))) aNil)) (eC (.int 3)))))) aNil))))
 (sSeq (sSeq (sFrzD 2) (sSet 3 (eCall 1 mf_w_every_kind (aCons (eVar 2) aNil))))
 (sSeq (sSet 4 (eMk3 "Book" 4 [.ctup [],.str "keep",.str "maker"] mf_Book_init (aCons (eF (fB lstCF (aCons (eBin dgF (eVar 2) (eC (.str "classes"))) aNil))) (aCons (eF (fB lstCF (aCons (eBin dgF (eVar 2) (eC (.str "methods"))) aNil))) (aCons (eF (fLst aNil)) (aCons (eC (.dd [] [])) aNil))))))
 (sSeq (sFor (iRange1 (aCons (eC (.int 2)) aNil)) (gName3 5) (sSeq (sSet 6 (eF (fGen (gMeth "kinds" "Book" yf_Book_kinds (eVar 4)) false)))
 (sSeq (sIf (tOr3 (tOf (eBin (eqF true) (eB lenF (aCons (eVar 6) aNil)) (eB lenF (aCons (eVar 3) aNil)))) (tNot3 (tTru (eB allF (aCons (eF (fLc (iSeq (eVar 6)) (gName3 7) tYes3 (eAnd (eB isi2F (aCons (eVar 7) (aCons (eC (.ty "tuple")) aNil))) (eBin (eqF false) (eB lenF (aCons (eVar 7) aNil)) (eC (.int 2)))) [7])) aNil))))) (sRetV (eC (.bl false))) sNext)
 (sSeq (sIf (tNot3 (tTru (eB allF (aCons (eF (fLc (iSeq (eVar 6)) (gName3 7) tYes3 (eAnd (eB isi2F (aCons (eBin ixF (eVar 7) (eC (.int 0))) (aCons (eC (.ty "tuple")) aNil))) (eB isi2F (aCons (eBin ixF (eVar 7) (eC (.int 1))) (aCons (eC (.ty "tuple")) aNil)))) [7])) aNil)))) (sRetV (eC (.bl false))) sNext)
 (sIf (tOf (eBin (eqF true) (eVar 6) (eVar 3))) (sRetV (eC (.bl false))) sNext)))))
 (sRetV (eC (.bl true))))))))))
def mf_law:List D→M D:=mfn 8 mb_law
end My
namespace My
open PySem L2 M3
def lvA (names:List Str):Nat→Ords
 | 0=>[[]]
 | n+1=>grow names (lvA names n)
def upA (names:List Str):Nat→Ords
 | 0=>[[]]
 | n+1=>upA names n++lvA names (n+1)
theorem lvA_in (names:List Str):∀n,InN names n (lvA names n)
 | 0=>fun o h=>by rw[List.mem_singleton.mp h];simp
 | n+1=>(lvA_in names n).grow
theorem lvA_len {names:List Str} (hl:names.length≤4):∀n,(lvA names n).length≤4 ^ n
 | 0=>by simp[lvA]
 | n+1=>by
  have h1:=lvA_len hl n
  have h2:=grow_len (names:=names) (lvA names n)
  have h3:names.length * (lvA names n).length≤4 * 4 ^ n:=Nat.mul_le_mul hl h1
  rw[Nat.pow_succ]
  show (grow names (lvA names n)).length≤_
  omega
theorem upA_len {names:List Str} (hl:names.length≤4):∀n,n≤4→(upA names n).length≤256 * n+1
 | 0,_=>by simp[upA]
 | n+1,h=>by
  have h1:=upA_len hl n (by omega)
  have h2:=lvA_len hl (n+1)
  have h3:=pow4 (i:=n+1) h
  simp only[upA,List.length_append]
  omega
theorem arranged_lv (names:List Str) (hn:Oks names) (hl:names.length≤4) (st:Store):mf_w_arranged [.lst (names.map .str)] st=.ok (.lst ((upA names names.length).map tupS)) st:=by
 suffices h:M3.run (mf_w_arranged [.lst (names.map .str)] st) (fun r=>r=.ok (.lst ((upA names names.length).map tupS)) st) from h
 rw[mf_w_arranged,run_mfn]
 simp[mb_w_arranged]
 rw[if_pos (by omega)]
 refine forL_run (fun i u st'=>st'=st∧i≤4∧∃(x3 x4 x5:Option W),u=[some (.val (.lst (names.map .str))),some (.val (.lst ((upA names i).map tupS))),some (.val (.lst ((lvA names i).map tupS))),x3,x4,x5]) ⟨rfl,by omega,_,_,_,rfl⟩ ?_ ?_
 ·rintro i d u st' hd ⟨rfl,hi0,x3,x4,x5,rfl⟩
  obtain⟨rfl,hi⟩:=range_get hd
  have hL:=lvA_in names i
  have lL:=lvA_len hl i
  have lF:=upA_len hl i hi0
  have p3:=pow4 hi0
  refine⟨_,rfl,?_⟩
  simp
  refine lcA_run (xs:=lvA names i) tupS (fun r=>.lst ((names.filter fun n=>!decide (n∈r)).map fun n=>tupS (r++[n]))) (by omega) (fun r hr=>⟨_,rfl,?_⟩) ?_
  ·obtain⟨h1,_,h2⟩:=hL r hr
   simp[tupS]
   refine lcM_run (xs:=names) D.str (fun n=>!decide (n∈r)) (fun n=>tupS (r++[n])) (by omega) (fun n hn'=>⟨_,rfl,?_,fun _=>?_⟩) ?_
   ·simp[inF_tup true (hn n hn') (fun w hw=>hn w (h2 w hw))]
   ·simp[tupS]
    omega
   ·simp[tupS]
  have gb:=lvA_len hl (i+1)
  have p4:=pow4 (i:=i+1) (by omega)
  have ex:(lvA names i).map (fun r=>D.lst ((names.filter fun n=>!decide (n∈r)).map fun n=>tupS (r++[n])))=((lvA names i).map fun r=>(names.filter fun n=>!decide (n∈r)).map fun n=>tupS (r++[n])).map .lst:=by simp[Function.comp_def]
  simp only[ex]
  have fl:=grow_data names (lvA names i)
  generalize ((lvA names i).map fun r=>(names.filter fun n=>!decide (n∈r)).map fun n=>tupS (r++[n]))=xss at fl
  simp[fl]
  have gq:(grow names (lvA names i)).length≤256:=Nat.le_trans gb p4
  refine⟨by omega,by omega,by omega,?_,rfl⟩
  simp[upA,lvA]
 ·rintro u st' ⟨rfl,hi,x3,x4,x5,rfl⟩
  rw[rangeD_length]
  simp
end My
namespace My
open PySem L2 M3
theorem ySeq_nx {m1 m2:YM} {u u':Sl3} {o o':Store} {xs:List (D×Store)} (h:m1 u o=(xs,.nx u' o')):ySeq m1 m2 u o=(xs++(m2 u' o').1,(m2 u' o').2):=by
 unfold ySeq
 rw[h]
theorem plain_nx {m:SM} {u u':Sl3} {o o':Store} (h:m u o=.nx u' o'):yPlain m u o=([],.nx u' o'):=by
 unfold yPlain
 rw[h]
theorem forL_cons_nx {g:GM} {b:YM} {d:D} {ds:List D} {u u1 u2:Sl3} {o o2:Store} {xs:List (D×Store)} (e1:g d u=some u1) (e2:b u1 o=(xs,.nx u2 o2)):yForL g b (d :: ds) u o=(xs++(yForL g b ds u2 o2).1,(yForL g b ds u2 o2).2):=by
 rw[yForL]
 simp only[e1,e2]
theorem rows_out {o:Store} {d0 d1:D} {w2 w4:Option W} (h2:allVal [some (.val d0),some (.val d1),w2,none,w4]=true):∀(L:Ords) (w3:Option W),allVal [some (.val d0),some (.val d1),w2,w3,w4]=true→
  ∃w3',allVal [some (.val d0),some (.val d1),w2,w3',w4]=true∧yForL (gName3 3) (yYield (eVar 3)) (L.map tupS) [some (.val d0),some (.val d1),w2,w3,w4] o=(L.map fun r=>(tupS r,o),.nx [some (.val d0),some (.val d1),w2,w3',w4] o)
 | [],w3,h=>⟨w3,h,rfl⟩
 | r :: L,w3,h=>by
  have hv:allVal [some (.val d0),some (.val d1),w2,some (.val (tupS r)),w4]=true:=by
   simp only[allVal,List.all_cons,Bool.and_eq_true] at h2⊢
   simp_all
  obtain⟨w3',h3,e⟩:=rows_out (o:=o) h2 L (some (.val (tupS r))) hv
  refine⟨w3',h3,?_⟩
  have e1:gName3 3 (tupS r) [some (.val d0),some (.val d1),w2,w3,w4]=some [some (.val d0),some (.val d1),w2,some (.val (tupS r)),w4]:=rfl
  have e2:yYield (eVar 3) [some (.val d0),some (.val d1),w2,some (.val (tupS r)),w4] o=([(tupS r,o)],.nx [some (.val d0),some (.val d1),w2,some (.val (tupS r)),w4] o):=by
   unfold yYield
   rw[show eVar 3 [some (.val d0),some (.val d1),w2,some (.val (tupS r)),w4] o=.ok (.val (tupS r)) o from rfl]
   dsimp only
   rw[if_pos hv]
  rw[List.map_cons,forL_cons_nx e1 e2,e]
  rfl
def bodyA:YM:=ySeq (yFor (iSeq (eVar 1)) (gName3 3) (yYield (eVar 3)))
 (yPlain (sSet 1 (eF (fLc2 (iSeq (eVar 1)) (gName3 3) tYes3 (iSeq (eVar 0)) (gName3 4) (tOf (eBin (inF true) (eVar 4) (eVar 3))) (eBin addF (eVar 3) (eTup (aCons (eVar 4) aNil))) [3,4] [4]))))
section
variable {names:List Str} {o:Store} {dn:D}
theorem next_rows (hdn:dn=tupS names∨dn=lstS names) (hn:Oks names) (hl:names.length≤4) {i:Nat} (hi:i≤4) {w2 w3 w4:Option W} :
  (sSet 1 (eF (fLc2 (iSeq (eVar 1)) (gName3 3) tYes3 (iSeq (eVar 0)) (gName3 4) (tOf (eBin (inF true) (eVar 4) (eVar 3))) (eBin addF (eVar 3) (eTup (aCons (eVar 4) aNil))) [3,4] [4]))) [some (.val dn),some (.val (.lst ((lvA names i).map tupS))),w2,w3,w4] o =
   .nx [some (.val dn),some (.val (.lst ((lvA names (i+1)).map tupS))),w2,w3,w4] o:=by
 suffices h:M3.srun ((sSet 1 (eF (fLc2 (iSeq (eVar 1)) (gName3 3) tYes3 (iSeq (eVar 0)) (gName3 4) (tOf (eBin (inF true) (eVar 4) (eVar 3))) (eBin addF (eVar 3) (eTup (aCons (eVar 4) aNil))) [3,4] [4]))) [some (.val dn),some (.val (.lst ((lvA names i).map tupS))),w2,w3,w4] o) (fun r=>r =
   .nx [some (.val dn),some (.val (.lst ((lvA names (i+1)).map tupS))),w2,w3,w4] o) from h
 have hL:=lvA_in names i
 have lL:=lvA_len hl i
 have p3:=pow4 hi
 have sm:((lvA names i).map fun _=>names.length).sum≤1000000:=by
  have:∀L:Ords,(L.map fun _=>names.length).sum=L.length * names.length:=fun L=>by induction L <;> simp_all [Nat.succ_mul,Nat.add_comm]
  rw[this]
  have:=Nat.mul_le_mul (Nat.le_trans lL p3) hl
  omega
 simp
 refine lc2_run (xs:=lvA names i) tupS (fun _=>names) D.str (fun r n=>!decide (n∈r)) (fun r n=>tupS (r++[n])) sm (fun r hr=>⟨_,rfl,?_,?_,fun n hn'=>⟨_,rfl,?_,fun _=>?_⟩⟩) ?_
 ·simp
 ·rcases hdn with rfl | rfl <;> simp[tupS,lstS]
 ·obtain⟨h1,_,h2⟩:=hL r hr
  simp[tupS,inF_tup true (hn n hn') (fun w hw=>hn w (h2 w hw))]
 ·obtain⟨h1,_,h2⟩:=hL r hr
  simp[tupS]
  omega
 ·have e:(lvA names i).flatMap (fun r=>(names.filter fun n=>!decide (n∈r)).map fun n=>tupS (r++[n]))=(lvA names (i+1)).map tupS:=by
   rw[List.flatMap_def,grow_data]
   rfl
  rw[e]
  simp
theorem levels (hdn:dn=tupS names∨dn=lstS names) (hn:Oks names) (hl:names.length≤4):∀(ds:List D) (i:Nat) (w2 w3 w4:Option W),i+ds.length≤5→allVal [some (.val dn),none,w2,w3,w4]=true→
  ∃u',yForL (gName3 2) bodyA ds [some (.val dn),some (.val (.lst ((lvA names i).map tupS))),w2,w3,w4] o=(((List.range' i ds.length).flatMap (lvA names)).map (fun r=>(tupS r,o)),.nx u' o)
 | [],i,w2,w3,w4,_,_=>⟨_,rfl⟩
 | d :: ds,i,w2,w3,w4,h,hv=>by
  have hv1:allVal [some (.val dn),some (.val (.lst ((lvA names i).map tupS))),some (.val d),none,w4]=true:=by
   simp only[allVal,List.all_cons,Bool.and_eq_true] at hv⊢
   simp_all
  have hv2:allVal [some (.val dn),some (.val (.lst ((lvA names i).map tupS))),some (.val d),w3,w4]=true:=by
   simp only[allVal,List.all_cons,Bool.and_eq_true] at hv⊢
   simp_all
  obtain⟨w3',h3,e3⟩:=rows_out (o:=o) hv1 (lvA names i) w3 hv2
  have e2:yFor (iSeq (eVar 1)) (gName3 3) (yYield (eVar 3)) [some (.val dn),some (.val (.lst ((lvA names i).map tupS))),some (.val d),w3,w4] o=((lvA names i).map fun r=>(tupS r,o),.nx [some (.val dn),some (.val (.lst ((lvA names i).map tupS))),some (.val d),w3',w4] o):=by
   unfold yFor
   rw[show iSeq (eVar 1) [some (.val dn),some (.val (.lst ((lvA names i).map tupS))),some (.val d),w3,w4] o=.ok ((lvA names i).map tupS) o from rfl]
   exact e3
  simp only[List.length_cons] at h
  have e4:=next_rows (o:=o) hdn hn hl (i:=i) (by omega) (w2:=some (.val d)) (w3:=w3') (w4:=w4)
  have e5:bodyA [some (.val dn),some (.val (.lst ((lvA names i).map tupS))),some (.val d),w3,w4] o=((lvA names i).map fun r=>(tupS r,o),.nx [some (.val dn),some (.val (.lst ((lvA names (i+1)).map tupS))),some (.val d),w3',w4] o):=by
   unfold bodyA
   rw[ySeq_nx e2,plain_nx e4,List.append_nil]
  have hv4:allVal [some (.val dn),none,some (.val d),w3',w4]=true:=by
   simp only[allVal,List.all_cons,Bool.and_eq_true] at h3⊢
   simp_all
  obtain⟨u',e6⟩:=levels hdn hn hl ds (i+1) (some (.val d)) w3' w4 (by omega) hv4
  refine⟨u',?_⟩
  rw[forL_cons_nx (show gName3 2 d [some (.val dn),some (.val (.lst ((lvA names i).map tupS))),w2,w3,w4]=some [some (.val dn),some (.val (.lst ((lvA names i).map tupS))),some (.val d),w3,w4] from rfl) e5,e6]
  simp[List.range'_succ]
theorem upA_range:∀n,(List.range' 0 (n+1)).flatMap (lvA names)=upA names n
 | 0=>by simp[lvA,upA]
 | n+1=>by
  rw[List.range'_concat,List.flatMap_append,upA_range n]
  simp[upA]
theorem arr_out (hdn:dn=tupS names∨dn=lstS names) (hn:Oks names) (hl:names.length≤4) (o:Store):yf_arrangements [dn] o=some ((upA names names.length).map (fun r=>(tupS r,o)),o):=by
 have e1:(sSet 1 (eF (fLst (aCons (eTup aNil) aNil)))) [some (.val dn),none,none,none,none] o=.nx [some (.val dn),some (.val (.lst ((lvA names 0).map tupS))),none,none,none] o:=by
  show M3.srun _ (fun r=>r=_)
  simp[lvA,tupS]
 have e2:iRange1 (aCons (eBin addF (eB lenF (aCons (eVar 0) aNil)) (eC (.int 1))) aNil) [some (.val dn),some (.val (.lst ((lvA names 0).map tupS))),none,none,none] o=.ok (rangeD 0 (names.length+1)) o:=by
  show M3.run _ (fun r=>r=_)
  rcases hdn with rfl | rfl <;> simp[tupS,lstS] <;> omega
 obtain⟨u',e3⟩:=levels (o:=o) hdn hn hl (rangeD 0 (names.length+1)) 0 none none none (by rw[rangeD_length];omega) (by rfl)
 rw[rangeD_length,upA_range] at e3
 have e4:yFor (iRange1 (aCons (eBin addF (eB lenF (aCons (eVar 0) aNil)) (eC (.int 1))) aNil)) (gName3 2) bodyA [some (.val dn),some (.val (.lst ((lvA names 0).map tupS))),none,none,none] o=((upA names names.length).map (fun r=>(tupS r,o)),.nx u' o):=by
  unfold yFor
  rw[e2]
  exact e3
 have e5:yb_arrangements [some (.val dn),none,none,none,none] o=((upA names names.length).map (fun r=>(tupS r,o)),.nx u' o):=by
  show ySeq _ (yFor _ _ bodyA) _ _=_
  rw[ySeq_nx (plain_nx e1),e4,List.nil_append]
 unfold yf_arrangements ymf
 rw[show (([dn].map fun d=>some (W.val d))++List.replicate (5 - [dn].length) none:Sl3)=[some (.val dn),none,none,none,none] from rfl,e5]
end
end My
namespace My
open PySem L2 M3
structure Mets (M:List Str):Prop where
 nm:∀n∈M,IsNm n
 nd:M.Nodup
 lo:1≤M.length
 hi:M.length≤3
theorem Mets.ok {M:List Str} (h:Mets M):Oks M:=fun w hw=>okN (h.nm w hw)
theorem bad_part07 {M:List Str} (h:Mets M) (st:Store):mf_bad_part [.lst (M.map .str),.lst [],.ctup [],.str "keep",.str "maker"] st=.ok .non st:=by
 have g:=good_names_spec M 1 3 h.nm h.nd (by have:=h.hi;omega) (by have:=h.lo;omega) (by have:=h.hi;omega) st
 apply of_run
 rw[mf_bad_part,run_mfn]
 simp[mb_bad_part,g,good_none,chosen_none,in_keep,in_maker]
def bookFs7 (cs os:Ctab) (M:List Str) (k:Nat):List (Str×D):=[("orders",ordD os),("class_pairs",.tup (cs.map pairD)),("method_names",.tup (M.map .str)),("layer_names",.tup []),("inner_names",.tup []),
 ("rules",.tup [.str "keep",.str "maker"]),("known",.ref k),("texts",.dd [] [])]
theorem book_init07 {cs os:Ctab} {M:List Str} (hM:Mets M) (h:Cls3 cs) (ne:cs≠[]) (ho:cs.foldlM ordStep []=some os) (st:Store) :
  mf_Book_init [.ref st.length,.lst (cs.map pairD),.lst (M.map .str),.lst [],.dd [] [],.ctup [],.str "keep",.str "maker"] (st++[.ins "Book" []])=.ok .non (st++[.ins "Book" (bookFs7 cs os M (st.length+1)),.ddi [] []]):=by
 apply of_run
 have hl:=h.len
 have h3:=hM.hi
 rw[mf_Book_init,run_mfn]
 simp[mb_Book_init,good_classes_spec h ne,class_orders_spec h ho,bad_part07 hM]
 refine lcA_run (xs:=cs) pairD (fun c=>D.str c.1) (by omega) (fun n hn'=>⟨_,rfl,?_⟩) ?_
 ·simp[pairD]
 simp[good_bodies0,pf0,pf1,pf2,pf3,pf4,pf5,pf6,show M.length≤1000000 by omega]
 rw[run_iKeysDD [] [] (by rfl)]
 simp[pf7,bookFs7]
section
variable {cs os:Ctab} {M:List Str} {st:Store} {a k:Nat}
theorem has_order07 (h:Cls3 cs) (ho:cs.foldlM ordStep []=some os) (hk:st[a]?=some (.ins "Book" (bookFs7 cs os M k))) (bs:List Str) (hb:Oks bs) (hl:bs.length≤100):mf_Book_has_order [.ref a,tupS bs] st=.ok (.bl (orderR os bs).isSome) st:=by
 have od:=book_order_spec h ho (r:=a) (st:=st) ⟨_,hk,rfl,rfl,rfl⟩ bs hb hl
 have lk:(bookFs7 cs os M k).lookup ("order" : Str)=none:=rfl
 apply of_run
 rw[mf_Book_has_order,run_mfn]
 cases e:orderR os bs with
 | none=>
  rw[e] at od
  simp[mb_Book_has_order,hk,lk,od]
  rw[show subT [("NoOrder",true)] "NoOrder" = some true from by decide]
  simp[noExn,tupS,sSuite]
  rw[show sRetV (eC (D.bl false)) [some (W.val (D.ref a)),some (W.val (D.tup (List.map D.str bs)))] st=.rt (.val (.bl false)) st from rfl]
  simp
 | some m=>
  rw[e] at od
  simp[mb_Book_has_order,hk,lk,od]
def ownB (M o:List Str):Bool:=decide (o=M.filter fun n=>decide (n∈o))
theorem eqF_tup07 (neg:Bool) {xs ys:List Str} (hx:Oks xs) (hy:Oks ys):eqF neg (.val (tupS xs)) (.val (tupS ys))=some (.val (.bl (if neg then !decide (xs=ys) else decide (xs=ys)))):=by
 have s:∀{zs:List Str},Oks zs→SeqAt.shaped (.tuple (zs.map .str))=true:=fun {zs} h=>by
  unfold SeqAt.shaped
  rw[PyData.canLay0,canLay_strs h,PyData.depth,depth_strs];rfl
 unfold eqF tupS
 simp only[W_rd_val,D.eqv?,D.py,pys_strs,Option.map_some,s hx,s hy,and_self,if_true,PyData.eqv,eqv_strs]
theorem upA_all (names:List Str):∀n,∀r∈upA names n,r.length≤n∧r.Nodup∧∀w∈r,w∈names
 | 0=>fun r h=>by rw[List.mem_singleton.mp h];simp
 | n+1=>fun r h=>by
  rcases List.mem_append.mp h with q | q
  ·obtain⟨a,b,c⟩:=upA_all names n r q
   exact⟨by omega,b,c⟩
  ·exact lvA_in names (n+1) r q
theorem chosen07 {bs names:List Str} (hb:Oks bs) (hn:Oks names) (hl:bs.length≤900) (st:Store):mf_are_chosen [tupS bs,.tup (names.map .str)] st=.ok (.bl (chosen bs names)) st:=by
 suffices hh:M3.run (mf_are_chosen [tupS bs,tupS names] st) (fun r=>r=.ok (.bl (chosen bs names)) st) from hh
 rw[mf_are_chosen,run_mfn]
 simp[mb_are_chosen,tupS]
 refine lcA_run (xs:=bs) D.str (fun n=>D.bl (decide (n∈names) && decide (bs.count n=1))) (by omega) (fun n hn'=>⟨_,rfl,?_⟩) ?_
 ·simp[inF_tup _ (hb n hn') hn,cntF_str (hb n hn') hb,eqF_int]
  by_cases q:n∈names <;> simp[q]
  omega
 simp[chosen]
theorem can_own07 (hM:Mets M) (hk:st[a]?=some (.ins "Book" (bookFs7 cs os M k))) {o:List Str} (ho:o∈upA M M.length):mf_Book_can_own [.ref a,tupS o] st=.ok (.bl (ownB M o)) st:=by
 obtain⟨l1,nd,sub⟩:=upA_all M _ o ho
 have h3:=hM.hi
 have okO:Oks o:=fun w hw=>hM.ok w (sub w hw)
 have lm:(bookFs7 cs os M k).lookup ("method_names" : Str)=some (.tup (M.map .str)):=rfl
 have ch:=chosen07 okO hM.ok (by omega) st
 rw[chosen_true nd sub] at ch
 have h1:=List.length_filter_le (fun n=>decide (n∈o)) M
 apply of_run
 unfold tupS at ch
 rw[mf_Book_can_own,run_mfn]
 simp[mb_Book_can_own,hk,lm,tupS,ch]
 refine lcM_run (xs:=M) D.str (fun n=>decide (n∈o)) D.str (by omega) (fun n hn'=>⟨_,rfl,?_,fun _=>?_⟩) ?_
 ·simp[inF_tup false (hM.ok n hn') okO]
 ·simp
 have e:=eqF_tup07 false okO (ys:=M.filter fun n=>decide (n∈o)) fun w hw=>hM.ok w (List.mem_filter.mp hw).1
 unfold tupS at e
 simp[show (M.filter fun n=>decide (n∈o)).length≤1000000 by omega,e,ownB]
theorem is_own07 (hM:Mets M) {o:List Str} (ho:o∈upA M M.length) (st:Store):mf_w_is_own [tupS o,.lst (M.map .str)] st=.ok (.bl (ownB M o)) st:=by
 obtain⟨l1,nd,sub⟩:=upA_all M _ o ho
 have h3:=hM.hi
 have okO:Oks o:=fun w hw=>hM.ok w (sub w hw)
 have h1:=List.length_filter_le (fun n=>decide (n∈o)) M
 apply of_run
 rw[mf_w_is_own,run_mfn]
 simp[mb_w_is_own,tupS,show o.length≤1000000 by omega]
 refine lcM_run (xs:=M) D.str (fun n=>decide (n∈o)) D.str (by omega) (fun n hn'=>⟨_,rfl,?_,fun _=>?_⟩) ?_
 ·simp[inF_tup false (hM.ok n hn') okO]
 ·simp
 have e:=eqF_lst false okO (ys:=M.filter fun n=>decide (n∈o)) fun w hw=>hM.ok w (List.mem_filter.mp hw).1
 simp[e,ownB]
theorem ySeq_nx07 {m1 m2:YM} {u u':Sl3} {o o':Store} {xs:List (D×Store)} (h:m1 u o=(xs,.nx u' o')):ySeq m1 m2 u o=(xs++(m2 u' o').1,(m2 u' o').2):=by
 unfold ySeq
 rw[h]
theorem forL_nx07 {g:GM} {b:YM} {d:D} {ds:List D} {u u1 u2:Sl3} {o o2:Store} {xs:List (D×Store)} (e1:g d u=some u1) (e2:b u1 o=(xs,.nx u2 o2)):yForL g b (d :: ds) u o=(xs++(yForL g b ds u2 o2).1,(yForL g b ds u2 o2).2):=by
 rw[yForL]
 simp only[e1,e2]
def kindD (bs o:List Str):D:=.tup [tupS bs,tupS o]
def ownsOf (M:List Str):Ords:=(upA M M.length).filter (ownB M)
def inK:YM:=yIf (tTru (eMeth "can_own" 1 [("Book",mf_Book_can_own)] (eVar 0) (aCons (eVar 4) aNil))) (yYield (eTup (aCons (eVar 2) (aCons (eVar 4) aNil)))) yNext
theorem in_out (hM:Mets M) (hk:st[a]?=some (.ins "Book" (bookFs7 cs os M k))) {d1 d3:Option W} {bs:List Str} (hv:∀w4,allVal [some (.val (.ref a)),d1,some (.val (tupS bs)),d3,some (.val w4)]=true):∀(L:Ords) (w4:Option W),(∀o∈L,o∈upA M M.length)→
  ∃w4',yForL (gName3 4) inK (L.map tupS) [some (.val (.ref a)),d1,some (.val (tupS bs)),d3,w4] st=((L.filter (ownB M)).map fun o=>(kindD bs o,st),.nx [some (.val (.ref a)),d1,some (.val (tupS bs)),d3,w4'] st)∧(w4'=w4∨∃d,w4'=some (.val d))
 | [],w4,_=>⟨w4,rfl,.inl rfl⟩
 | o :: L,w4,h=>by
  obtain⟨w4',e,q⟩:=in_out hM hk hv L (some (.val (tupS o))) fun x hx=>h x (List.mem_cons_of_mem _ hx)
  refine⟨w4',?_,.inr (q.elim (fun z=>⟨_,z⟩) id)⟩
  have co:=can_own07 (st:=st) hM hk (h o List.mem_cons_self)
  have lk:(bookFs7 cs os M k).lookup ("can_own" : Str)=none:=rfl
  have t:tTru (eMeth "can_own" 1 [("Book",mf_Book_can_own)] (eVar 0) (aCons (eVar 4) aNil)) [some (.val (.ref a)),d1,some (.val (tupS bs)),d3,some (.val (tupS o))] st=.ok (ownB M o) st:=by
   show M3.run _ (fun r=>r=_)
   simp[hk,lk,co]
  rw[List.map_cons]
  have g1:gName3 4 (tupS o) [some (.val (.ref a)),d1,some (.val (tupS bs)),d3,w4]=some [some (.val (.ref a)),d1,some (.val (tupS bs)),d3,some (.val (tupS o))]:=rfl
  cases eo:ownB M o with
  | true=>
   have e2:inK [some (.val (.ref a)),d1,some (.val (tupS bs)),d3,some (.val (tupS o))] st=([(kindD bs o,st)],.nx [some (.val (.ref a)),d1,some (.val (tupS bs)),d3,some (.val (tupS o))] st):=by
    unfold inK yIf
    rw[t,eo]
    dsimp only
    unfold yYield
    rw[show eTup (aCons (eVar 2) (aCons (eVar 4) aNil)) [some (.val (.ref a)),d1,some (.val (tupS bs)),d3,some (.val (tupS o))] st=.ok (.val (kindD bs o)) st from rfl]
    dsimp only
    rw[if_pos (hv _)]
   rw[forL_nx07 g1 e2,e,List.filter_cons_of_pos eo]
   rfl
  | false=>
   have e2:inK [some (.val (.ref a)),d1,some (.val (tupS bs)),d3,some (.val (tupS o))] st=([],.nx [some (.val (.ref a)),d1,some (.val (tupS bs)),d3,some (.val (tupS o))] st):=by
    unfold inK yIf
    rw[t,eo]
    rfl
   rw[forL_nx07 g1 e2,e,List.filter_cons_of_neg (by simp[eo])]
   rfl
theorem noRs07 (ws:List Str):D.noRs (ws.map .str)=true:=by
 induction ws with
 | nil=>rfl
 | cons w ws ih=>
  show (D.noR (.str w) && D.noRs (ws.map .str))=true
  rw[ih]
  rfl
theorem gen07 {names:List Str} {dn:D} (hdn:dn=tupS names∨dn=lstS names) (hn:Oks names) (hl:names.length≤4) {ma:AM} {u:Sl3} (e1:ma u st=.ok [.val dn] st) :
  gCall 1 true yf_arrangements ma u st=some ((upA names names.length).map (fun r=>(tupS r,([]:Store))),[],st):=by
 have e2:=arr_out hdn hn hl []
 have nr:D.noRs [dn]=true:=by
  rcases hdn with rfl | rfl
  ·rw[show D.noRs [tupS names]=(D.noRs (names.map .str) && true) from rfl,noRs07];rfl
  ·rw[show D.noRs [lstS names]=(D.noRs (names.map .str) && true) from rfl,noRs07];rfl
 have e3:gMade true yf_arrangements [dn] st=some ((upA names names.length).map (fun r=>(tupS r,([]:Store))),[],st):=by
  unfold gMade
  rw[if_neg (by rw[nr];simp),show gO true st=[] from rfl,e2]
  dsimp only
  rw[if_neg (by simp)]
 unfold gCall
 rw[e1]
 dsimp only
 rw[show asDs [W.val dn]=some [dn] from rfl]
 dsimp only
 rw[if_pos (show [dn].length=1 from rfl)]
 exact e3
def kindsAt (os:Ctab) (M:List Str) (bs:List Str):List D:=if (orderR os bs).isSome=true then (ownsOf M).map (kindD bs) else []
def outK:YM:=yIf (tTru (eMeth "has_order" 1 [("Book",mf_Book_has_order)] (eVar 0) (aCons (eVar 2) aNil))) (yForG (gCall 1 true yf_arrangements (aCons (eFld ["Book"] "method_names" (eVar 0)) aNil)) (gName3 4) inK) yNext
theorem out_out (hM:Mets M) (h:Cls3 cs) (ho:cs.foldlM ordStep []=some os) (hk:st[a]?=some (.ins "Book" (bookFs7 cs os M k))) {dn:D}:∀(L:Ords) (w2 w4:Option W),(∀bs∈L,Oks bs∧bs.length≤100)→
  ∃u',yForL (gName3 2) outK (L.map tupS) [some (.val (.ref a)),some (.val dn),w2,none,w4] st=((L.flatMap (kindsAt os M)).map fun d=>(d,st),.nx u' st)
 | [],w2,w4,_=>⟨_,rfl⟩
 | bs :: L,w2,w4,hL=>by
  obtain⟨hb,hl⟩:=hL bs List.mem_cons_self
  have od:=has_order07 (st:=st) h ho hk bs hb hl
  have lk:(bookFs7 cs os M k).lookup ("has_order" : Str)=none:=rfl
  have lm:(bookFs7 cs os M k).lookup ("method_names" : Str)=some (.tup (M.map .str)):=rfl
  have t:tTru (eMeth "has_order" 1 [("Book",mf_Book_has_order)] (eVar 0) (aCons (eVar 2) aNil)) [some (.val (.ref a)),some (.val dn),some (.val (tupS bs)),none,w4] st=.ok (orderR os bs).isSome st:=by
   show M3.run _ (fun r=>r=_)
   simp[hk,lk,od]
  rw[List.map_cons]
  have g1:gName3 2 (tupS bs) [some (.val (.ref a)),some (.val dn),w2,none,w4]=some [some (.val (.ref a)),some (.val dn),some (.val (tupS bs)),none,w4]:=rfl
  cases eo:(orderR os bs).isSome with
  | true=>
   obtain⟨w4',e,_⟩:=in_out (st:=st) hM hk (d1:=some (.val dn)) (d3:=none) (bs:=bs) (fun _=>rfl) (upA M M.length) w4 fun _ q=>q
   have eg:=gen07 (st:=st) (names:=M) (dn:=tupS M) (.inl rfl) hM.ok (by have:=hM.hi;omega) (ma:=aCons (eFld ["Book"] "method_names" (eVar 0)) aNil) (u:=[some (.val (.ref a)),some (.val dn),some (.val (tupS bs)),none,w4]) (by
    show M3.run _ (fun r=>r=_)
    simp[hk,lm,tupS])
   have e2:outK [some (.val (.ref a)),some (.val dn),some (.val (tupS bs)),none,w4] st=(((ownsOf M).map (kindD bs)).map fun d=>(d,st),.nx [some (.val (.ref a)),some (.val dn),some (.val (tupS bs)),none,w4'] st):=by
    unfold outK yIf
    rw[t,eo]
    dsimp only
    unfold yForG
    rw[eg]
    dsimp only
    rw[List.map_map,show ((fun x:D×Store=>x.1)∘fun r:List Str=>(tupS r,([]:Store)))=tupS from rfl,e,List.map_map]
    rfl
   obtain⟨u',e5⟩:=out_out hM h ho hk (dn:=dn) L (some (.val (tupS bs))) w4' fun x hx=>hL x (List.mem_cons_of_mem _ hx)
   refine⟨u',?_⟩
   rw[forL_nx07 g1 e2,e5,List.flatMap_cons,List.map_append]
   simp[kindsAt,eo]
  | false=>
   have e2:outK [some (.val (.ref a)),some (.val dn),some (.val (tupS bs)),none,w4] st=([],.nx [some (.val (.ref a)),some (.val dn),some (.val (tupS bs)),none,w4] st):=by
    unfold outK yIf
    rw[t,eo]
    rfl
   obtain⟨u',e5⟩:=out_out hM h ho hk (dn:=dn) L (some (.val (tupS bs))) w4 fun x hx=>hL x (List.mem_cons_of_mem _ hx)
   refine⟨u',?_⟩
   rw[forL_nx07 g1 e2,e5,List.flatMap_cons,List.map_append]
   simp[kindsAt,eo]
def kindsL (cs os:Ctab) (M:List Str):List D:=(upA (keysS cs) (keysS cs).length).flatMap (kindsAt os M)
theorem kinds_out (hM:Mets M) (h:Cls3 cs) (ho:cs.foldlM ordStep []=some os) (hk:st[a]?=some (.ins "Book" (bookFs7 cs os M k))):yf_Book_kinds [.ref a] st=some ((kindsL cs os M).map (fun d=>(d,st)),st):=by
 have l3:=h.len
 have lc:(bookFs7 cs os M k).lookup ("class_pairs" : Str)=some (.tup (cs.map pairD)):=rfl
 have kl:(keysS cs).length=cs.length:=by simp[keysS]
 have e1:sSet 1 (eF (fLc (iSeq (eFld ["Book"] "class_pairs" (eVar 0))) (gName3 3) tYes3 (eBin ixF (eVar 3) (eC (.int 0))) [3])) [some (.val (.ref a)),none,none,none,none] st=.nx [some (.val (.ref a)),some (.val (lstS (keysS cs))),none,none,none] st:=by
  show M3.srun _ (fun r=>r=_)
  simp[hk,lc]
  refine lcA_run (xs:=cs) pairD (fun c=>D.str c.1) (by omega) (fun n hn'=>⟨_,rfl,?_⟩) ?_
  ·simp[pairD]
  rw[keysS_map]
  simp[lstS]
 have eg:=gen07 (st:=st) (names:=keysS cs) (dn:=lstS (keysS cs)) (.inr rfl) h.okk (by omega) (ma:=aCons (eVar 1) aNil) (u:=[some (.val (.ref a)),some (.val (lstS (keysS cs))),none,none,none]) rfl
 obtain⟨u',e5⟩:=out_out hM h ho hk (dn:=lstS (keysS cs)) (upA (keysS cs) (keysS cs).length) none none fun bs hb=>by
  obtain⟨q1,_,q3⟩:=upA_all _ _ bs hb
  exact⟨fun w hw=>h.okk w (q3 w hw),by omega⟩
 have e4:yb_Book_kinds [some (.val (.ref a)),none,none,none,none] st=((kindsL cs os M).map (fun d=>(d,st)),.nx u' st):=by
  show ySeq _ (yForG _ _ outK) _ _=_
  rw[ySeq_nx07 (plain_nx e1),List.nil_append]
  unfold yForG
  rw[eg]
  dsimp only
  rw[List.map_map,show ((fun x:D×Store=>x.1)∘fun r:List Str=>(tupS r,([]:Store)))=tupS from rfl,e5]
  rfl
 unfold yf_Book_kinds ymf
 rw[show (([D.ref a].map fun d=>some (W.val d))++List.replicate (5 - [D.ref a].length) none:Sl3)=[some (.val (.ref a)),none,none,none,none] from rfl,e4]
end
end My
namespace My
open PySem L2 M3
section
variable {cs os:Ctab} {M:List Str} {st:Store} {a k:Nat}
theorem upA_tail (names:List Str):∀n,∃t,upA names n=[] :: t∧∀o∈t,o≠[]
 | 0=>⟨[],rfl,fun o h=>by cases h⟩
 | n+1=>by
  obtain⟨t,e,h⟩:=upA_tail names n
  refine⟨t++lvA names (n+1),by rw[show upA names (n+1)=upA names n++lvA names (n+1) from rfl,e];rfl,fun o ho=>?_⟩
  rcases List.mem_append.mp ho with q | q
  ·exact h o q
  ·obtain⟨r,hr,w,hw,nw,rfl⟩:=grow_mem q
   simp
theorem kindsAt_len (hM:Mets M) (bs:List Str):(kindsAt os M bs).length≤769:=by
 have h1:=upA_len (names:=M) (by have:=hM.hi;omega) M.length (by have:=hM.hi;omega)
 have h2:=List.length_filter_le (ownB M) (upA M M.length)
 have h3:=hM.hi
 unfold kindsAt
 split
 ·rw[List.length_map]
  unfold ownsOf
  omega
 ·simp
theorem flat_len (hM:Mets M):∀L:Ords,(L.flatMap (kindsAt os M)).length≤769 * L.length
 | []=>by simp
 | b :: L=>by
  have h1:=flat_len hM L
  have h2:=kindsAt_len (os:=os) hM b
  rw[List.flatMap_cons,List.length_append,List.length_cons]
  omega
def specD (cs:Ctab) (M:List Str):D:=.dict [.inr "methods",.inr "classes"] [.lst (M.map .str),.lst (cs.map pairD)]
theorem at_classes (x y:D):atK (κ:=Key) [Sum.inr "methods",Sum.inr "classes"] [x,y] (Sum.inr "classes")=some y:=by rfl
theorem at_methods (x y:D):atK (κ:=Key) [Sum.inr "methods",Sum.inr "classes"] [x,y] (Sum.inr "methods")=some x:=by rfl
set_option maxHeartbeats 8000000 in
theorem every_kind07 (hM:Mets M) (h:Cls3 cs) (ho:cs.foldlM ordStep []=some os) (st:Store):mf_w_every_kind [specD cs M] st=.ok (.lst (kindsL cs os M)) st:=by
 apply of_run
 have l3:=h.len
 have h3:=hM.hi
 have kl:(keysS cs).length=cs.length:=by simp[keysS]
 obtain⟨t,k',okt⟩:=h.orders ho
 rw[mf_w_every_kind,run_mfn]
 simp[mb_w_every_kind,specD,at_classes,at_methods]
 refine lcA_run (xs:=cs) pairD (fun c=>D.str c.1) (by omega) (fun n hn'=>⟨_,rfl,?_⟩) ?_
 ·simp[pairD]
 rw[keysS_map]
 have am:=arranged_lv M hM.ok (by omega) st
 have ac:=arranged_lv (keysS cs) h.okk (by omega) st
 have bm:=upA_len (names:=M) (by omega) M.length (by omega)
 have bc:=upA_len (names:=keysS cs) (by omega) (keysS cs).length (by omega)
 simp[am,at_classes,at_methods]
 refine lcM_run (xs:=upA M M.length) tupS (ownB M) tupS (by omega) (fun o ho'=>⟨_,rfl,?_,fun _=>?_⟩) ?_
 ·simp[is_own07 hM ho',at_classes,at_methods]
 ·simp
 have e:(keysS cs).map D.str=cs.map (D.str∘fun x=>x.fst):=by simp[keysS]
 rw[e] at ac
 obtain⟨T,eT,hT⟩:=upA_tail (keysS cs) (keysS cs).length
 have inT:∀bs∈T,bs∈upA (keysS cs) (keysS cs).length:=fun bs hb=>by rw[eT];exact List.mem_cons_of_mem _ hb
 have lT:T.length≤769:=by rw[eT,List.length_cons] at bc;omega
 simp[ac]
 rw[cutD_map,cut_from _ (by decide),show Int.toNat 1=1 from rfl,←kl,eT,show (([] :: T:Ords).drop 1)=T from rfl]
 refine forL_run (fun i u st'=>st'=st∧∃x4 x5 x6,u=[some (.val (specD cs M)),some (.val (.lst (cs.map (D.str∘fun x=>x.fst)))),some (.val (.lst ((ownsOf M).map tupS))),some (.val (.lst ((T.take i).flatMap (kindsAt os M)))),x4,x5,x6]) ⟨rfl,_,_,_,rfl⟩ ?_ ?_
 ·rintro i d u st' hd ⟨rfl,x4,x5,x6,rfl⟩
  obtain⟨bs,hq,rfl⟩:=get_map hd
  have mem:=List.mem_of_getElem? hq
  obtain⟨q1,q2,q3⟩:=upA_all _ _ bs (inT bs mem)
  obtain⟨os',ho',_,_,sp⟩:=ordered_cls (w:=.val (.lst (cs.map pairD))) rfl h q3 (by omega) st'
  rw[ho] at ho'
  cases ho'
  have ch:orderR os bs=mergeG (nonempty (left0 os bs)) []:=by
   unfold orderR
   rw[if_pos ⟨chosen_true q2 (by rw[k'];exact q3),hT bs mem⟩]
  rw[←ch] at sp
  have tk:(T.take (i+1)).flatMap (kindsAt os M)=(T.take i).flatMap (kindsAt os M)++kindsAt os M bs:=by
   rw[List.take_succ,hq]
   simp
  have fl:=flat_len (os:=os) hM (T.take i)
  have kl2:=kindsAt_len (os:=os) hM bs
  have tl:(T.take i).length≤769:=by rw[List.length_take];omega
  refine⟨_,rfl,?_⟩
  have ow:(ownsOf M).length≤769:=by
   have:=List.length_filter_le (ownB M) (upA M M.length)
   unfold ownsOf
   omega
  simp[specD,at_classes,at_methods,sp]
  cases eo:orderR os bs with
  | none=>
   simp[isNF,tk,kindsAt,eo]
  | some m=>
   simp[isNF,lstS]
   refine lcA_run (xs:=ownsOf M) tupS (fun o=>kindD bs o) (by omega) (fun n hn'=>⟨_,rfl,?_⟩) ?_
   ·simp[kindD]
   have kb:kindsAt os M bs=(ownsOf M).map (kindD bs):=by simp[kindsAt,eo]
   simp[tk,kb]
   simp at fl
   omega
 ·rintro u st' ⟨rfl,x4,x5,x6,rfl⟩
  have:T.take (T.map tupS).length=T:=by simp
  rw[this]
  simp[kindsL]
  rw[←kl,eT,List.flatMap_cons]
  simp[kindsAt,orderR]
end
end My
namespace My
open PySem L2 M3
def Self (d:D):Prop:=∃p,d.py=some p∧p.canLay0=true∧p.depth≤3∧PyData.eqv p p=true
theorem selfAll:∀{xs:List D},(∀d∈xs,Self d)→∃ps,D.pys xs=some ps∧PyData.canLayAll0 ps=true∧PyData.depthAll ps≤3∧PyData.eqvAll ps ps=true
 | [],_=>⟨[],rfl,rfl,by simp[PyData.depthAll],by simp[PyData.eqvAll]⟩
 | d :: xs,h=>by
  obtain⟨p,h1,h2,h3,h4⟩:=h d List.mem_cons_self
  obtain⟨ps,t1,t2,t3,t4⟩:=selfAll (xs:=xs) fun x hx=>h x (List.mem_cons_of_mem _ hx)
  exact⟨p :: ps,by rw[D.pys,h1,t1],by rw[PyData.canLayAll0,h2,t2];rfl,by rw[PyData.depthAll];exact Nat.max_le.mpr ⟨h3,t3⟩,by rw[PyData.eqvAll,h4,t4];rfl⟩
theorem eqF_same07 {xs:List D} (h:∀d∈xs,Self d) (neg:Bool):eqF neg (.val (.lst xs)) (.val (.lst xs))=some (.val (.bl (!neg))):=by
 obtain⟨ps,h1,h2,h3,h4⟩:=selfAll h
 have s:SeqAt.shaped (.list ps)=true:=by
  unfold SeqAt.shaped
  rw[PyData.canLay0,h2,PyData.depth]
  simp
  omega
 unfold eqF
 simp only[W_rd_val,D.eqv?,D.py,h1,Option.map_some,s,and_self,if_true,PyData.eqv,h4]
 cases neg <;> rfl
theorem self_kind {bs o:List Str} (hb:Oks bs) (ho:Oks o):Self (kindD bs o):=by
 refine⟨.tuple [.tuple (bs.map .str),.tuple (o.map .str)],?_,?_,?_,?_⟩
 ·simp[kindD,tupS,D.py,D.pys,pys_strs]
 ·rw[PyData.canLay0,PyData.canLayAll0,PyData.canLayAll0,PyData.canLayAll0,PyData.canLay0,PyData.canLay0,canLay_strs hb,canLay_strs ho]
  rfl
 ·have h1:=depth_strs bs
  have h2:=depth_strs o
  simp[PyData.depth,PyData.depthAll,h1,h2]
 ·simp[PyData.eqv,PyData.eqvAll,eqv_strs]
theorem kinds_at {cs os:Ctab} {M:List Str} (hM:Mets M) (h:Cls3 cs) {d:D} (hd:d∈kindsL cs os M):∃bs o,d=kindD bs o∧Oks bs∧Oks o:=by
 unfold kindsL at hd
 obtain⟨bs,hb,q⟩:=List.mem_flatMap.mp hd
 unfold kindsAt at q
 split at q
 ·obtain⟨o,ho,rfl⟩:=List.mem_map.mp q
  obtain⟨_,_,s1⟩:=upA_all _ _ bs hb
  obtain⟨_,_,s2⟩:=upA_all _ _ o (List.mem_filter.mp ho).1
  exact⟨bs,o,rfl,fun w hw=>h.okk w (s1 w hw),fun w hw=>hM.ok w (s2 w hw)⟩
 ·cases q
theorem kinds_len {cs os:Ctab} {M:List Str} (hM:Mets M) (h:Cls3 cs):(kindsL cs os M).length≤600000:=by
 have c3:=h.len
 have kl:(keysS cs).length=cs.length:=by simp[keysS]
 have h1:=flat_len (os:=os) hM (upA (keysS cs) (keysS cs).length)
 have h2:=upA_len (names:=keysS cs) (by omega) (keysS cs).length (by omega)
 unfold kindsL
 omega
end My
namespace My
open PySem L2 M3
def kd (p:List Str×List Str):D:=kindD p.1 p.2
theorem isi_tup07 (xs:List D):isi2F [.val (.tup xs),.val (.ty "tuple")]=some (.val (.bl true)):=by
 first
  | rfl
  | simp[isi2F]
theorem split07:∀{K:List D},(∀d∈K,∃bs o,d=kindD bs o∧Oks bs∧Oks o)→∃PS:List (List Str×List Str),K=PS.map kd∧∀p∈PS,Oks p.1∧Oks p.2
 | [],_=>⟨[],rfl,fun p h=>by cases h⟩
 | d :: K,h=>by
  obtain⟨bs,o,rfl,h1,h2⟩:=h d List.mem_cons_self
  obtain⟨PS,rfl,q⟩:=split07 (K:=K) fun x hx=>h x (List.mem_cons_of_mem _ hx)
  refine⟨(bs,o) :: PS,rfl,fun p hp=>?_⟩
  rcases List.mem_cons.mp hp with rfl | y
  ·exact⟨h1,h2⟩
  ·exact q p y
theorem run_at07 {α:Type} {r x:Res α} (e:r=x) {k:Res α→Prop} (h:M3.run x k):M3.run r k:=e▸h
theorem gen_kinds {cs os:Ctab} {M:List Str} {st:Store} {a k:Nat} (hM:Mets M) (h:Cls3 cs) (ho:cs.foldlM ordStep []=some os) (hk:st[a]?=some (.ins "Book" (bookFs7 cs os M k))) {u:Sl3} (hu:u[4]?=some (some (.val (.ref a)))) :
  fGen (gMeth "kinds" "Book" yf_Book_kinds (eVar 4)) false u st=.ok (kindsL cs os M) st:=by
 have e2:=kinds_out hM h ho hk
 have kb:=kinds_len (os:=os) hM h
 have e3:gMade false yf_Book_kinds [.ref a] st=some ((kindsL cs os M).map (fun d=>(d,st)),st,st):=by
  unfold gMade
  rw[if_neg (by simp),show gO false st=st from rfl,e2]
  dsimp only
  rw[if_neg (by simp)]
 have e4:gMeth "kinds" "Book" yf_Book_kinds (eVar 4) u st=some ((kindsL cs os M).map (fun d=>(d,st)),st,st):=by
  unfold gMeth
  rw[show eVar 4 u st=.ok (.val (.ref a)) st by unfold eVar;rw[hu]]
  dsimp only
  rw[hk]
  dsimp only
  rw[if_pos ⟨rfl,rfl⟩]
  exact e3
 unfold fGen
 rw[e4]
 dsimp only
 rw[if_pos (by rw[List.length_map];omega)]
 simp[gN,Function.comp_def]
theorem put_m (x:D):putK3 (κ:=Key) [] [] (Sum.inr "methods") x=(([Sum.inr "methods"]:List Key),[x]):=by rfl
theorem put_c (x y:D):putK3 (κ:=Key) [Sum.inr "methods"] [x] (Sum.inr "classes") y=(([Sum.inr "methods",Sum.inr "classes"]:List Key),[x,y]):=by rfl
set_option maxHeartbeats 8000000 in
theorem law_true (ns:List Int) (hl:ns.length≤63) (hb:∀i∈ns,i.natAbs.log2≤1048576):∃st,mf_law [.ro (ns.map .int)] []=.ok (.bl true) st:=by
 suffices h:M3.run (mf_law [.ro (ns.map .int)] []) (fun r=>∃st,r=.ok (.bl true) st) from h
 obtain⟨c0,ec0,hc0⟩:=cell_at_spec ns 0 (by omega) hb hl []
 obtain⟨ds,eds,hd⟩:=digits_spec c0 3 9 hc0 (by decide) (by decide) []
 have dg:∀i,i<9→∃k:Nat,ds[i]?=some (k:Int)∧k<5040:=fun i hi=>by
  have hi':i<ds.length:=by rw[hd.1];exact hi
  have:=hd.2 ds[i] (List.getElem_mem hi')
  exact⟨ds[i].toNat,by rw[List.getElem?_eq_getElem hi'];congr 1;omega,by omega⟩
 obtain⟨d0,g0,b0⟩:=dg 0 (by decide)
 obtain⟨d1,g1,b1⟩:=dg 1 (by decide)
 obtain⟨d5,g5,b5⟩:=dg 5 (by decide)
 obtain⟨d6,g6,b6⟩:=dg 6 (by decide)
 obtain⟨m1,e1,l1,u1⟩:∃m:Nat,(1:Int)+(d1:Int) % 3=m∧1≤m∧m≤3:=⟨1+d1 % 3,by omega,by omega,by omega⟩
 obtain⟨m2,e2,l2,u2⟩:∃m:Nat,(1:Int)+(d6:Int) % 3=m∧1≤m∧m≤3:=⟨1+d6 % 3,by omega,by omega,by omega⟩
 have s0:=spelled_spec d0 3 b0 (by decide) []
 have s5:=spelled_spec d5 3 b5 (by decide) []
 obtain⟨M,hMd⟩:∃M,M=(words d0 3).take m1:=⟨_,rfl⟩
 have wl0:(words d0 3).length=3:=words_length ..
 have wl5:(words d5 3).length=3:=words_length ..
 have hM:Mets M:=⟨fun n hn=>words_nm (by rw[hMd] at hn;exact List.mem_of_mem_take hn),by rw[hMd];exact(words_nodup d0 (by decide)).sublist (List.take_sublist _ _),by rw[hMd,List.length_take];omega,by rw[hMd,List.length_take];omega⟩
 have l9:ds.length=9:=hd.1
 obtain⟨cs,ecs,hC,hK⟩:=class_list_spec ((ds.drop 2).take 3) ((words d5 3).take m2) (fun d hd'=>hd.2 d (List.mem_of_mem_drop (List.mem_of_mem_take hd'))) (by simp;omega) ((words_nodup d5 (by decide)).sublist (List.take_sublist _ _)) (fun n hn=>words_nm (List.mem_of_mem_take hn)) (by simp;omega) []
 have ne:cs≠[]:=by
  rintro rfl
  have:=congrArg List.length hK
  simp[keysS] at this
  omega
 obtain⟨os,ho⟩:=hC.ord
 have bi:=book_init07 hM hC ne ho []
 simp only[List.length_nil,List.nil_append] at bi
 have ek:mf_w_every_kind [.dict [Sum.inr "methods",Sum.inr "classes"] [.lst (M.map .str),.lst (cs.map pairD)]] []=_:=every_kind07 hM hC ho []
 have h3:=hM.hi
 have c3:=hC.len
 rw[mf_law,run_mfn]
 simp[mb_law]
 rw[show mf_w_cell_at [.ro (ns.map .int),.int 0] []=_ from ec0]
 simp
 rw[show mf_w_digits [.int c0,.int 3,.int 9] []=_ from eds]
 simp
 rw[run_sSetK 2 _ _ rfl]
 simp[g0,g1,e1,show mf_w_spelled [.int d0,.int 3] []=_ from s0,cutT]
 rw[←List.map_take,←hMd,put_m]
 rw[run_sSetK 2 _ _ rfl]
 simp[g5,g6,e2,show mf_w_spelled [.int d5,.int 3] []=_ from s5]
 rw[cutD_map,cutD_map,cut_mid _ (by decide) (by decide),cutT,show (Int.toNat 5 - Int.toNat 2)=3 from rfl,show Int.toNat 2=2 from rfl,ecs]
 simp[put_c]
 rw[run_sFrzD 2 rfl]
 have kb:=kinds_len (os:=os) hM hC
 have ka:=fun d hd=>kinds_at (os:=os) (d:=d) hM hC hd
 obtain⟨PS,hK,hPS⟩:=split07 ka
 have lP:PS.length≤600000:=by rw[hK,List.length_map] at kb;exact kb
 have al:allF [.val (.lst (PS.map fun _=>D.bl true))]=some (.val (.bl true)):=by
  rw[show (PS.map fun _=>D.bl true)=PS.map (fun x=>D.bl ((fun _=>true) x)) from rfl,allF_mapF]
  simp
 have eqK:eqF true (.val (.lst (PS.map kd))) (.val (.lst (PS.map kd)))=some (.val (.bl false)):=eqF_same07 (fun d hd=>by
  obtain⟨p,hp,rfl⟩:=List.mem_map.mp hd
  exact self_kind (hPS p hp).1 (hPS p hp).2) true
 simp[ek,at_classes,at_methods,bi,show M.length≤1000000 by omega,show cs.length≤1000000 by omega]
 rw[hK]
 refine forL_run (fun i u st'=>st'=[MO.ins "Book" (bookFs7 cs os M 1),MO.ddi [] []]∧∃x5 x6 x7,u=[some (.val (.ro (ns.map .int))),some (.val (.lst (ds.map .int))),some (.val (specD cs M)),some (.val (.lst (PS.map kd))),some (.val (.ref 0)),x5,x6,x7]) ⟨rfl,_,_,_,rfl⟩ ?_ ?_
 ·rintro i d u st' hd' ⟨rfl,x5,x6,x7,rfl⟩
  refine⟨_,rfl,?_⟩
  have go:=gen_kinds hM hC ho (st:=[MO.ins "Book" (bookFs7 cs os M 1),MO.ddi [] []]) (a:=0) (k:=1) rfl (u:=[some (.val (.ro (ns.map .int))),some (.val (.lst (ds.map .int))),some (.val (specD cs M)),some (.val (.lst (PS.map kd))),some (.val (.ref 0)),some (.val d),x6,x7]) rfl
  rw[hK] at go
  simp
  refine run_at07 go ?_
  simp[eqF_int]
  refine lcA_run (xs:=PS) kd (fun _=>.bl true) (by omega) (fun p hp=>⟨_,rfl,?_⟩) ?_
  ·simp[kd,kindD,isi_tup07,eqF_int]
  simp[al]
  refine lcA_run (xs:=PS) kd (fun _=>.bl true) (by omega) (fun p hp=>⟨_,rfl,?_⟩) ?_
  ·simp[kd,kindD,tupS,isi_tup07]
  simp[al,eqK]
 ·rintro u st' ⟨rfl,x5,x6,x7,rfl⟩
  simp
end My
namespace My
open PySem L2 M3
def top (i:Nat):Stmt:=PySem.Challenge.pw_switchedlayers_k07_kinds.main.body.getD i (.Pass ⟨0,0,0,0⟩)
structure Txt (K:PySem.W.Frag) (mg:Str→Option Value) (G:G3):Prop where
 hK:K=G.K
 z_all:mg "all" = none
 z_any:mg "any" = none
 z_dict:mg "dict" = none
 z_int:mg "int" = none
 z_isinstance:mg "isinstance" = none
 z_len:mg "len" = none
 z_list:mg "list" = none
 z_range:mg "range" = none
 z_set:mg "set" = none
 z_str:mg "str" = none
 z_sum:mg "sum" = none
 z_tuple:mg "tuple" = none
 g_BARE_ROWS:GTup K mg "BARE_ROWS" ["set 0","set 1","if","else","end","proceed","run","yield"]
 g_LETTERS:∃t,mg "LETTERS" = some (.str "abcdefghijklmnopqrstuvwxyz" t)
 g_MOST_BLOCKS:∃t,mg "MOST_BLOCKS" = some (.int 3 t)
 g_MOST_ROWS:∃t,mg "MOST_ROWS" = some (.int 10 t)
 f_orders:∀c∈(["Book"]:List String),FldOk K G c "orders"
 f_class_pairs:∀c∈(["Book"]:List String),FldOk K G c "class_pairs"
 f_method_names:∀c∈(["Book"]:List String),FldOk K G c "method_names"
 f_layer_names:∀c∈(["Book"]:List String),FldOk K G c "layer_names"
 f_inner_names:∀c∈(["Book"]:List String),FldOk K G c "inner_names"
 f_rules:∀c∈(["Book"]:List String),FldOk K G c "rules"
 f_known:∀c∈(["Book"]:List String),FldOk K G c "known"
 f_texts:∀c∈(["Book"]:List String),FldOk K G c "texts"
 n_NoOrder:mg "NoOrder" = some (cvOf G "NoOrder")
 x_NoOrder:∀q∈([("NoOrder",true)]:List (String×Bool)),PySem.W.exmOne K (cvOf G q.1) (cvOf G "NoOrder")=some q.2
 r_NoOrder:ExcOk K mg G "NoOrder" "NoOrder"
abbrev s_w_digits:Stmt:=top 29
abbrev n_w_digits:List Str:=["_law_cell","_law_salt","_law_many","_law_draws","_law_rest","_law_k","_law_mixed"]
theorem sc_w_digits:FnScope n_w_digits ["_law_cell","_law_salt","_law_many"] (defScope s_w_digits):=⟨rfl,rfl,rfl,by decide +kernel,rfl,by decide +kernel,by decide +kernel⟩
abbrev s_w_cell_at:Stmt:=top 28
abbrev n_w_cell_at:List Str:=["_law_script","_law_k"]
theorem sc_w_cell_at:FnScope n_w_cell_at ["_law_script","_law_k"] (defScope s_w_cell_at):=⟨rfl,rfl,rfl,by decide +kernel,rfl,by decide +kernel,by decide +kernel⟩
abbrev s_w_spelled:Stmt:=top 30
abbrev n_w_spelled:List Str:=["_law_draw","_law_many","_law_letters","_law_first","_law_place","_law_more","_law_signs","_law_rests","_law_k"]
theorem sc_w_spelled:FnScope n_w_spelled ["_law_draw","_law_many"] (defScope s_w_spelled):=⟨rfl,rfl,rfl,by decide +kernel,rfl,by decide +kernel,by decide +kernel⟩
abbrev s_w_ordered:Stmt:=top 31
abbrev n_w_ordered:List Str:=["_law_classes","_law_bases","_law_orders","_law_pair","_law_left","_law_merged","_law_turn","_law_heads","_law_free","_law_name","_law_order"]
theorem sc_w_ordered:FnScope n_w_ordered ["_law_classes","_law_bases"] (defScope s_w_ordered):=⟨rfl,rfl,rfl,by decide +kernel,rfl,by decide +kernel,by decide +kernel⟩
abbrev s_w_class_list:Stmt:=top 35
abbrev n_w_class_list:List Str:=["_law_draws","_law_names","_law_classes","_law_k","_law_menu","_law_bases","_law_name"]
theorem sc_w_class_list:FnScope n_w_class_list ["_law_draws","_law_names"] (defScope s_w_class_list):=⟨rfl,rfl,rfl,by decide +kernel,rfl,by decide +kernel,by decide +kernel⟩
abbrev s_w_arranged:Stmt:=top 32
abbrev n_w_arranged:List Str:=["_law_names","_law_found","_law_last","_law_size","_law_row","_law_name"]
theorem sc_w_arranged:FnScope n_w_arranged ["_law_names"] (defScope s_w_arranged):=⟨rfl,rfl,rfl,by decide +kernel,rfl,by decide +kernel,by decide +kernel⟩
abbrev s_w_is_own:Stmt:=top 33
abbrev n_w_is_own:List Str:=["_law_own","_law_names","_law_name"]
theorem sc_w_is_own:FnScope n_w_is_own ["_law_own","_law_names"] (defScope s_w_is_own):=⟨rfl,rfl,rfl,by decide +kernel,rfl,by decide +kernel,by decide +kernel⟩
abbrev s_w_every_kind:Stmt:=top 34
abbrev n_w_every_kind:List Str:=["_law_spec","_law_names","_law_owns","_law_kinds","_law_bases","_law_pair","_law_own"]
theorem sc_w_every_kind:FnScope n_w_every_kind ["_law_spec"] (defScope s_w_every_kind):=⟨rfl,rfl,rfl,by decide +kernel,rfl,by decide +kernel,by decide +kernel⟩
abbrev s_is_word:Stmt:=top 15
abbrev n_is_word:List Str:=["text","sign"]
theorem sc_is_word:FnScope n_is_word ["text"] (defScope s_is_word):=⟨rfl,rfl,rfl,by decide +kernel,rfl,by decide +kernel,by decide +kernel⟩
abbrev s_good_names:Stmt:=top 16
abbrev n_good_names:List Str:=["names","least","most","name"]
theorem sc_good_names:FnScope n_good_names ["names","least","most"] (defScope s_good_names):=⟨rfl,rfl,rfl,by decide +kernel,rfl,by decide +kernel,by decide +kernel⟩
abbrev s_are_chosen:Stmt:=top 17
abbrev n_are_chosen:List Str:=["chosen","names","name"]
theorem sc_are_chosen:FnScope n_are_chosen ["chosen","names"] (defScope s_are_chosen):=⟨rfl,rfl,rfl,by decide +kernel,rfl,by decide +kernel,by decide +kernel⟩
abbrev s_good_classes:Stmt:=top 18
abbrev n_good_classes:List Str:=["classes","names","pair","at"]
theorem sc_good_classes:FnScope n_good_classes ["classes"] (defScope s_good_classes):=⟨rfl,rfl,rfl,by decide +kernel,rfl,by decide +kernel,by decide +kernel⟩
abbrev s_free_name:Stmt:=top 7
abbrev n_free_name:List Str:=["orders","order","other"]
theorem sc_free_name:FnScope n_free_name ["orders"] (defScope s_free_name):=⟨rfl,rfl,rfl,by decide +kernel,rfl,by decide +kernel,by decide +kernel⟩
abbrev s_merge_orders:Stmt:=top 8
abbrev n_merge_orders:List Str:=["orders","left","merged","name","shorter","order","other"]
theorem sc_merge_orders:FnScope n_merge_orders ["orders"] (defScope s_merge_orders):=⟨rfl,rfl,rfl,by decide +kernel,rfl,by decide +kernel,by decide +kernel⟩
abbrev s_class_orders:Stmt:=top 19
abbrev n_class_orders:List Str:=["classes","orders","name","bases","above","base"]
theorem sc_class_orders:FnScope n_class_orders ["classes"] (defScope s_class_orders):=⟨rfl,rfl,rfl,by decide +kernel,rfl,by decide +kernel,by decide +kernel⟩
abbrev s_bad_part:Stmt:=top 20
abbrev n_bad_part:List Str:=["methods","layers","inner","running","stored"]
theorem sc_bad_part:FnScope n_bad_part ["methods","layers","inner","running","stored"] (defScope s_bad_part):=⟨rfl,rfl,rfl,by decide +kernel,rfl,by decide +kernel,by decide +kernel⟩
abbrev s_good_row:Stmt:=top 23
abbrev n_good_row:List Str:=["row","layers","methods","words"]
theorem sc_good_row:FnScope n_good_row ["row","layers","methods"] (defScope s_good_row):=⟨rfl,rfl,rfl,by decide +kernel,rfl,by decide +kernel,by decide +kernel⟩
abbrev s_switches:Stmt:=top 21
abbrev n_switches:List Str:=["row"]
theorem sc_switches:FnScope n_switches ["row"] (defScope s_switches):=⟨rfl,rfl,rfl,by decide +kernel,rfl,by decide +kernel,by decide +kernel⟩
abbrev s_well_nested:Stmt:=top 22
abbrev n_well_nested:List Str:=["rows","blocks","row"]
theorem sc_well_nested:FnScope n_well_nested ["rows"] (defScope s_well_nested):=⟨rfl,rfl,rfl,by decide +kernel,rfl,by decide +kernel,by decide +kernel⟩
abbrev s_good_body:Stmt:=top 24
abbrev n_good_body:List Str:=["rows","layers","methods","row"]
theorem sc_good_body:FnScope n_good_body ["rows","layers","methods"] (defScope s_good_body):=⟨rfl,rfl,rfl,by decide +kernel,rfl,by decide +kernel,by decide +kernel⟩
abbrev s_good_bodies:Stmt:=top 25
abbrev n_good_bodies:List Str:=["bodies","names","layers","methods","key"]
theorem sc_good_bodies:FnScope n_good_bodies ["bodies","names","layers","methods"] (defScope s_good_bodies):=⟨rfl,rfl,rfl,by decide +kernel,rfl,by decide +kernel,by decide +kernel⟩
abbrev s_Book_init:Stmt:=(clsB (top 26)).getD 0 (.Pass ⟨0,0,0,0⟩)
abbrev n_Book_init:List Str:=["self","classes","methods","layers","bodies","inner","running","stored","e","part","key","name","pair"]
theorem sc_Book_init:FnScope n_Book_init ["self","classes","methods","layers","bodies","inner","running","stored"] (defScope s_Book_init):=⟨rfl,rfl,rfl,by decide +kernel,rfl,by decide +kernel,by decide +kernel⟩
abbrev s_arrangements:Stmt:=top 6
abbrev n_arrangements:List Str:=["names","rows","size","row","name"]
theorem sc_arrangements:GScope n_arrangements ["names"] (defScope s_arrangements):=⟨rfl,rfl,rfl,by decide +kernel,rfl,by decide +kernel,by decide +kernel⟩
abbrev s_Book_order:Stmt:=(clsB (top 26)).getD 11 (.Pass ⟨0,0,0,0⟩)
abbrev n_Book_order:List Str:=["self","bases","names","pair","name"]
theorem sc_Book_order:FnScope n_Book_order ["self","bases"] (defScope s_Book_order):=⟨rfl,rfl,rfl,by decide +kernel,rfl,by decide +kernel,by decide +kernel⟩
abbrev s_Book_has_order:Stmt:=(clsB (top 26)).getD 13 (.Pass ⟨0,0,0,0⟩)
abbrev n_Book_has_order:List Str:=["self","bases"]
theorem sc_Book_has_order:FnScope n_Book_has_order ["self","bases"] (defScope s_Book_has_order):=⟨rfl,rfl,rfl,by decide +kernel,rfl,by decide +kernel,by decide +kernel⟩
abbrev s_Book_can_own:Stmt:=(clsB (top 26)).getD 14 (.Pass ⟨0,0,0,0⟩)
abbrev n_Book_can_own:List Str:=["self","own","name"]
theorem sc_Book_can_own:FnScope n_Book_can_own ["self","own"] (defScope s_Book_can_own):=⟨rfl,rfl,rfl,by decide +kernel,rfl,by decide +kernel,by decide +kernel⟩
abbrev s_Book_kinds:Stmt:=(clsB (top 26)).getD 15 (.Pass ⟨0,0,0,0⟩)
abbrev n_Book_kinds:List Str:=["self","names","bases","pair","own"]
theorem sc_Book_kinds:GScope n_Book_kinds ["self"] (defScope s_Book_kinds):=⟨rfl,rfl,rfl,by decide +kernel,rfl,by decide +kernel,by decide +kernel⟩
abbrev s_law:Stmt:=top 36
abbrev n_law:List Str:=["_law_script","_law_draws","_law_spec","_law_due","_law_book","_law_turn","_law_told","_law_kind"]
theorem sc_law:FnScope n_law ["_law_script"] (defScope s_law):=⟨rfl,rfl,rfl,by decide +kernel,rfl,by decide +kernel,by decide +kernel⟩
section
variable {Pg:Program} {w:World} {K:PySem.W.Frag} {mg:Str→Option Value} {base:Heap} {G:G3}
theorem ok_w_digits (hw:w=G.w) (T:Txt K mg G) {f:Addr} {fd:FuncData} (F:Fun K "_law_digits" "_law_digits" s_w_digits f fd) :
  M3.FnOk Pg w K mg base (CXq Pg w) 1 f fd ["_law_cell","_law_salt","_law_many"] (spM G 3 mf_w_digits):=
 fn_ok (k:=0) (N:=n_w_digits) (mb:=mb_w_digits) T.hK hw F sc_w_digits fun cdv A outer s H E hr=>
 (mss_cons (ms_own 3 sc_w_digits.nd (mf_lst ma_nil))
 (mss_cons (ms_set 4 sc_w_digits.nd (me_bin om_sub (me_var 0) (me_bin om_pow me_int me_int)))
 (mss_cons (ms_for (passes_of rfl) hr.cool (mi_range1 rfl T.z_range (ma_cons (me_var 2) ma_nil)) (mg_name 5 sc_w_digits.nd) (mss_one (ms_if (mt_cmp om_ge (me_var 0) (me_bin om_pow me_int me_int) (nomark _)) (mss_cons (ms_app 3 (me_bin om_mod (me_callTy cm_int rfl T.z_int (by decide +kernel) (ma_cons (me_var 4) ma_nil)) me_int))
 (mss_one (ms_set 4 sc_w_digits.nd (me_bin om_div (me_var 4) me_int)))) (mss_cons (ms_set 6 sc_w_digits.nd (me_bin om_mod (me_callTy cm_int rfl T.z_int (by decide +kernel) (ma_cons (me_bin om_add (me_bin om_add (me_bin om_mul (me_var 0) me_int) (me_bin om_mul (me_bin om_add (me_var 1) (me_var 5)) me_int)) me_int) ma_nil)) me_int))
 (mss_one (ms_app 3 (me_bin om_mod (me_bin om_mod (me_callTy cm_int rfl T.z_int (by decide +kernel) (ma_cons (me_bin om_add (me_bin om_add (me_bin om_mul (me_var 6) (me_var 6)) (me_bin om_mul me_int (me_var 1))) (me_var 5)) ma_nil)) me_int) me_int)))))))
 (mss_one (ms_retO 3)))))
theorem ok_w_cell_at (hw:w=G.w) (T:Txt K mg G) {f:Addr} {fd:FuncData} (F:Fun K "_law_cell_at" "_law_cell_at" s_w_cell_at f fd) :
  M3.FnOk Pg w K mg base (CXq Pg w) 1 f fd ["_law_script","_law_k"] (spM G 2 mf_w_cell_at):=
 fn_ok (k:=0) (N:=n_w_cell_at) (mb:=mb_w_cell_at) T.hK hw F sc_w_cell_at fun cdv A outer s H E hr=>
 (mss_cons (ms_if (mt_cmp om_lt (me_var 1) (me_callB cm_len rfl T.z_len PySem.boot_len (ma_cons (me_var 0) ma_nil)) (nomark _)) (mss_one (ms_ret (me_ix (me_var 0) (me_var 1)))) mss_nil)
 (mss_cons (ms_if (mt_cmp om_gt (me_callB cm_len rfl T.z_len PySem.boot_len (ma_cons (me_var 0) ma_nil)) me_int (nomark _)) (mss_one (ms_ret (me_bin om_add (me_bin om_mod (me_callTy cm_int rfl T.z_int (by decide +kernel) (ma_cons (me_ix (me_var 0) (me_bin om_mod (me_var 1) (me_callB cm_len rfl T.z_len PySem.boot_len (ma_cons (me_var 0) ma_nil)))) ma_nil)) me_int) (me_bin om_mul me_int (me_var 1))))) mss_nil)
 (mss_one (ms_ret (me_var 1)))))
theorem ok_w_spelled (hw:w=G.w) (T:Txt K mg G) {f:Addr} {fd:FuncData} (F:Fun K "_law_spelled" "_law_spelled" s_w_spelled f fd) :
  M3.FnOk Pg w K mg base (CXq Pg w) 1 f fd ["_law_draw","_law_many"] (spM G 2 mf_w_spelled):=
 fn_ok (k:=0) (N:=n_w_spelled) (mb:=mb_w_spelled) T.hK hw F sc_w_spelled fun cdv A outer s H E hr=>
 (mss_cons (ms_set 2 sc_w_spelled.nd me_str)
 (mss_cons (ms_set 3 sc_w_spelled.nd (me_bin om_mul (me_ix (me_var 2) (me_bin om_mod (me_bin om_div (me_callTy cm_int rfl T.z_int (by decide +kernel) (ma_cons (me_var 0) ma_nil)) me_int) me_int)) (me_bin om_mod (me_callTy cm_int rfl T.z_int (by decide +kernel) (ma_cons (me_var 0) ma_nil)) me_int)))
 (mss_cons (ms_set 4 sc_w_spelled.nd (me_bin om_mod (me_bin om_div (me_callTy cm_int rfl T.z_int (by decide +kernel) (ma_cons (me_var 0) ma_nil)) me_int) me_int))
 (mss_cons (ms_set 5 sc_w_spelled.nd (me_bin om_mod (me_bin om_div (me_callTy cm_int rfl T.z_int (by decide +kernel) (ma_cons (me_var 0) ma_nil)) me_int) me_int))
 (mss_cons (ms_set 6 sc_w_spelled.nd (me_f (mf_lc (own:=[("_law_k",8)]) hr.cool sc_w_spelled.nd (mi_range1 rfl T.z_range (ma_cons (me_var 1) ma_nil)) (blkOk_by (N:=n_w_spelled) (sc:=defScope s_w_spelled) (by decide +kernel)) (fun _ _ _ _ _ _=>(mg_name 8 sc_w_spelled.nd)) (fun _ _ _ _ _ _=>mifs_nil) (fun _ _ _ _ _ _=>(me_ix (me_var 2) (me_bin om_mod (me_callTy cm_int rfl T.z_int (by decide +kernel) (ma_cons (me_bin om_add (me_var 0) (me_bin om_mul me_int (me_var 8))) ma_nil)) me_int))))))
 (mss_cons (ms_set 7 sc_w_spelled.nd (me_f (mf_lc (own:=[("_law_k",8)]) hr.cool sc_w_spelled.nd (mi_range1 rfl T.z_range (ma_cons (me_var 1) ma_nil)) (blkOk_by (N:=n_w_spelled) (sc:=defScope s_w_spelled) (by decide +kernel)) (fun _ _ _ _ _ _=>(mg_name 8 sc_w_spelled.nd)) (fun _ _ _ _ _ _=>mifs_nil) (fun _ _ _ _ _ _=>(me_bin om_add (me_sl (me_var 3) (mp_some (me_var 4)) mp_none) (me_sl (me_var 3) mp_none (mp_some (me_bin om_mul (me_var 8) (me_var 5)))))))))
 (mss_one (ms_ret (me_f (mf_lc (own:=[("_law_k",8)]) hr.cool sc_w_spelled.nd (mi_range1 rfl T.z_range (ma_cons (me_var 1) ma_nil)) (blkOk_by (N:=n_w_spelled) (sc:=defScope s_w_spelled) (by decide +kernel)) (fun _ _ _ _ _ _=>(mg_name 8 sc_w_spelled.nd)) (fun _ _ _ _ _ _=>mifs_nil) (fun _ _ _ _ _ _=>(me_sl (me_bin om_add (me_bin om_add (me_sl (me_var 3) mp_none (mp_some (me_var 4))) (me_ix (me_var 6) (me_var 8))) (me_ix (me_var 7) (me_var 8))) mp_none (mp_some me_int)))))))))))))
theorem ok_w_ordered (hw:w=G.w) (T:Txt K mg G) {f:Addr} {fd:FuncData} (F:Fun K "_law_ordered" "_law_ordered" s_w_ordered f fd) :
  M3.FnOk Pg w K mg base (CXq Pg w) 1 f fd ["_law_classes","_law_bases"] (spMW G 2 mf_w_ordered):=
 fn_okW (k:=0) (N:=n_w_ordered) (mb:=mb_w_ordered) T.hK hw F sc_w_ordered fun cdv A outer s H E hr=>
 (mss_cons (ms_ownD 2 sc_w_ordered.nd)
 (mss_cons (ms_for (passes_of rfl) hr.cool (mi_seq (me_bin om_add (me_f (mf_callTy cf_list rfl T.z_list (by decide +kernel) (ma_cons (me_var 0) ma_nil))) (me_f (mf_lst (ma_cons (me_tup (ma_cons me_str (ma_cons (me_var 1) ma_nil))) ma_nil))))) (mg_name 3 sc_w_ordered.nd) (mss_cons (ms_set 4 sc_w_ordered.nd (me_bin om_add (me_f (mf_lc (own:=[("_law_name",9)]) hr.cool sc_w_ordered.nd (mi_seq (me_ix (me_var 3) me_int)) (blkOk_by (N:=n_w_ordered) (sc:=defScope s_w_ordered) (by decide +kernel)) (fun _ _ _ _ _ _=>(mg_name 9 sc_w_ordered.nd)) (fun _ _ _ _ _ _=>mifs_nil) (fun _ _ _ _ _ co15=>(me_dg (units65 (hr.blk co15)) (me_var 2) (me_var 9))))) (me_f (mf_lst (ma_cons (me_f (mf_callTy cf_list rfl T.z_list (by decide +kernel) (ma_cons (me_ix (me_var 3) me_int) ma_nil))) ma_nil)))))
 (mss_cons (ms_set 5 sc_w_ordered.nd (me_f (mf_lst (ma_cons (me_ix (me_var 3) me_int) ma_nil))))
 (mss_cons (ms_for (passes_of rfl) hr.cool (mi_range1 rfl T.z_range (ma_cons me_int ma_nil)) (mg_name 6 sc_w_ordered.nd) (mss_cons (ms_setLc (i:=7) (own:=[("_law_order",10)]) hr.cool sc_w_ordered.nd (mi_seq (me_var 4)) (blkOk_by (N:=n_w_ordered) (sc:=defScope s_w_ordered) (by decide +kernel)) (fun _ _ _ _ _ _=>(mg_name 10 sc_w_ordered.nd)) (fun _ _ _ _ _ _=>(mifs_one (mt_cmp om_gt (me_callB cm_len rfl T.z_len PySem.boot_len (ma_cons (me_var 10) ma_nil)) me_int (nomark _)))) (fun _ _ _ _ _ _=>(me_ix (me_var 10) me_int)) (sw_true rfl rfl rfl (by decide +kernel)))
 (mss_cons (ms_setLc (i:=8) (own:=[("_law_name",9)]) hr.cool sc_w_ordered.nd (mi_seq (me_var 7)) (blkOk_by (N:=n_w_ordered) (sc:=defScope s_w_ordered) (by decide +kernel)) (fun _ _ _ _ _ _=>(mg_name 9 sc_w_ordered.nd)) (fun _ _ _ _ _ co23=>(mifs_one (mt_not (mt_tru (me_callB (cm_any (hr.blk co23).cool) rfl T.z_any (by decide +kernel) (ma_cons (me_f (mf_lc (own:=[("_law_order",10)]) (hr.blk co23).cool sc_w_ordered.nd (mi_seq (me_var 4)) (blkOk_by (by kernel_rfl)) (fun _ _ _ _ _ _=>(mg_name 10 sc_w_ordered.nd)) (fun _ _ _ _ _ _=>mifs_nil) (fun _ _ _ _ _ co21=>(me_cmp (om_in (units65 ((hr.blk co23).blk co21))) (me_var 9) (me_sl (me_var 10) (mp_some me_int) mp_none) (by with_unfolding_all rfl))))) ma_nil)))))) (fun _ _ _ _ _ _=>(me_var 9)) (sw_true rfl rfl rfl (by decide +kernel)))
 (mss_cons (ms_set 5 sc_w_ordered.nd (me_bin om_add (me_var 5) (me_sl (me_var 8) mp_none (mp_some me_int))))
 (mss_one (ms_set 4 sc_w_ordered.nd (me_f (mf_lc (own:=[("_law_order",10)]) hr.cool sc_w_ordered.nd (mi_seq (me_var 4)) (blkOk_by (N:=n_w_ordered) (sc:=defScope s_w_ordered) (by decide +kernel)) (fun _ _ _ _ _ _=>(mg_name 10 sc_w_ordered.nd)) (fun _ _ _ _ _ _=>mifs_nil) (fun _ _ _ _ _ co30=>(me_f (mf_lc (own:=[("_law_name",9)]) (hr.blk co30).cool sc_w_ordered.nd (mi_seq (me_var 10)) (blkOk_by (by kernel_rfl)) (fun _ _ _ _ _ _=>(mg_name 9 sc_w_ordered.nd)) (fun _ _ _ _ _ co26=>(mifs_one (mt_cmp (om_notin (units65 ((hr.blk co30).blk co26))) (me_var 9) (me_var 5) (by with_unfolding_all rfl)))) (fun _ _ _ _ _ _=>(me_var 9)))))))))))))
 (mss_cons (ms_if (mt_tru (me_callB (cm_any hr.cool) rfl T.z_any (by decide +kernel) (ma_cons (me_f (mf_lc (own:=[("_law_order",10)]) hr.cool sc_w_ordered.nd (mi_seq (me_var 4)) (blkOk_by (N:=n_w_ordered) (sc:=defScope s_w_ordered) (by decide +kernel)) (fun _ _ _ _ _ _=>(mg_name 10 sc_w_ordered.nd)) (fun _ _ _ _ _ _=>mifs_nil) (fun _ _ _ _ _ _=>(me_cmp om_gt (me_callB cm_len rfl T.z_len PySem.boot_len (ma_cons (me_var 10) ma_nil)) me_int (nomark _))))) ma_nil))) (mss_one (ms_ret me_non)) mss_nil)
 (mss_one (ms_setK 2 (units65 hr) (me_ix (me_var 3) me_int) (me_var 5))))))))
 (mss_one (ms_ret (me_sl (me_dg (units65 hr) (me_var 2) me_str) (mp_some me_int) mp_none)))))
theorem ok_w_class_list (hw:w=G.w) (T:Txt K mg G) (C_w_ordered:CalW Pg w K mg base G 1 "_law_ordered" 2 mf_w_ordered) {f:Addr} {fd:FuncData} (F:Fun K "_law_class_list" "_law_class_list" s_w_class_list f fd) :
  M3.FnOk Pg w K mg base (CXq Pg w) 2 f fd ["_law_draws","_law_names"] (spM G 2 mf_w_class_list):=
 fn_ok (k:=1) (N:=n_w_class_list) (mb:=mb_w_class_list) T.hK hw F sc_w_class_list fun cdv A outer s H E hr=>
 (mss_cons (ms_own 2 sc_w_class_list.nd (mf_lst ma_nil))
 (mss_cons (ms_for (passes_of rfl) hr.cool (mi_range1 rfl T.z_range (ma_cons (me_callB cm_len rfl T.z_len PySem.boot_len (ma_cons (me_var 1) ma_nil)) ma_nil)) (mg_name 3 sc_w_class_list.nd) (mss_cons (ms_set 4 sc_w_class_list.nd (me_bin om_add (me_f (mf_lst (ma_cons (me_tup ma_nil) ma_nil))) (me_f (mf_lc (own:=[("_law_name",6)]) hr.cool sc_w_class_list.nd (mi_seq (me_sl (me_var 1) mp_none (mp_some (me_var 3)))) (blkOk_by (N:=n_w_class_list) (sc:=defScope s_w_class_list) (by decide +kernel)) (fun _ _ _ _ _ _=>(mg_name 6 sc_w_class_list.nd)) (fun _ _ _ _ _ _=>mifs_nil) (fun _ _ _ _ _ _=>(me_tup (ma_cons (me_var 6) ma_nil)))))))
 (mss_cons (ms_if (mt_cmp (om_eq hr.units) (me_var 3) me_int (nomark _)) (mss_one (ms_set 4 sc_w_class_list.nd (me_bin om_add (me_var 4) (me_f (mf_lst (ma_cons (me_tup (ma_cons (me_ix (me_var 1) me_int) (ma_cons (me_ix (me_var 1) me_int) ma_nil))) (ma_cons (me_tup (ma_cons (me_ix (me_var 1) me_int) (ma_cons (me_ix (me_var 1) me_int) ma_nil))) ma_nil))))))) mss_nil)
 (mss_cons (ms_set 5 sc_w_class_list.nd (me_ix (me_var 4) (me_bin om_mod (me_callTy cm_int rfl T.z_int (by decide +kernel) (ma_cons (me_ix (me_var 0) (me_var 3)) ma_nil)) (me_callB cm_len rfl T.z_len PySem.boot_len (ma_cons (me_var 4) ma_nil)))))
 (mss_cons (ms_if (mt_cmp om_is (me_lend 2 (me_callW C_w_ordered hr (by decide) (M3.takes_of rfl rfl rfl rfl) rfl (ma_cons (me_var 2) (ma_cons (me_var 5) ma_nil)))) me_non (nomark _)) (mss_one (ms_set 5 sc_w_class_list.nd (me_tup ma_nil))) mss_nil)
 (mss_one (ms_app 2 (me_tup (ma_cons (me_ix (me_var 1) (me_var 3)) (ma_cons (me_var 5) ma_nil))))))))))
 (mss_one (ms_retO 2))))
theorem ok_w_arranged (hw:w=G.w) (T:Txt K mg G) {f:Addr} {fd:FuncData} (F:Fun K "_law_arranged" "_law_arranged" s_w_arranged f fd) :
  M3.FnOk Pg w K mg base (CXq Pg w) 1 f fd ["_law_names"] (spM G 1 mf_w_arranged):=
 fn_ok (k:=0) (N:=n_w_arranged) (mb:=mb_w_arranged) T.hK hw F sc_w_arranged fun cdv A outer s H E hr=>
 (mss_cons (ms_set 1 sc_w_arranged.nd (me_f (mf_lst (ma_cons (me_tup ma_nil) ma_nil))))
 (mss_cons (ms_set 2 sc_w_arranged.nd (me_f (mf_lst (ma_cons (me_tup ma_nil) ma_nil))))
 (mss_cons (ms_for (passes_of rfl) hr.cool (mi_range1 rfl T.z_range (ma_cons (me_callB cm_len rfl T.z_len PySem.boot_len (ma_cons (me_var 0) ma_nil)) ma_nil)) (mg_name 3 sc_w_arranged.nd) (mss_cons (ms_set 2 sc_w_arranged.nd (me_callB (cm_sumL hr.cool) rfl T.z_sum (by decide +kernel) (ma_cons (me_f (mf_lc (own:=[("_law_row",4)]) hr.cool sc_w_arranged.nd (mi_seq (me_var 2)) (blkOk_by (N:=n_w_arranged) (sc:=defScope s_w_arranged) (by decide +kernel)) (fun _ _ _ _ _ _=>(mg_name 4 sc_w_arranged.nd)) (fun _ _ _ _ _ _=>mifs_nil) (fun _ _ _ _ _ co42=>(me_f (mf_lc (own:=[("_law_name",5)]) (hr.blk co42).cool sc_w_arranged.nd (mi_seq (me_var 0)) (blkOk_by (by kernel_rfl)) (fun _ _ _ _ _ _=>(mg_name 5 sc_w_arranged.nd)) (fun _ _ _ _ _ co38=>(mifs_one (mt_cmp (om_notin (units65 ((hr.blk co42).blk co38))) (me_var 5) (me_var 4) (by with_unfolding_all rfl)))) (fun _ _ _ _ _ _=>(me_bin om_add (me_var 4) (me_tup (ma_cons (me_var 5) ma_nil))))))))) (ma_cons (me_f (mf_lst ma_nil)) ma_nil))))
 (mss_one (ms_set 1 sc_w_arranged.nd (me_bin om_add (me_var 1) (me_var 2))))))
 (mss_one (ms_ret (me_var 1))))))
theorem ok_w_is_own (hw:w=G.w) (T:Txt K mg G) {f:Addr} {fd:FuncData} (F:Fun K "_law_is_own" "_law_is_own" s_w_is_own f fd) :
  M3.FnOk Pg w K mg base (CXq Pg w) 1 f fd ["_law_own","_law_names"] (spM G 2 mf_w_is_own):=
 fn_ok (k:=0) (N:=n_w_is_own) (mb:=mb_w_is_own) T.hK hw F sc_w_is_own fun cdv A outer s H E hr=>
 (mss_one (ms_ret (me_cmp (om_eq hr.units) (me_f (mf_callTy cf_list rfl T.z_list (by decide +kernel) (ma_cons (me_var 0) ma_nil))) (me_f (mf_lc (own:=[("_law_name",2)]) hr.cool sc_w_is_own.nd (mi_seq (me_var 1)) (blkOk_by (N:=n_w_is_own) (sc:=defScope s_w_is_own) (by decide +kernel)) (fun _ _ _ _ _ _=>(mg_name 2 sc_w_is_own.nd)) (fun _ _ _ _ _ co44=>(mifs_one (mt_cmp (om_in (units65 (hr.blk co44))) (me_var 2) (me_var 0) (by with_unfolding_all rfl)))) (fun _ _ _ _ _ _=>(me_var 2)))) (nomark _))))
theorem ok_w_every_kind (hw:w=G.w) (T:Txt K mg G) (C_w_arranged:Cal Pg w K mg base G 1 "_law_arranged" 1 mf_w_arranged) (C_w_is_own:Cal Pg w K mg base G 1 "_law_is_own" 2 mf_w_is_own) (C_w_ordered:CalW Pg w K mg base G 1 "_law_ordered" 2 mf_w_ordered) {f:Addr} {fd:FuncData} (F:Fun K "_law_every_kind" "_law_every_kind" s_w_every_kind f fd) :
  M3.FnOk Pg w K mg base (CXq Pg w) 2 f fd ["_law_spec"] (spM G 1 mf_w_every_kind):=
 fn_ok (k:=1) (N:=n_w_every_kind) (mb:=mb_w_every_kind) T.hK hw F sc_w_every_kind fun cdv A outer s H E hr=>
 (mss_cons (ms_setLc (i:=1) (own:=[("_law_pair",5)]) hr.cool sc_w_every_kind.nd (mi_seq (me_dg (units65 hr) (me_var 0) me_str)) (blkOk_by (N:=n_w_every_kind) (sc:=defScope s_w_every_kind) (by decide +kernel)) (fun _ _ _ _ _ _=>(mg_name 5 sc_w_every_kind.nd)) (fun _ _ _ _ _ _=>mifs_nil) (fun _ _ _ _ _ _=>(me_ix (me_var 5) me_int)) (sw_true rfl rfl rfl (by decide +kernel)))
 (mss_cons (ms_setLc (i:=2) (own:=[("_law_own",6)]) hr.cool sc_w_every_kind.nd (mi_seq (me_call C_w_arranged hr (by decide) (M3.takes_of rfl rfl rfl rfl) rfl (ma_cons (me_dg (units65 hr) (me_var 0) me_str) ma_nil))) (blkOk_by (N:=n_w_every_kind) (sc:=defScope s_w_every_kind) (by decide +kernel)) (fun _ _ _ _ _ _=>(mg_name 6 sc_w_every_kind.nd)) (fun _ _ _ _ _ co47=>(mifs_one (mt_tru (me_call C_w_is_own (hr.blk co47) (by decide) M3.takes0 rfl (ma_cons (me_var 6) (ma_cons (me_dg (units65 (hr.blk co47)) (me_var 0) me_str) ma_nil)))))) (fun _ _ _ _ _ _=>(me_var 6)) (sw_true rfl rfl rfl (by decide +kernel)))
 (mss_cons (ms_set 3 sc_w_every_kind.nd (me_f (mf_lst ma_nil)))
 (mss_cons (ms_for (passes_of rfl) hr.cool (mi_seq (me_sl (me_call C_w_arranged hr (by decide) (M3.takes_of rfl rfl rfl rfl) rfl (ma_cons (me_var 1) ma_nil)) (mp_some me_int) mp_none)) (mg_name 4 sc_w_every_kind.nd) (mss_one (ms_if (mt_cmp om_isnot (me_callW C_w_ordered hr (by decide) (M3.takes_of rfl rfl rfl rfl) rfl (ma_cons (me_dg (units65 hr) (me_var 0) me_str) (ma_cons (me_var 4) ma_nil))) me_non (nomark _)) (mss_one (ms_set 3 sc_w_every_kind.nd (me_bin om_add (me_var 3) (me_f (mf_lc (own:=[("_law_own",6)]) hr.cool sc_w_every_kind.nd (mi_seq (me_var 2)) (blkOk_by (N:=n_w_every_kind) (sc:=defScope s_w_every_kind) (by decide +kernel)) (fun _ _ _ _ _ _=>(mg_name 6 sc_w_every_kind.nd)) (fun _ _ _ _ _ _=>mifs_nil) (fun _ _ _ _ _ _=>(me_tup (ma_cons (me_var 4) (ma_cons (me_var 6) ma_nil))))))))) mss_nil)))
 (mss_one (ms_ret (me_var 3)))))))
theorem ok_is_word (hw:w=G.w) (T:Txt K mg G) {f:Addr} {fd:FuncData} (F:Fun K "is_word" "is_word" s_is_word f fd) :
  M3.FnOk Pg w K mg base (CXq Pg w) 1 f fd ["text"] (spM G 1 mf_is_word):=
 fn_ok (k:=0) (N:=n_is_word) (mb:=mb_is_word) T.hK hw F sc_is_word fun cdv A outer s H E hr=>
 (mss_cons (ms_if (mt_not (mt_tru (me_callB cm_isi2 rfl T.z_isinstance (by decide +kernel) (ma_cons (me_var 0) (ma_cons (me_ty rfl T.z_str (by decide +kernel)) ma_nil))))) (mss_one (ms_ret me_bl)) mss_nil)
 (mss_one (ms_ret (me_and (me_chain om_le om_le me_int (me_callB cm_len rfl T.z_len PySem.boot_len (ma_cons (me_var 0) ma_nil)) me_int) (me_one (me_callB (cm_all hr.cool) rfl T.z_all (by decide +kernel) (ma_cons (me_f (mf_lc (own:=[("sign",1)]) hr.cool sc_is_word.nd (mi_seq (me_var 0)) (blkOk_by (N:=n_is_word) (sc:=defScope s_is_word) (by decide +kernel)) (fun _ _ _ _ _ _=>(mg_name 1 sc_is_word.nd)) (fun _ _ _ _ _ _=>mifs_nil) (fun _ _ _ _ _ co60=>(me_cmp (om_in (units65 (hr.blk co60))) (me_var 1) (me_gstr rfl T.g_LETTERS) (by with_unfolding_all rfl))))) ma_nil)))))))
theorem ok_good_names (hw:w=G.w) (T:Txt K mg G) (C_is_word:Cal Pg w K mg base G 1 "is_word" 1 mf_is_word) {f:Addr} {fd:FuncData} (F:Fun K "good_names" "good_names" s_good_names f fd) :
  M3.FnOk Pg w K mg base (CXq Pg w) 2 f fd ["names","least","most"] (spM G 3 mf_good_names):=
 fn_ok (k:=1) (N:=n_good_names) (mb:=mb_good_names) T.hK hw F sc_good_names fun cdv A outer s H E hr=>
 (mss_cons (ms_if (mt_w (mw_or (mt_not (mt_tru (me_callB cm_isi2 rfl T.z_isinstance (by decide +kernel) (ma_cons (me_var 0) (ma_cons (me_ty rfl T.z_list (by decide +kernel)) ma_nil))))) (mw_or1 (mt_not (mt_chain om_le om_le (me_var 1) (me_callB cm_len rfl T.z_len PySem.boot_len (ma_cons (me_var 0) ma_nil)) (me_var 2)))))) (mss_one (ms_ret me_bl)) mss_nil)
 (mss_cons (ms_if (mt_not (mt_tru (me_callB (cm_all hr.cool) rfl T.z_all (by decide +kernel) (ma_cons (me_f (mf_lc (own:=[("name",3)]) hr.cool sc_good_names.nd (mi_seq (me_var 0)) (blkOk_by (N:=n_good_names) (sc:=defScope s_good_names) (by decide +kernel)) (fun _ _ _ _ _ _=>(mg_name 3 sc_good_names.nd)) (fun _ _ _ _ _ _=>mifs_nil) (fun _ _ _ _ _ co63=>(me_call C_is_word (hr.blk co63) (by decide) M3.takes0 rfl (ma_cons (me_var 3) ma_nil))))) ma_nil)))) (mss_one (ms_ret me_bl)) mss_nil)
 (mss_one (ms_ret (me_cmp (om_eq hr.units) (me_lenSet hr.cool rfl T.z_len rfl T.z_set (me_var 0)) (me_callB cm_len rfl T.z_len PySem.boot_len (ma_cons (me_var 0) ma_nil)) (nomark _))))))
theorem ok_are_chosen (hw:w=G.w) (T:Txt K mg G) {f:Addr} {fd:FuncData} (F:Fun K "are_chosen" "are_chosen" s_are_chosen f fd) :
  M3.FnOk Pg w K mg base (CXq Pg w) 1 f fd ["chosen","names"] (spM G 2 mf_are_chosen):=
 fn_ok (k:=0) (N:=n_are_chosen) (mb:=mb_are_chosen) T.hK hw F sc_are_chosen fun cdv A outer s H E hr=>
 (mss_cons (ms_if (mt_not (mt_tru (me_callB cm_isi2 rfl T.z_isinstance (by decide +kernel) (ma_cons (me_var 0) (ma_cons (me_ty rfl T.z_tuple (by decide +kernel)) ma_nil))))) (mss_one (ms_ret me_bl)) mss_nil)
 (mss_one (ms_ret (me_callB (cm_all hr.cool) rfl T.z_all (by decide +kernel) (ma_cons (me_f (mf_lc (own:=[("name",2)]) hr.cool sc_are_chosen.nd (mi_seq (me_var 0)) (blkOk_by (N:=n_are_chosen) (sc:=defScope s_are_chosen) (by decide +kernel)) (fun _ _ _ _ _ _=>(mg_name 2 sc_are_chosen.nd)) (fun _ _ _ _ _ _=>mifs_nil) (fun _ _ _ _ _ co66=>(me_and (me_cmp (om_in (units65 (hr.blk co66))) (me_var 2) (me_var 1) (by with_unfolding_all rfl)) (me_one (me_cmp (om_eq (hr.blk co66).units) (me_cnt (units65 (hr.blk co66)) (me_var 0) (me_var 2)) me_int (nomark _))))))) ma_nil)))))
theorem ok_good_classes (hw:w=G.w) (T:Txt K mg G) (C_good_names:Cal Pg w K mg base G 2 "good_names" 3 mf_good_names) (C_are_chosen:Cal Pg w K mg base G 1 "are_chosen" 2 mf_are_chosen) {f:Addr} {fd:FuncData} (F:Fun K "good_classes" "good_classes" s_good_classes f fd) :
  M3.FnOk Pg w K mg base (CXq Pg w) 3 f fd ["classes"] (spM G 1 mf_good_classes):=
 fn_ok (k:=2) (N:=n_good_classes) (mb:=mb_good_classes) T.hK hw F sc_good_classes fun cdv A outer s H E hr=>
 (mss_cons (ms_if (mt_not (mt_tru (me_callB cm_isi2 rfl T.z_isinstance (by decide +kernel) (ma_cons (me_var 0) (ma_cons (me_ty rfl T.z_list (by decide +kernel)) ma_nil))))) (mss_one (ms_ret me_bl)) mss_nil)
 (mss_cons (ms_if (mt_not (mt_tru (me_callB (cm_all hr.cool) rfl T.z_all (by decide +kernel) (ma_cons (me_f (mf_lc (own:=[("pair",2)]) hr.cool sc_good_classes.nd (mi_seq (me_var 0)) (blkOk_by (N:=n_good_classes) (sc:=defScope s_good_classes) (by decide +kernel)) (fun _ _ _ _ _ _=>(mg_name 2 sc_good_classes.nd)) (fun _ _ _ _ _ _=>mifs_nil) (fun _ _ _ _ _ co54=>(me_and (me_callB cm_isi2 rfl T.z_isinstance (by decide +kernel) (ma_cons (me_var 2) (ma_cons (me_ty rfl T.z_tuple (by decide +kernel)) ma_nil))) (me_one (me_cmp (om_eq (hr.blk co54).units) (me_callB cm_len rfl T.z_len PySem.boot_len (ma_cons (me_var 2) ma_nil)) me_int (nomark _))))))) ma_nil)))) (mss_one (ms_ret me_bl)) mss_nil)
 (mss_cons (ms_set 1 sc_good_classes.nd (me_f (mf_lc (own:=[("pair",2)]) hr.cool sc_good_classes.nd (mi_seq (me_var 0)) (blkOk_by (N:=n_good_classes) (sc:=defScope s_good_classes) (by decide +kernel)) (fun _ _ _ _ _ _=>(mg_name 2 sc_good_classes.nd)) (fun _ _ _ _ _ _=>mifs_nil) (fun _ _ _ _ _ _=>(me_ix (me_var 2) me_int)))))
 (mss_cons (ms_if (mt_not (mt_tru (me_call C_good_names hr (by decide) (M3.takes_of rfl rfl rfl rfl) rfl (ma_cons (me_var 1) (ma_cons me_int (ma_cons me_int ma_nil)))))) (mss_one (ms_ret me_bl)) mss_nil)
 (mss_one (ms_ret (me_callB (cm_all hr.cool) rfl T.z_all (by decide +kernel) (ma_cons (me_f (mf_lc (own:=[("at",3)]) hr.cool sc_good_classes.nd (mi_range1 rfl T.z_range (ma_cons (me_callB cm_len rfl T.z_len PySem.boot_len (ma_cons (me_var 1) ma_nil)) ma_nil)) (blkOk_by (N:=n_good_classes) (sc:=defScope s_good_classes) (by decide +kernel)) (fun _ _ _ _ _ _=>(mg_name 3 sc_good_classes.nd)) (fun _ _ _ _ _ _=>mifs_nil) (fun _ _ _ _ _ co69=>(me_call C_are_chosen (hr.blk co69) (by decide) M3.takes0 rfl (ma_cons (me_ix (me_ix (me_var 0) (me_var 3)) me_int) (ma_cons (me_sl (me_var 1) mp_none (mp_some (me_var 3))) ma_nil)))))) ma_nil))))))))
theorem ok_free_name (hw:w=G.w) (T:Txt K mg G) {f:Addr} {fd:FuncData} (F:Fun K "free_name" "free_name" s_free_name f fd) :
  M3.FnOk Pg w K mg base (CXq Pg w) 1 f fd ["orders"] (spM G 1 mf_free_name):=
 fn_ok (k:=0) (N:=n_free_name) (mb:=mb_free_name) T.hK hw F sc_free_name fun cdv A outer s H E hr=>
 (mss_cons (ms_for (passes_of rfl) hr.cool (mi_seq (me_var 0)) (mg_name 1 sc_free_name.nd) (mss_one (ms_if (mt_not (mt_tru (me_callB (cm_any hr.cool) rfl T.z_any (by decide +kernel) (ma_cons (me_f (mf_lc (own:=[("other",2)]) hr.cool sc_free_name.nd (mi_seq (me_var 0)) (blkOk_by (N:=n_free_name) (sc:=defScope s_free_name) (by decide +kernel)) (fun _ _ _ _ _ _=>(mg_name 2 sc_free_name.nd)) (fun _ _ _ _ _ _=>mifs_nil) (fun _ _ _ _ _ co78=>(me_cmp (om_in (units65 (hr.blk co78))) (me_ix (me_var 1) me_int) (me_sl (me_var 2) (mp_some me_int) mp_none) (by with_unfolding_all rfl))))) ma_nil)))) (mss_one (ms_ret (me_ix (me_var 1) me_int))) mss_nil)))
 (mss_one (ms_raise T.r_NoOrder hr.cool (M3.takes_of rfl rfl rfl rfl) rfl)))
theorem ok_merge_orders (hw:w=G.w) (T:Txt K mg G) (C_free_name:Cal Pg w K mg base G 1 "free_name" 1 mf_free_name) {f:Addr} {fd:FuncData} (F:Fun K "merge_orders" "merge_orders" s_merge_orders f fd) :
  M3.FnOk Pg w K mg base (CXq Pg w) 2 f fd ["orders"] (spM G 1 mf_merge_orders):=
 fn_ok (k:=1) (N:=n_merge_orders) (mb:=mb_merge_orders) T.hK hw F sc_merge_orders fun cdv A outer s H E hr=>
 (mss_cons (ms_setLc (i:=1) (own:=[("order",5)]) hr.cool sc_merge_orders.nd (mi_seq (me_var 0)) (blkOk_by (N:=n_merge_orders) (sc:=defScope s_merge_orders) (by decide +kernel)) (fun _ _ _ _ _ _=>(mg_name 5 sc_merge_orders.nd)) (fun _ _ _ _ _ _=>(mifs_one (mt_cmp om_gt (me_callB cm_len rfl T.z_len PySem.boot_len (ma_cons (me_var 5) ma_nil)) me_int (nomark _)))) (fun _ _ _ _ _ _=>(me_callTy cm_tuple rfl T.z_tuple (by decide +kernel) (ma_cons (me_var 5) ma_nil))) (sw_true rfl rfl rfl (by decide +kernel)))
 (mss_cons (ms_own 2 sc_merge_orders.nd (mf_lst ma_nil))
 (mss_cons (ms_while 1000 (passes_of rfl) (mt_tru (me_var 1)) (mss_cons (ms_set 3 sc_merge_orders.nd (me_call C_free_name hr (by decide) (M3.takes_of rfl rfl rfl rfl) rfl (ma_cons (me_var 1) ma_nil)))
 (mss_cons (ms_app 2 (me_var 3))
 (mss_cons (ms_setLc (i:=4) (own:=[("order",5)]) hr.cool sc_merge_orders.nd (mi_seq (me_var 1)) (blkOk_by (N:=n_merge_orders) (sc:=defScope s_merge_orders) (by decide +kernel)) (fun _ _ _ _ _ _=>(mg_name 5 sc_merge_orders.nd)) (fun _ _ _ _ _ _=>mifs_nil) (fun _ _ _ _ _ co84=>(me_callTy cm_tuple rfl T.z_tuple (by decide +kernel) (ma_cons (me_f (mf_lc (own:=[("other",6)]) (hr.blk co84).cool sc_merge_orders.nd (mi_seq (me_var 5)) (blkOk_by (by kernel_rfl)) (fun _ _ _ _ _ _=>(mg_name 6 sc_merge_orders.nd)) (fun _ _ _ _ _ co80=>(mifs_one (mt_cmp (om_ne ((hr.blk co84).blk co80).units) (me_var 6) (me_var 3) (nomark _)))) (fun _ _ _ _ _ _=>(me_var 6)))) ma_nil))) (sw_true rfl rfl rfl (by decide +kernel)))
 (mss_one (ms_setLc (i:=1) (own:=[("order",5)]) hr.cool sc_merge_orders.nd (mi_seq (me_var 4)) (blkOk_by (N:=n_merge_orders) (sc:=defScope s_merge_orders) (by decide +kernel)) (fun _ _ _ _ _ _=>(mg_name 5 sc_merge_orders.nd)) (fun _ _ _ _ _ _=>(mifs_one (mt_cmp om_gt (me_callB cm_len rfl T.z_len PySem.boot_len (ma_cons (me_var 5) ma_nil)) me_int (nomark _)))) (fun _ _ _ _ _ _=>(me_var 5)) (sw_true rfl rfl rfl (by decide +kernel))))))))
 (mss_one (ms_ret (me_callTy cm_tuple rfl T.z_tuple (by decide +kernel) (ma_cons (me_var 2) ma_nil)))))))
theorem ok_class_orders (hw:w=G.w) (T:Txt K mg G) (C_merge_orders:Cal Pg w K mg base G 2 "merge_orders" 1 mf_merge_orders) {f:Addr} {fd:FuncData} (F:Fun K "class_orders" "class_orders" s_class_orders f fd) :
  M3.FnOk Pg w K mg base (CXq Pg w) 3 f fd ["classes"] (spM G 1 mf_class_orders):=
 fn_ok (k:=2) (N:=n_class_orders) (mb:=mb_class_orders) T.hK hw F sc_class_orders fun cdv A outer s H E hr=>
 (mss_cons (ms_ownD 1 sc_class_orders.nd)
 (mss_cons (ms_for (passes_of rfl) hr.cool (mi_seq (me_var 0)) (mg_tup hr.cool (mgs_cons (mg_name 2 sc_class_orders.nd) (mgs_cons (mg_name 3 sc_class_orders.nd) mgs_nil))) (mss_cons (ms_setLc (i:=4) (own:=[("base",5)]) hr.cool sc_class_orders.nd (mi_seq (me_var 3)) (blkOk_by (N:=n_class_orders) (sc:=defScope s_class_orders) (by decide +kernel)) (fun _ _ _ _ _ _=>(mg_name 5 sc_class_orders.nd)) (fun _ _ _ _ _ _=>mifs_nil) (fun _ _ _ _ _ co72=>(me_dg (units65 (hr.blk co72)) (me_var 1) (me_var 5))) (sw_true rfl rfl rfl (by decide +kernel)))
 (mss_one (ms_setK 1 (units65 hr) (me_var 2) (me_bin om_add (me_tup (ma_cons (me_var 2) ma_nil)) (me_call C_merge_orders hr (by decide) (M3.takes_of rfl rfl rfl rfl) rfl (ma_cons (me_bin om_add (me_var 4) (me_f (mf_lst (ma_cons (me_var 3) ma_nil)))) ma_nil)))))))
 (mss_one (ms_retD 1))))
theorem ok_bad_part (hw:w=G.w) (T:Txt K mg G) (C_good_names:Cal Pg w K mg base G 2 "good_names" 3 mf_good_names) (C_are_chosen:Cal Pg w K mg base G 1 "are_chosen" 2 mf_are_chosen) {f:Addr} {fd:FuncData} (F:Fun K "bad_part" "bad_part" s_bad_part f fd) :
  M3.FnOk Pg w K mg base (CXq Pg w) 3 f fd ["methods","layers","inner","running","stored"] (spM G 5 mf_bad_part):=
 fn_ok (k:=2) (N:=n_bad_part) (mb:=mb_bad_part) T.hK hw F sc_bad_part fun cdv A outer s H E hr=>
 (mss_cons (ms_if (mt_not (mt_tru (me_call C_good_names hr (by decide) (M3.takes_of rfl rfl rfl rfl) rfl (ma_cons (me_var 0) (ma_cons me_int (ma_cons me_int ma_nil)))))) (mss_one (ms_ret me_str)) mss_nil)
 (mss_cons (ms_if (mt_not (mt_tru (me_call C_good_names hr (by decide) (M3.takes_of rfl rfl rfl rfl) rfl (ma_cons (me_var 1) (ma_cons me_int (ma_cons me_int ma_nil)))))) (mss_one (ms_ret me_str)) mss_nil)
 (mss_cons (ms_if (mt_not (mt_tru (me_call C_are_chosen hr (by decide) (M3.takes_of rfl rfl rfl rfl) rfl (ma_cons (me_var 2) (ma_cons (me_var 1) ma_nil))))) (mss_one (ms_ret me_str)) mss_nil)
 (mss_cons (ms_if (mt_cmp (om_notin (units65 hr)) (me_var 3) (me_tup (ma_cons me_str (ma_cons me_str ma_nil))) (by with_unfolding_all rfl)) (mss_one (ms_ret me_str)) mss_nil)
 (mss_cons (ms_if (mt_cmp (om_notin (units65 hr)) (me_var 4) (me_tup (ma_cons me_str (ma_cons me_str ma_nil))) (by with_unfolding_all rfl)) (mss_one (ms_ret me_str)) mss_nil)
 (mss_one (ms_ret me_non)))))))
theorem ok_good_row (hw:w=G.w) (T:Txt K mg G) (C_is_word:Cal Pg w K mg base G 1 "is_word" 1 mf_is_word) {f:Addr} {fd:FuncData} (F:Fun K "good_row" "good_row" s_good_row f fd) :
  M3.FnOk Pg w K mg base (CXq Pg w) 2 f fd ["row","layers","methods"] (spM G 3 mf_good_row):=
 fn_ok (k:=1) (N:=n_good_row) (mb:=mb_good_row) T.hK hw F sc_good_row fun cdv A outer s H E hr=>
 (mss_cons (ms_if (mt_not (mt_tru (me_callB cm_isi2 rfl T.z_isinstance (by decide +kernel) (ma_cons (me_var 0) (ma_cons (me_ty rfl T.z_str (by decide +kernel)) ma_nil))))) (mss_one (ms_ret me_bl)) mss_nil)
 (mss_cons (ms_if (mt_cmp (om_in (units65 hr)) (me_var 0) (me_gtup rfl T.g_BARE_ROWS) (by with_unfolding_all rfl)) (mss_one (ms_ret me_bl)) mss_nil)
 (mss_cons (ms_set 3 sc_good_row.nd (me_m1 PySem.F.slot_str_split PySem.F.type_str_split mt_split3 (me_var 0) me_str))
 (mss_cons (ms_if (mt_cmp (om_ne hr.units) (me_callB cm_len rfl T.z_len PySem.boot_len (ma_cons (me_var 3) ma_nil)) me_int (nomark _)) (mss_one (ms_ret me_bl)) mss_nil)
 (mss_cons (ms_if (mt_cmp (om_in (units65 hr)) (me_ix (me_var 3) me_int) (me_tup (ma_cons me_str (ma_cons me_str ma_nil))) (by with_unfolding_all rfl)) (mss_one (ms_ret (me_call C_is_word hr (by decide) (M3.takes_of rfl rfl rfl rfl) rfl (ma_cons (me_ix (me_var 3) me_int) ma_nil)))) mss_nil)
 (mss_cons (ms_if (mt_cmp (om_in (units65 hr)) (me_ix (me_var 3) me_int) (me_tup (ma_cons me_str (ma_cons me_str ma_nil))) (by with_unfolding_all rfl)) (mss_one (ms_ret (me_cmp (om_in (units65 hr)) (me_ix (me_var 3) me_int) (me_var 1) (by with_unfolding_all rfl)))) mss_nil)
 (mss_one (ms_ret (me_and (me_cmp (om_in (units65 hr)) (me_ix (me_var 3) me_int) (me_tup (ma_cons me_str (ma_cons me_str ma_nil))) (by with_unfolding_all rfl)) (me_one (me_cmp (om_in (units65 hr)) (me_ix (me_var 3) me_int) (me_var 2) (by with_unfolding_all rfl))))))))))))
theorem ok_switches (hw:w=G.w) (T:Txt K mg G) {f:Addr} {fd:FuncData} (F:Fun K "switches" "switches" s_switches f fd) :
  M3.FnOk Pg w K mg base (CXq Pg w) 1 f fd ["row"] (spM G 1 mf_switches):=
 fn_ok (k:=0) (N:=n_switches) (mb:=mb_switches) T.hK hw F sc_switches fun cdv A outer s H E hr=>
 (mss_one (ms_ret (me_or (me_m1 PySem.F.slot_str_startswith PySem.F.type_str_startswith mt_starts3 (me_var 0) me_str) (me_one (me_m1 PySem.F.slot_str_startswith PySem.F.type_str_startswith mt_starts3 (me_var 0) me_str)))))
theorem ok_well_nested (hw:w=G.w) (T:Txt K mg G) (C_switches:Cal Pg w K mg base G 1 "switches" 1 mf_switches) {f:Addr} {fd:FuncData} (F:Fun K "well_nested" "well_nested" s_well_nested f fd) :
  M3.FnOk Pg w K mg base (CXq Pg w) 2 f fd ["rows"] (spM G 1 mf_well_nested):=
 fn_ok (k:=1) (N:=n_well_nested) (mb:=mb_well_nested) T.hK hw F sc_well_nested fun cdv A outer s H E hr=>
 (mss_cons (ms_own 1 sc_well_nested.nd (mf_lst ma_nil))
 (mss_cons (ms_for (passes_of rfl) hr.cool (mi_seq (me_var 0)) (mg_name 2 sc_well_nested.nd) (mss_one (ms_if (mt_w (mw_or (mt_cmp (om_eq hr.units) (me_var 2) me_str (nomark _)) (mw_or1 (mt_tru (me_call C_switches hr (by decide) (M3.takes_of rfl rfl rfl rfl) rfl (ma_cons (me_var 2) ma_nil)))))) (mss_cons (ms_app 1 (me_var 2))
 (mss_one (ms_if (mt_cmp om_gt (me_callB cm_len rfl T.z_len PySem.boot_len (ma_cons (me_var 1) ma_nil)) (me_gint rfl T.g_MOST_BLOCKS) (nomark _)) (mss_one (ms_ret me_bl)) mss_nil))) (mss_one (ms_if (mt_cmp (om_eq hr.units) (me_var 2) me_str (nomark _)) (mss_cons (ms_if (mt_w (mw_or (mt_cmp (om_eq hr.units) (me_callB cm_len rfl T.z_len PySem.boot_len (ma_cons (me_var 1) ma_nil)) me_int (nomark _)) (mw_or1 (mt_cmp (om_ne hr.units) (me_ix (me_var 1) (me_neg me_int)) me_str (nomark _))))) (mss_one (ms_ret me_bl)) mss_nil)
 (mss_one (ms_setI 1 (me_neg me_int) me_str))) (mss_one (ms_if (mt_cmp (om_eq hr.units) (me_var 2) me_str (nomark _)) (mss_cons (ms_if (mt_cmp (om_eq hr.units) (me_callB cm_len rfl T.z_len PySem.boot_len (ma_cons (me_var 1) ma_nil)) me_int (nomark _)) (mss_one (ms_ret me_bl)) mss_nil)
 (mss_one (ms_pop 1))) mss_nil)))))))
 (mss_one (ms_ret (me_cmp (om_eq hr.units) (me_callB cm_len rfl T.z_len PySem.boot_len (ma_cons (me_var 1) ma_nil)) me_int (nomark _))))))
theorem ok_good_body (hw:w=G.w) (T:Txt K mg G) (C_good_row:Cal Pg w K mg base G 2 "good_row" 3 mf_good_row) (C_well_nested:Cal Pg w K mg base G 2 "well_nested" 1 mf_well_nested) {f:Addr} {fd:FuncData} (F:Fun K "good_body" "good_body" s_good_body f fd) :
  M3.FnOk Pg w K mg base (CXq Pg w) 3 f fd ["rows","layers","methods"] (spM G 3 mf_good_body):=
 fn_ok (k:=2) (N:=n_good_body) (mb:=mb_good_body) T.hK hw F sc_good_body fun cdv A outer s H E hr=>
 (mss_cons (ms_if (mt_not (mt_tru (me_callB cm_isi2 rfl T.z_isinstance (by decide +kernel) (ma_cons (me_var 0) (ma_cons (me_ty rfl T.z_tuple (by decide +kernel)) ma_nil))))) (mss_one (ms_ret me_bl)) mss_nil)
 (mss_cons (ms_if (mt_w (mw_or (mt_cmp om_gt (me_callB cm_len rfl T.z_len PySem.boot_len (ma_cons (me_var 0) ma_nil)) (me_gint rfl T.g_MOST_ROWS) (nomark _)) (mw_or1 (mt_cmp om_gt (me_cnt (units65 hr) (me_var 0) me_str) me_int (nomark _))))) (mss_one (ms_ret me_bl)) mss_nil)
 (mss_cons (ms_if (mt_not (mt_tru (me_callB (cm_all hr.cool) rfl T.z_all (by decide +kernel) (ma_cons (me_f (mf_lc (own:=[("row",3)]) hr.cool sc_good_body.nd (mi_seq (me_var 0)) (blkOk_by (N:=n_good_body) (sc:=defScope s_good_body) (by decide +kernel)) (fun _ _ _ _ _ _=>(mg_name 3 sc_good_body.nd)) (fun _ _ _ _ _ _=>mifs_nil) (fun _ _ _ _ _ co90=>(me_call C_good_row (hr.blk co90) (by decide) M3.takes0 rfl (ma_cons (me_var 3) (ma_cons (me_var 1) (ma_cons (me_var 2) ma_nil))))))) ma_nil)))) (mss_one (ms_ret me_bl)) mss_nil)
 (mss_one (ms_ret (me_call C_well_nested hr (by decide) (M3.takes_of rfl rfl rfl rfl) rfl (ma_cons (me_var 0) ma_nil)))))))
theorem ok_good_bodies (hw:w=G.w) (T:Txt K mg G) (C_good_body:Cal Pg w K mg base G 3 "good_body" 3 mf_good_body) {f:Addr} {fd:FuncData} (F:Fun K "good_bodies" "good_bodies" s_good_bodies f fd) :
  M3.FnOk Pg w K mg base (CXq Pg w) 4 f fd ["bodies","names","layers","methods"] (spM G 4 mf_good_bodies):=
 fn_ok (k:=3) (N:=n_good_bodies) (mb:=mb_good_bodies) T.hK hw F sc_good_bodies fun cdv A outer s H E hr=>
 (mss_cons (ms_if (mt_not (mt_tru (me_callB cm_isi2 rfl T.z_isinstance (by decide +kernel) (ma_cons (me_var 0) (ma_cons (me_ty rfl T.z_dict (by decide +kernel)) ma_nil))))) (mss_one (ms_ret me_bl)) mss_nil)
 (mss_cons (ms_for (passes_of rfl) hr.cool (mi_keysDD (me_var 0)) (mg_name 4 sc_good_bodies.nd) (mss_cons (ms_if (mt_w (mw_or (mt_not (mt_tru (me_callB cm_isi2 rfl T.z_isinstance (by decide +kernel) (ma_cons (me_var 4) (ma_cons (me_ty rfl T.z_tuple (by decide +kernel)) ma_nil))))) (mw_or1 (mt_cmp (om_ne hr.units) (me_callB cm_len rfl T.z_len PySem.boot_len (ma_cons (me_var 4) ma_nil)) me_int (nomark _))))) (mss_one (ms_ret me_bl)) mss_nil)
 (mss_cons (ms_if (mt_w (mw_and (mt_cmp (om_ne hr.units) (me_ix (me_var 4) me_int) me_str (nomark _)) (mw_and1 (mt_cmp (om_notin (units65 hr)) (me_ix (me_var 4) me_int) (me_var 2) (by with_unfolding_all rfl))))) (mss_one (ms_ret me_bl)) mss_nil)
 (mss_cons (ms_if (mt_w (mw_or (mt_cmp (om_notin (units65 hr)) (me_ix (me_var 4) me_int) (me_var 1) (by with_unfolding_all rfl)) (mw_or1 (mt_cmp (om_notin (units65 hr)) (me_ix (me_var 4) me_int) (me_var 3) (by with_unfolding_all rfl))))) (mss_one (ms_ret me_bl)) mss_nil)
 (mss_one (ms_if (mt_not (mt_tru (me_call C_good_body hr (by decide) (M3.takes_of rfl rfl rfl rfl) rfl (ma_cons (me_getDD (units65 hr) (me_var 0) (me_var 4)) (ma_cons (me_var 2) (ma_cons (me_var 3) ma_nil)))))) (mss_one (ms_ret me_bl)) mss_nil))))))
 (mss_one (ms_ret me_bl))))
theorem ok_Book_init (hw:w=G.w) (T:Txt K mg G) (C_good_classes:Cal Pg w K mg base G 3 "good_classes" 1 mf_good_classes) (C_class_orders:Cal Pg w K mg base G 3 "class_orders" 1 mf_class_orders) (C_bad_part:Cal Pg w K mg base G 3 "bad_part" 5 mf_bad_part) (C_good_bodies:Cal Pg w K mg base G 4 "good_bodies" 4 mf_good_bodies) {dvs:List V} {kws:List (Str×V)} {f:Addr} {fd:FuncData} (F:FunD K "__init__" "Book.__init__" (defArgs s_Book_init) (defBody s_Book_init) (defScope s_Book_init) dvs kws f fd) :
  M3.FnOk Pg w K mg base (CXq Pg w) 5 f fd ["self","classes","methods","layers","bodies","inner","running","stored"] (spM G 8 mf_Book_init):=
 fn_okD (k:=4) (N:=n_Book_init) (mb:=mb_Book_init) T.hK hw F sc_Book_init fun cdv A outer s H E hr=>
 (mss_cons (ms_if (mt_not (mt_tru (me_call C_good_classes hr (by decide) (M3.takes_of rfl rfl rfl rfl) rfl (ma_cons (me_var 1) ma_nil)))) (mss_one ms_bad) mss_nil)
 (mss_cons (ms_try0 (mss_one (ms_fld T.f_orders (me_var 0) (me_call C_class_orders hr (by decide) M3.takes0 rfl (ma_cons (me_var 1) ma_nil)))))
 (mss_cons (ms_set 9 sc_Book_init.nd (me_call C_bad_part hr (by decide) (M3.takes_of rfl rfl rfl rfl) rfl (ma_cons (me_var 2) (ma_cons (me_var 3) (ma_cons (me_var 5) (ma_cons (me_var 6) (ma_cons (me_var 7) ma_nil)))))))
 (mss_cons (ms_if (mt_cmp om_isnot (me_var 9) me_non (nomark _)) (mss_one ms_bad) mss_nil)
 (mss_cons (ms_if (mt_not (mt_tru (me_call C_good_bodies hr (by decide) (M3.takes_of rfl rfl rfl rfl) rfl (ma_cons (me_var 4) (ma_cons (me_f (mf_lc (own:=[("pair",12)]) hr.cool sc_Book_init.nd (mi_seq (me_var 1)) (blkOk_by (N:=n_Book_init) (sc:=defScope s_Book_init) (by decide +kernel)) (fun _ _ _ _ _ _=>(mg_name 12 sc_Book_init.nd)) (fun _ _ _ _ _ _=>mifs_nil) (fun _ _ _ _ _ _=>(me_ix (me_var 12) me_int)))) (ma_cons (me_var 3) (ma_cons (me_var 2) ma_nil))))))) (mss_one ms_bad) mss_nil)
 (mss_cons (ms_fld T.f_class_pairs (me_var 0) (me_callTy cm_tuple rfl T.z_tuple (by decide +kernel) (ma_cons (me_var 1) ma_nil)))
 (mss_cons (ms_fld T.f_method_names (me_var 0) (me_callTy cm_tuple rfl T.z_tuple (by decide +kernel) (ma_cons (me_var 2) ma_nil)))
 (mss_cons (ms_fld T.f_layer_names (me_var 0) (me_callTy cm_tuple rfl T.z_tuple (by decide +kernel) (ma_cons (me_var 3) ma_nil)))
 (mss_cons (ms_fld T.f_inner_names (me_var 0) (me_callTy cm_tuple rfl T.z_tuple (by decide +kernel) (ma_cons (me_f (mf_lc (own:=[("name",11)]) hr.cool sc_Book_init.nd (mi_seq (me_var 3)) (blkOk_by (N:=n_Book_init) (sc:=defScope s_Book_init) (by decide +kernel)) (fun _ _ _ _ _ _=>(mg_name 11 sc_Book_init.nd)) (fun _ _ _ _ _ co95=>(mifs_one (mt_cmp (om_in (units65 (hr.blk co95))) (me_var 11) (me_var 5) (by with_unfolding_all rfl)))) (fun _ _ _ _ _ _=>(me_var 11)))) ma_nil)))
 (mss_cons (ms_fld T.f_rules (me_var 0) (me_tup (ma_cons (me_var 6) (ma_cons (me_var 7) ma_nil))))
 (mss_cons (ms_fld T.f_known (me_var 0) me_newDD)
 (mss_one (ms_fld T.f_texts (me_var 0) (me_dc (units65 hr) (own:=[("key",10)]) hr.cool sc_Book_init.nd (mi_keysDD (me_var 4)) (blkOk_by (N:=n_Book_init) (sc:=defScope s_Book_init) (by decide +kernel)) (fun _ _ _ _ _ _=>(mg_name 10 sc_Book_init.nd)) (fun _ _ _ _ _ _=>mifs_nil) (fun _ _ _ _ _ _=>(me_var 10)) (fun _ _ _ _ _ co100=>(me_callTy cm_tuple rfl T.z_tuple (by decide +kernel) (ma_cons (me_getDD (units65 (hr.blk co100)) (me_var 4) (me_var 10)) ma_nil)))))))))))))))))
theorem ok_arrangements (hw:w=G.w) (T:Txt K mg G) {f:Addr} {fd:FuncData} (F:Fun K "arrangements" "arrangements" s_arrangements f fd) :
  GnOk Pg w K mg base G false 1 f fd ["names"] yf_arrangements:=
 gn_ok (k:=0) (N:=n_arrangements) (mb:=yb_arrangements) T.hK hw F sc_arrangements fun cdv A outer s H h0=>
 (yss_cons (ys_ms fun g=>have hr:=gRoomG h0 g (L2.frs outer);(ms_set 1 sc_arrangements.nd (me_f (mf_lst (ma_cons (me_tup ma_nil) ma_nil)))))
 (yss_one (ys_for h0.hd (fun g=>have hr:=gRoomG h0 g (L2.frs outer);(mi_range1 rfl T.z_range (ma_cons (me_bin om_add (me_callB cm_len rfl T.z_len PySem.boot_len (ma_cons (me_var 0) ma_nil)) me_int) ma_nil))) (fun g=>have hr:=gRoomG h0 g (L2.frs outer);(mg_name 2 sc_arrangements.nd)) (yss_cons (ys_for h0.hd (fun g=>have hr:=gRoomG h0 g (L2.frs outer);(mi_seq (me_var 1))) (fun g=>have hr:=gRoomG h0 g (L2.frs outer);(mg_name 3 sc_arrangements.nd)) (yss_one (ys_yield fun g=>have hr:=gRoomG h0 g (L2.frs outer);(me_var 3))))
 (yss_one (ys_ms fun g=>have hr:=gRoomG h0 g (L2.frs outer);(ms_setLc2 (i:=1) (own:=[("row",3),("name",4)]) (vs1:=[4]) hr.cool sc_arrangements.nd (mi_seq (me_var 1)) (blkOk_by (N:=n_arrangements) (sc:=defScope s_arrangements) (by decide +kernel)) (fun _ _ _ _ _ _=>(mg_name 3 sc_arrangements.nd)) (fun _ _ _ _ _ _=>mifs_nil) (fun _ _ _ _ _ _=>(mi_seq (me_var 0))) (fun _ _ _ _ _ _=>(mg_name 4 sc_arrangements.nd)) (fun _ _ _ _ _ co108=>(mifs_one (mt_cmp (om_notin (units65 (hr.blk co108))) (me_var 4) (me_var 3) (by with_unfolding_all rfl)))) (fun _ _ _ _ _ _=>(me_bin om_add (me_var 3) (me_tup (ma_cons (me_var 4) ma_nil)))) (sw_true rfl rfl rfl (by decide +kernel)))))))))
theorem ok_Book_order (hw:w=G.w) (T:Txt K mg G) (C_are_chosen:Cal Pg w K mg base G 1 "are_chosen" 2 mf_are_chosen) (C_merge_orders:Cal Pg w K mg base G 2 "merge_orders" 1 mf_merge_orders) {f:Addr} {fd:FuncData} (F:Fun K "order" "Book.order" s_Book_order f fd) :
  M3.FnOk Pg w K mg base (CXq Pg w) 3 f fd ["self","bases"] (spM G 2 mf_Book_order):=
 fn_ok (k:=2) (N:=n_Book_order) (mb:=mb_Book_order) T.hK hw F sc_Book_order fun cdv A outer s H E hr=>
 (mss_cons (ms_setLc (i:=2) (own:=[("pair",3)]) hr.cool sc_Book_order.nd (mi_seq (me_fld T.f_class_pairs (me_var 0))) (blkOk_by (N:=n_Book_order) (sc:=defScope s_Book_order) (by decide +kernel)) (fun _ _ _ _ _ _=>(mg_name 3 sc_Book_order.nd)) (fun _ _ _ _ _ _=>mifs_nil) (fun _ _ _ _ _ _=>(me_ix (me_var 3) me_int)) (sw_true rfl rfl rfl (by decide +kernel)))
 (mss_cons (ms_if (mt_w (mw_or (mt_not (mt_tru (me_call C_are_chosen hr (by decide) (M3.takes_of rfl rfl rfl rfl) rfl (ma_cons (me_var 1) (ma_cons (me_var 2) ma_nil))))) (mw_or1 (mt_cmp (om_eq hr.units) (me_callB cm_len rfl T.z_len PySem.boot_len (ma_cons (me_var 1) ma_nil)) me_int (nomark _))))) (mss_one (ms_raise T.r_NoOrder hr.cool (M3.takes_of rfl rfl rfl rfl) rfl)) mss_nil)
 (mss_one (ms_ret (me_call C_merge_orders hr (by decide) (M3.takes_of rfl rfl rfl rfl) rfl (ma_cons (me_bin om_add (me_f (mf_lc (own:=[("name",4)]) hr.cool sc_Book_order.nd (mi_seq (me_var 1)) (blkOk_by (N:=n_Book_order) (sc:=defScope s_Book_order) (by decide +kernel)) (fun _ _ _ _ _ _=>(mg_name 4 sc_Book_order.nd)) (fun _ _ _ _ _ _=>mifs_nil) (fun _ _ _ _ _ co115=>(me_dg (units65 (hr.blk co115)) (me_fld T.f_orders (me_var 0)) (me_var 4))))) (me_f (mf_lst (ma_cons (me_var 1) ma_nil)))) ma_nil))))))
theorem ok_Book_has_order (hw:w=G.w) (T:Txt K mg G) (M_Book_Book_order:MthOk Pg w K mg base G 3 "order" 1 "Book" mf_Book_order) {f:Addr} {fd:FuncData} (F:Fun K "has_order" "Book.has_order" s_Book_has_order f fd) :
  M3.FnOk Pg w K mg base (CXq Pg w) 4 f fd ["self","bases"] (spM G 2 mf_Book_has_order):=
 fn_ok (k:=3) (N:=n_Book_has_order) (mb:=mb_Book_has_order) T.hK hw F sc_Book_has_order fun cdv A outer s H E hr=>
 (mss_cons (ms_tryOnly rfl rfl ⟨rfl,by decide,.inl T.n_NoOrder⟩ (M3.takes_of rfl rfl rfl rfl) (subT_ok T.x_NoOrder) (fun W pn xe tk o=>(mss_one (ms_drop (me_meth (one M_Book_Book_order) hr (by decide) tk (me_var 0) (ma_cons (me_var 1) ma_nil))))) (fun a oe cv dd pn c x hz hfd cr=>(mss_one (ms_ret me_bl))))
 (mss_one (ms_ret me_bl)))
theorem ok_Book_can_own (hw:w=G.w) (T:Txt K mg G) (C_are_chosen:Cal Pg w K mg base G 1 "are_chosen" 2 mf_are_chosen) {f:Addr} {fd:FuncData} (F:Fun K "can_own" "Book.can_own" s_Book_can_own f fd) :
  M3.FnOk Pg w K mg base (CXq Pg w) 2 f fd ["self","own"] (spM G 2 mf_Book_can_own):=
 fn_ok (k:=1) (N:=n_Book_can_own) (mb:=mb_Book_can_own) T.hK hw F sc_Book_can_own fun cdv A outer s H E hr=>
 (mss_one (ms_ret (me_and (me_call C_are_chosen hr (by decide) (M3.takes_of rfl rfl rfl rfl) rfl (ma_cons (me_var 1) (ma_cons (me_fld T.f_method_names (me_var 0)) ma_nil))) (me_one (me_cmp (om_eq hr.units) (me_var 1) (me_callTy cm_tuple rfl T.z_tuple (by decide +kernel) (ma_cons (me_f (mf_lc (own:=[("name",2)]) hr.cool sc_Book_can_own.nd (mi_seq (me_fld T.f_method_names (me_var 0))) (blkOk_by (N:=n_Book_can_own) (sc:=defScope s_Book_can_own) (by decide +kernel)) (fun _ _ _ _ _ _=>(mg_name 2 sc_Book_can_own.nd)) (fun _ _ _ _ _ co117=>(mifs_one (mt_cmp (om_in (units65 (hr.blk co117))) (me_var 2) (me_var 1) (by with_unfolding_all rfl)))) (fun _ _ _ _ _ _=>(me_var 2)))) ma_nil)) (nomark _))))))
theorem ok_Book_kinds (hw:w=G.w) (T:Txt K mg G) (C_arrangements:CalG Pg w K mg base G false 1 "arrangements" 1 yf_arrangements) (M_Book_Book_has_order:MthOk Pg w K mg base G 4 "has_order" 1 "Book" mf_Book_has_order) (M_Book_Book_can_own:MthOk Pg w K mg base G 2 "can_own" 1 "Book" mf_Book_can_own) {f:Addr} {fd:FuncData} (F:Fun K "kinds" "Book.kinds" s_Book_kinds f fd) :
  GnOk Pg w K mg base G true 5 f fd ["self"] yf_Book_kinds:=
 gn_ok (k:=4) (N:=n_Book_kinds) (mb:=yb_Book_kinds) T.hK hw F sc_Book_kinds fun cdv A outer s H h0=>
 (yss_cons (ys_ms fun g=>have hr:=gRoomG h0 g (L2.frs outer);(ms_setLc (i:=1) (own:=[("pair",3)]) hr.cool sc_Book_kinds.nd (mi_seq (me_fld T.f_class_pairs (me_var 0))) (blkOk_by (N:=n_Book_kinds) (sc:=defScope s_Book_kinds) (by decide +kernel)) (fun _ _ _ _ _ _=>(mg_name 3 sc_Book_kinds.nd)) (fun _ _ _ _ _ _=>mifs_nil) (fun _ _ _ _ _ _=>(me_ix (me_var 3) me_int)) (sw_true rfl rfl rfl (by decide +kernel))))
 (yss_one (ys_forG (k:=1) h0.hd (gr_in0 h0 (by decide)) h0.depth (fun g=>have hr:=gRoomG h0 g (L2.frs outer);(ig_call C_arrangements (gr_at hr h0.hd (by decide)) rfl (ma_cons (me_var 1) ma_nil))) (fun g=>have hr:=gRoomG h0 g (L2.frs outer);(mg_name 2 sc_Book_kinds.nd)) (yss_one (ys_if (fun g=>have hr:=gRoomG h0 g (L2.frs outer);(mt_tru (me_meth (one M_Book_Book_has_order) hr (by decide) M3.takes0 (me_var 0) (ma_cons (me_var 2) ma_nil)))) (yss_one (ys_forG (k:=1) h0.hd (gr_in0 h0 (by decide)) h0.depth (fun g=>have hr:=gRoomG h0 g (L2.frs outer);(ig_call C_arrangements (gr_at hr h0.hd (by decide)) rfl (ma_cons (me_fld T.f_method_names (me_var 0)) ma_nil))) (fun g=>have hr:=gRoomG h0 g (L2.frs outer);(mg_name 4 sc_Book_kinds.nd)) (yss_one (ys_if (fun g=>have hr:=gRoomG h0 g (L2.frs outer);(mt_tru (me_meth (one M_Book_Book_can_own) hr (by decide) M3.takes0 (me_var 0) (ma_cons (me_var 4) ma_nil)))) (yss_one (ys_yield fun g=>have hr:=gRoomG h0 g (L2.frs outer);(me_tup (ma_cons (me_var 2) (ma_cons (me_var 4) ma_nil))))) yss_nil)))) yss_nil)))))
theorem ok_law (hw:w=G.w) (T:Txt K mg G) (C_w_digits:Cal Pg w K mg base G 1 "_law_digits" 3 mf_w_digits) (C_w_cell_at:Cal Pg w K mg base G 1 "_law_cell_at" 2 mf_w_cell_at) (C_w_spelled:Cal Pg w K mg base G 1 "_law_spelled" 2 mf_w_spelled) (C_w_class_list:Cal Pg w K mg base G 2 "_law_class_list" 2 mf_w_class_list) (C_w_every_kind:Cal Pg w K mg base G 2 "_law_every_kind" 1 mf_w_every_kind) (N_Book_4:MkOk3 Pg w K mg base G 5 "Book" "Book" 4 [.ctup [],.str "keep",.str "maker"] mf_Book_init) (GM_Book_kinds:MthG Pg w K mg base G true 5 "kinds" "Book" yf_Book_kinds) {f:Addr} {fd:FuncData} (F:Fun K "law" "law" s_law f fd) :
  FnOk0 Pg w K mg base 7 f fd ["_law_script"] (spM G 1 mf_law):=
 fn_ok0 (k:=6) (N:=n_law) (mb:=mb_law) T.hK hw F sc_law fun cdv A outer s H E hr hn=>
 (mss_cons (ms_set 1 sc_law.nd (me_call C_w_digits hr (by decide) (M3.takes_of rfl rfl rfl rfl) rfl (ma_cons (me_call C_w_cell_at hr (by decide) (M3.takes_of rfl rfl rfl rfl) rfl (ma_cons (me_var 0) (ma_cons me_int ma_nil))) (ma_cons me_int (ma_cons me_int ma_nil)))))
 (mss_cons (ms_ownD 2 sc_law.nd)
 (mss_cons (ms_setK 2 (units65 hr) me_str (me_sl (me_call C_w_spelled hr (by decide) (M3.takes_of rfl rfl rfl rfl) rfl (ma_cons (me_ix (me_var 1) me_int) (ma_cons me_int ma_nil))) mp_none (mp_some (me_bin om_add me_int (me_bin om_mod (me_callTy cm_int rfl T.z_int (by decide +kernel) (ma_cons (me_ix (me_var 1) me_int) ma_nil)) me_int)))))
 (mss_cons (ms_setK 2 (units65 hr) me_str (me_call C_w_class_list hr (by decide) (M3.takes_of rfl rfl rfl rfl) rfl (ma_cons (me_sl (me_var 1) (mp_some me_int) (mp_some me_int)) (ma_cons (me_sl (me_call C_w_spelled hr (by decide) (M3.takes_of rfl rfl rfl rfl) rfl (ma_cons (me_ix (me_var 1) me_int) (ma_cons me_int ma_nil))) mp_none (mp_some (me_bin om_add me_int (me_bin om_mod (me_callTy cm_int rfl T.z_int (by decide +kernel) (ma_cons (me_ix (me_var 1) me_int) ma_nil)) me_int)))) ma_nil))))
 (mss_cons (ms_frzD 2 (ms_set 3 sc_law.nd (me_call C_w_every_kind hr (by decide) (M3.takes_of rfl rfl rfl rfl) rfl (ma_cons (me_var 2) ma_nil))))
 (mss_cons (ms_set 4 sc_law.nd (me_mk3 N_Book_4 hr (by decide) (M3.takes_of rfl rfl rfl rfl) rfl (ma_cons (me_f (mf_callTy cf_list rfl T.z_list (by decide +kernel) (ma_cons (me_dg (units65 hr) (me_var 2) me_str) ma_nil))) (ma_cons (me_f (mf_callTy cf_list rfl T.z_list (by decide +kernel) (ma_cons (me_dg (units65 hr) (me_var 2) me_str) ma_nil))) (ma_cons (me_f (mf_lst ma_nil)) (ma_cons me_dd0 ma_nil))))))
 (mss_cons (ms_for (passes_of rfl) hr.cool (mi_range1 rfl T.z_range (ma_cons me_int ma_nil)) (mg_name 5 sc_law.nd) (mss_cons (ms_setGen (j:=6) (own:=[("_law_kind",7)]) (i:=7) (k:=5) hn sc_law.nd (gr_in hr hn (by decide)) hr.depth (ig_meth GM_Book_kinds (gr_at hr hn (by decide)) (me_var 4)) (blkOk_by (N:=n_law) (sc:=defScope s_law) (by decide +kernel)) (by decide +kernel) (show 7<List.length n_law by decide) (fun _ _ _ _ _ _=>(mg_name 7 sc_law.nd)) (fun _ _ _ _ _ _=>(me_var 7)) (sw_true rfl rfl rfl (by decide +kernel)))
 (mss_cons (ms_if (mt_w (mw_or (mt_cmp (om_ne hr.units) (me_callB cm_len rfl T.z_len PySem.boot_len (ma_cons (me_var 6) ma_nil)) (me_callB cm_len rfl T.z_len PySem.boot_len (ma_cons (me_var 3) ma_nil)) (nomark _)) (mw_or1 (mt_not (mt_tru (me_callB (cm_all hr.cool) rfl T.z_all (by decide +kernel) (ma_cons (me_f (mf_lc (own:=[("_law_kind",7)]) hr.cool sc_law.nd (mi_seq (me_var 6)) (blkOk_by (N:=n_law) (sc:=defScope s_law) (by decide +kernel)) (fun _ _ _ _ _ _=>(mg_name 7 sc_law.nd)) (fun _ _ _ _ _ _=>mifs_nil) (fun _ _ _ _ _ co123=>(me_and (me_callB cm_isi2 rfl T.z_isinstance (by decide +kernel) (ma_cons (me_var 7) (ma_cons (me_ty rfl T.z_tuple (by decide +kernel)) ma_nil))) (me_one (me_cmp (om_eq (hr.blk co123).units) (me_callB cm_len rfl T.z_len PySem.boot_len (ma_cons (me_var 7) ma_nil)) me_int (nomark _))))))) ma_nil))))))) (mss_one (ms_ret me_bl)) mss_nil)
 (mss_cons (ms_if (mt_not (mt_tru (me_callB (cm_all hr.cool) rfl T.z_all (by decide +kernel) (ma_cons (me_f (mf_lc (own:=[("_law_kind",7)]) hr.cool sc_law.nd (mi_seq (me_var 6)) (blkOk_by (N:=n_law) (sc:=defScope s_law) (by decide +kernel)) (fun _ _ _ _ _ _=>(mg_name 7 sc_law.nd)) (fun _ _ _ _ _ _=>mifs_nil) (fun _ _ _ _ _ _=>(me_and (me_callB cm_isi2 rfl T.z_isinstance (by decide +kernel) (ma_cons (me_ix (me_var 7) me_int) (ma_cons (me_ty rfl T.z_tuple (by decide +kernel)) ma_nil))) (me_one (me_callB cm_isi2 rfl T.z_isinstance (by decide +kernel) (ma_cons (me_ix (me_var 7) me_int) (ma_cons (me_ty rfl T.z_tuple (by decide +kernel)) ma_nil)))))))) ma_nil)))) (mss_one (ms_ret me_bl)) mss_nil)
 (mss_one (ms_if (mt_cmp (om_ne hr.units) (me_var 6) (me_var 3) (nomark _)) (mss_one (ms_ret me_bl)) mss_nil))))))
 (mss_one (ms_ret me_bl)))))))))
end
set_option maxHeartbeats 0 in
theorem all_mk {l:PySem.W.OpenLaw} {w:World} {K:PySem.W.Frag} {h:Heap} {mg:Str→Option Value} {fa f0 f1 f2 f3 f4 f5 f6 f7 f8 f9 f10 f11 f12 f13 f14 f15 f16 f17 f18 f19 f20 f21 f22 f23 f24 f25 f26 f27:Addr} (X:K.In h) (G0:h.Ns mainGlobals mg) (hfa:mg "law" = some (.ref fa))
  {CL_NoOrder:Addr}
  {CL_Book:Addr}
  {od0 an0:Option Addr}
  {sl0:Array (Option Value)}
  {oc0 kV0 dc0 pm0 cd0 ct0:Value}
  {od1 an1:Option Addr}
  {sl1:Array (Option Value)}
  {oc1 kV1 dc1 pm1 cd1 ct1:Value}
  {od2 an2:Option Addr}
  {sl2:Array (Option Value)}
  {oc2 kV2 dc2 pm2 cd2 ct2:Value}
  {od3 an3:Option Addr}
  {sl3:Array (Option Value)}
  {oc3 kV3 dc3 pm3 cd3 ct3:Value}
  {od4 an4:Option Addr}
  {sl4:Array (Option Value)}
  {oc4 kV4 dc4 pm4 cd4 ct4:Value}
  {od5 an5:Option Addr}
  {sl5:Array (Option Value)}
  {oc5 kV5 dc5 pm5 cd5 ct5:Value}
  {od6 an6:Option Addr}
  {sl6:Array (Option Value)}
  {oc6 kV6 dc6 pm6 cd6 ct6:Value}
  {od7 an7:Option Addr}
  {sl7:Array (Option Value)}
  {oc7 kV7 dc7 pm7 cd7 ct7:Value}
  {od8 an8:Option Addr}
  {sl8:Array (Option Value)}
  {oc8 kV8 dc8 pm8 cd8 ct8:Value}
  {od9 an9:Option Addr}
  {sl9:Array (Option Value)}
  {oc9 kV9 dc9 pm9 cd9 ct9:Value}
  {od10 an10:Option Addr}
  {sl10:Array (Option Value)}
  {oc10 kV10 dc10 pm10 cd10 ct10:Value}
  {od11 an11:Option Addr}
  {sl11:Array (Option Value)}
  {oc11 kV11 dc11 pm11 cd11 ct11:Value}
  {od12 an12:Option Addr}
  {sl12:Array (Option Value)}
  {oc12 kV12 dc12 pm12 cd12 ct12:Value}
  {od13 an13:Option Addr}
  {sl13:Array (Option Value)}
  {oc13 kV13 dc13 pm13 cd13 ct13:Value}
  {od14 an14:Option Addr}
  {sl14:Array (Option Value)}
  {oc14 kV14 dc14 pm14 cd14 ct14:Value}
  {od15 an15:Option Addr}
  {sl15:Array (Option Value)}
  {oc15 kV15 dc15 pm15 cd15 ct15:Value}
  {od16 an16:Option Addr}
  {sl16:Array (Option Value)}
  {oc16 kV16 dc16 pm16 cd16 ct16:Value}
  {od17 an17:Option Addr}
  {sl17:Array (Option Value)}
  {oc17 kV17 dc17 pm17 cd17 ct17:Value}
  {od18 an18:Option Addr}
  {sl18:Array (Option Value)}
  {oc18 kV18 dc18 pm18 cd18 ct18:Value}
  {od19 an19:Option Addr}
  {sl19:Array (Option Value)}
  {oc19 kV19 dc19 pm19 cd19 ct19:Value}
  {od20 an20:Option Addr}
  {sl20:Array (Option Value)}
  {oc20 kV20 dc20 pm20 cd20 ct20:Value}
  {od21 an21:Option Addr}
  {sl21:Array (Option Value)}
  {oc21 kV21 dc21 pm21 cd21 ct21:Value}
  {od22 an22:Option Addr}
  {sl22:Array (Option Value)}
  {oc22 kV22 dc22 pm22 cd22 ct22:Value}
  {od23 an23:Option Addr}
  {sl23:Array (Option Value)}
  {oc23 kV23 dc23 pm23 cd23 ct23:Value}
  {od24 an24:Option Addr}
  {sl24:Array (Option Value)}
  {oc24 kV24 dc24 pm24 cd24 ct24:Value}
  {od25 an25:Option Addr}
  {sl25:Array (Option Value)}
  {oc25 kV25 dc25 pm25 cd25 ct25:Value}
  {od26 an26:Option Addr}
  {sl26:Array (Option Value)}
  {oc26 kV26 dc26 pm26 cd26 ct26:Value}
  {od27 an27:Option Addr}
  {sl27:Array (Option Value)}
  {oc27 kV27 dc27 pm27 cd27 ct27:Value}
  (n_NoOrder:PySem.W.nsIn K mainGlobals "NoOrder" = some (some (.ref CL_NoOrder)))
  (n_Book:PySem.W.nsIn K mainGlobals "Book" = some (some (.ref CL_Book)))
  (cg_Book:PySem.W.plainGet K CL_Book Str.empty=true)
  (ch_Book:PySem.W.hasDictIn K CL_Book=true)
  (cp_Book:PySem.W.plainOver K CL_Book=true)
  (cs_Book:PySem.W.findIn K (.ref CL_Book) "__setattr__" = some (some (.builtin "object.__setattr__")))
  (cm_Book:PySem.W.makesIn K CL_Book=true)
  (ck_Book:PySem.W.keepIn K (.ref CL_Book)=true)
  (na_Book_orders:PySem.W.findIn K (.ref CL_Book) "orders" = some none)
  (na_Book_class_pairs:PySem.W.findIn K (.ref CL_Book) "class_pairs" = some none)
  (na_Book_method_names:PySem.W.findIn K (.ref CL_Book) "method_names" = some none)
  (na_Book_layer_names:PySem.W.findIn K (.ref CL_Book) "layer_names" = some none)
  (na_Book_inner_names:PySem.W.findIn K (.ref CL_Book) "inner_names" = some none)
  (na_Book_rules:PySem.W.findIn K (.ref CL_Book) "rules" = some none)
  (na_Book_known:PySem.W.findIn K (.ref CL_Book) "known" = some none)
  (na_Book_texts:PySem.W.findIn K (.ref CL_Book) "texts" = some none)
  (in_Book:PySem.W.findIn K (.ref CL_Book) "__init__" = some (some (.ref f21)))
  (mt_Book_Book_order:PySem.W.findIn K (.ref CL_Book) "order" = some (some (.ref f23)))
  (mt_Book_Book_has_order:PySem.W.findIn K (.ref CL_Book) "has_order" = some (some (.ref f24)))
  (mt_Book_Book_can_own:PySem.W.findIn K (.ref CL_Book) "can_own" = some (some (.ref f25)))
  (mt_Book_Book_kinds:PySem.W.findIn K (.ref CL_Book) "kinds" = some (some (.ref f26)))
  (a0:PySem.W.nsIn K mainGlobals "_law_digits" = some (some (.ref f0)))
  (l0:K.lookup f0=some ⟨oc0,od0,.func (PySem.W.fnOf "_law_digits" "_law_digits" (defArgs s_w_digits) (defBody s_w_digits) (defScope s_w_digits) .none kV0 dc0 pm0 an0 cd0 ct0),sl0⟩)
  (c0:PySem.W.codeIn K cd0 "_law_digits" = true)
  (k0:PySem.W.keepIn K (.ref f0)=true)
  (a1:PySem.W.nsIn K mainGlobals "_law_cell_at" = some (some (.ref f1)))
  (l1:K.lookup f1=some ⟨oc1,od1,.func (PySem.W.fnOf "_law_cell_at" "_law_cell_at" (defArgs s_w_cell_at) (defBody s_w_cell_at) (defScope s_w_cell_at) .none kV1 dc1 pm1 an1 cd1 ct1),sl1⟩)
  (c1:PySem.W.codeIn K cd1 "_law_cell_at" = true)
  (k1:PySem.W.keepIn K (.ref f1)=true)
  (a2:PySem.W.nsIn K mainGlobals "_law_spelled" = some (some (.ref f2)))
  (l2:K.lookup f2=some ⟨oc2,od2,.func (PySem.W.fnOf "_law_spelled" "_law_spelled" (defArgs s_w_spelled) (defBody s_w_spelled) (defScope s_w_spelled) .none kV2 dc2 pm2 an2 cd2 ct2),sl2⟩)
  (c2:PySem.W.codeIn K cd2 "_law_spelled" = true)
  (k2:PySem.W.keepIn K (.ref f2)=true)
  (a3:PySem.W.nsIn K mainGlobals "_law_ordered" = some (some (.ref f3)))
  (l3:K.lookup f3=some ⟨oc3,od3,.func (PySem.W.fnOf "_law_ordered" "_law_ordered" (defArgs s_w_ordered) (defBody s_w_ordered) (defScope s_w_ordered) .none kV3 dc3 pm3 an3 cd3 ct3),sl3⟩)
  (c3:PySem.W.codeIn K cd3 "_law_ordered" = true)
  (k3:PySem.W.keepIn K (.ref f3)=true)
  (a4:PySem.W.nsIn K mainGlobals "_law_class_list" = some (some (.ref f4)))
  (l4:K.lookup f4=some ⟨oc4,od4,.func (PySem.W.fnOf "_law_class_list" "_law_class_list" (defArgs s_w_class_list) (defBody s_w_class_list) (defScope s_w_class_list) .none kV4 dc4 pm4 an4 cd4 ct4),sl4⟩)
  (c4:PySem.W.codeIn K cd4 "_law_class_list" = true)
  (k4:PySem.W.keepIn K (.ref f4)=true)
  (a5:PySem.W.nsIn K mainGlobals "_law_arranged" = some (some (.ref f5)))
  (l5:K.lookup f5=some ⟨oc5,od5,.func (PySem.W.fnOf "_law_arranged" "_law_arranged" (defArgs s_w_arranged) (defBody s_w_arranged) (defScope s_w_arranged) .none kV5 dc5 pm5 an5 cd5 ct5),sl5⟩)
  (c5:PySem.W.codeIn K cd5 "_law_arranged" = true)
  (k5:PySem.W.keepIn K (.ref f5)=true)
  (a6:PySem.W.nsIn K mainGlobals "_law_is_own" = some (some (.ref f6)))
  (l6:K.lookup f6=some ⟨oc6,od6,.func (PySem.W.fnOf "_law_is_own" "_law_is_own" (defArgs s_w_is_own) (defBody s_w_is_own) (defScope s_w_is_own) .none kV6 dc6 pm6 an6 cd6 ct6),sl6⟩)
  (c6:PySem.W.codeIn K cd6 "_law_is_own" = true)
  (k6:PySem.W.keepIn K (.ref f6)=true)
  (a7:PySem.W.nsIn K mainGlobals "_law_every_kind" = some (some (.ref f7)))
  (l7:K.lookup f7=some ⟨oc7,od7,.func (PySem.W.fnOf "_law_every_kind" "_law_every_kind" (defArgs s_w_every_kind) (defBody s_w_every_kind) (defScope s_w_every_kind) .none kV7 dc7 pm7 an7 cd7 ct7),sl7⟩)
  (c7:PySem.W.codeIn K cd7 "_law_every_kind" = true)
  (k7:PySem.W.keepIn K (.ref f7)=true)
  (a8:PySem.W.nsIn K mainGlobals "is_word" = some (some (.ref f8)))
  (l8:K.lookup f8=some ⟨oc8,od8,.func (PySem.W.fnOf "is_word" "is_word" (defArgs s_is_word) (defBody s_is_word) (defScope s_is_word) .none kV8 dc8 pm8 an8 cd8 ct8),sl8⟩)
  (c8:PySem.W.codeIn K cd8 "is_word" = true)
  (k8:PySem.W.keepIn K (.ref f8)=true)
  (a9:PySem.W.nsIn K mainGlobals "good_names" = some (some (.ref f9)))
  (l9:K.lookup f9=some ⟨oc9,od9,.func (PySem.W.fnOf "good_names" "good_names" (defArgs s_good_names) (defBody s_good_names) (defScope s_good_names) .none kV9 dc9 pm9 an9 cd9 ct9),sl9⟩)
  (c9:PySem.W.codeIn K cd9 "good_names" = true)
  (k9:PySem.W.keepIn K (.ref f9)=true)
  (a10:PySem.W.nsIn K mainGlobals "are_chosen" = some (some (.ref f10)))
  (l10:K.lookup f10=some ⟨oc10,od10,.func (PySem.W.fnOf "are_chosen" "are_chosen" (defArgs s_are_chosen) (defBody s_are_chosen) (defScope s_are_chosen) .none kV10 dc10 pm10 an10 cd10 ct10),sl10⟩)
  (c10:PySem.W.codeIn K cd10 "are_chosen" = true)
  (k10:PySem.W.keepIn K (.ref f10)=true)
  (a11:PySem.W.nsIn K mainGlobals "good_classes" = some (some (.ref f11)))
  (l11:K.lookup f11=some ⟨oc11,od11,.func (PySem.W.fnOf "good_classes" "good_classes" (defArgs s_good_classes) (defBody s_good_classes) (defScope s_good_classes) .none kV11 dc11 pm11 an11 cd11 ct11),sl11⟩)
  (c11:PySem.W.codeIn K cd11 "good_classes" = true)
  (k11:PySem.W.keepIn K (.ref f11)=true)
  (a12:PySem.W.nsIn K mainGlobals "free_name" = some (some (.ref f12)))
  (l12:K.lookup f12=some ⟨oc12,od12,.func (PySem.W.fnOf "free_name" "free_name" (defArgs s_free_name) (defBody s_free_name) (defScope s_free_name) .none kV12 dc12 pm12 an12 cd12 ct12),sl12⟩)
  (c12:PySem.W.codeIn K cd12 "free_name" = true)
  (k12:PySem.W.keepIn K (.ref f12)=true)
  (a13:PySem.W.nsIn K mainGlobals "merge_orders" = some (some (.ref f13)))
  (l13:K.lookup f13=some ⟨oc13,od13,.func (PySem.W.fnOf "merge_orders" "merge_orders" (defArgs s_merge_orders) (defBody s_merge_orders) (defScope s_merge_orders) .none kV13 dc13 pm13 an13 cd13 ct13),sl13⟩)
  (c13:PySem.W.codeIn K cd13 "merge_orders" = true)
  (k13:PySem.W.keepIn K (.ref f13)=true)
  (a14:PySem.W.nsIn K mainGlobals "class_orders" = some (some (.ref f14)))
  (l14:K.lookup f14=some ⟨oc14,od14,.func (PySem.W.fnOf "class_orders" "class_orders" (defArgs s_class_orders) (defBody s_class_orders) (defScope s_class_orders) .none kV14 dc14 pm14 an14 cd14 ct14),sl14⟩)
  (c14:PySem.W.codeIn K cd14 "class_orders" = true)
  (k14:PySem.W.keepIn K (.ref f14)=true)
  (a15:PySem.W.nsIn K mainGlobals "bad_part" = some (some (.ref f15)))
  (l15:K.lookup f15=some ⟨oc15,od15,.func (PySem.W.fnOf "bad_part" "bad_part" (defArgs s_bad_part) (defBody s_bad_part) (defScope s_bad_part) .none kV15 dc15 pm15 an15 cd15 ct15),sl15⟩)
  (c15:PySem.W.codeIn K cd15 "bad_part" = true)
  (k15:PySem.W.keepIn K (.ref f15)=true)
  (a16:PySem.W.nsIn K mainGlobals "good_row" = some (some (.ref f16)))
  (l16:K.lookup f16=some ⟨oc16,od16,.func (PySem.W.fnOf "good_row" "good_row" (defArgs s_good_row) (defBody s_good_row) (defScope s_good_row) .none kV16 dc16 pm16 an16 cd16 ct16),sl16⟩)
  (c16:PySem.W.codeIn K cd16 "good_row" = true)
  (k16:PySem.W.keepIn K (.ref f16)=true)
  (a17:PySem.W.nsIn K mainGlobals "switches" = some (some (.ref f17)))
  (l17:K.lookup f17=some ⟨oc17,od17,.func (PySem.W.fnOf "switches" "switches" (defArgs s_switches) (defBody s_switches) (defScope s_switches) .none kV17 dc17 pm17 an17 cd17 ct17),sl17⟩)
  (c17:PySem.W.codeIn K cd17 "switches" = true)
  (k17:PySem.W.keepIn K (.ref f17)=true)
  (a18:PySem.W.nsIn K mainGlobals "well_nested" = some (some (.ref f18)))
  (l18:K.lookup f18=some ⟨oc18,od18,.func (PySem.W.fnOf "well_nested" "well_nested" (defArgs s_well_nested) (defBody s_well_nested) (defScope s_well_nested) .none kV18 dc18 pm18 an18 cd18 ct18),sl18⟩)
  (c18:PySem.W.codeIn K cd18 "well_nested" = true)
  (k18:PySem.W.keepIn K (.ref f18)=true)
  (a19:PySem.W.nsIn K mainGlobals "good_body" = some (some (.ref f19)))
  (l19:K.lookup f19=some ⟨oc19,od19,.func (PySem.W.fnOf "good_body" "good_body" (defArgs s_good_body) (defBody s_good_body) (defScope s_good_body) .none kV19 dc19 pm19 an19 cd19 ct19),sl19⟩)
  (c19:PySem.W.codeIn K cd19 "good_body" = true)
  (k19:PySem.W.keepIn K (.ref f19)=true)
  (a20:PySem.W.nsIn K mainGlobals "good_bodies" = some (some (.ref f20)))
  (l20:K.lookup f20=some ⟨oc20,od20,.func (PySem.W.fnOf "good_bodies" "good_bodies" (defArgs s_good_bodies) (defBody s_good_bodies) (defScope s_good_bodies) .none kV20 dc20 pm20 an20 cd20 ct20),sl20⟩)
  (c20:PySem.W.codeIn K cd20 "good_bodies" = true)
  (k20:PySem.W.keepIn K (.ref f20)=true)
  (l21:K.lookup f21=some ⟨oc21,od21,.func (PySem.W.fnOf "__init__" "Book.__init__" (defArgs s_Book_init) (defBody s_Book_init) (defScope s_Book_init) .none kV21 dc21 pm21 an21 cd21 ct21),sl21⟩)
  (c21:PySem.W.codeIn K cd21 "Book.__init__" = true)
  (k21:PySem.W.keepIn K (.ref f21)=true)
  (fn21:PySem.W.isFn K (.ref f21)=true)
  {kD21:Addr}
  (kk21:kV21=.ref kD21)
  {kp21_inner:Addr}
  {kd21_inner:Option Addr}
  {kn21_inner:Nat}
  {ks21_inner:Array (Option Value)}
  (kx21_inner:PySem.W.nsIn K kD21 "inner" = some (some (.ref kp21_inner)))
  (kl21_inner:K.lookup kp21_inner=some ⟨.type "tuple",kd21_inner,.seq #[] kn21_inner,ks21_inner⟩)
  {kt21_running:Tok}
  (kx21_running:PySem.W.nsIn K kD21 "running" = some (some (.str "keep" kt21_running)))
  {kt21_stored:Tok}
  (kx21_stored:PySem.W.nsIn K kD21 "stored" = some (some (.str "maker" kt21_stored)))
  (a22:PySem.W.nsIn K mainGlobals "arrangements" = some (some (.ref f22)))
  (l22:K.lookup f22=some ⟨oc22,od22,.func (PySem.W.fnOf "arrangements" "arrangements" (defArgs s_arrangements) (defBody s_arrangements) (defScope s_arrangements) .none kV22 dc22 pm22 an22 cd22 ct22),sl22⟩)
  (c22:PySem.W.codeIn K cd22 "arrangements" = true)
  (k22:PySem.W.keepIn K (.ref f22)=true)
  (l23:K.lookup f23=some ⟨oc23,od23,.func (PySem.W.fnOf "order" "Book.order" (defArgs s_Book_order) (defBody s_Book_order) (defScope s_Book_order) .none kV23 dc23 pm23 an23 cd23 ct23),sl23⟩)
  (c23:PySem.W.codeIn K cd23 "Book.order" = true)
  (k23:PySem.W.keepIn K (.ref f23)=true)
  (fn23:PySem.W.isFn K (.ref f23)=true)
  (l24:K.lookup f24=some ⟨oc24,od24,.func (PySem.W.fnOf "has_order" "Book.has_order" (defArgs s_Book_has_order) (defBody s_Book_has_order) (defScope s_Book_has_order) .none kV24 dc24 pm24 an24 cd24 ct24),sl24⟩)
  (c24:PySem.W.codeIn K cd24 "Book.has_order" = true)
  (k24:PySem.W.keepIn K (.ref f24)=true)
  (fn24:PySem.W.isFn K (.ref f24)=true)
  (l25:K.lookup f25=some ⟨oc25,od25,.func (PySem.W.fnOf "can_own" "Book.can_own" (defArgs s_Book_can_own) (defBody s_Book_can_own) (defScope s_Book_can_own) .none kV25 dc25 pm25 an25 cd25 ct25),sl25⟩)
  (c25:PySem.W.codeIn K cd25 "Book.can_own" = true)
  (k25:PySem.W.keepIn K (.ref f25)=true)
  (fn25:PySem.W.isFn K (.ref f25)=true)
  (l26:K.lookup f26=some ⟨oc26,od26,.func (PySem.W.fnOf "kinds" "Book.kinds" (defArgs s_Book_kinds) (defBody s_Book_kinds) (defScope s_Book_kinds) .none kV26 dc26 pm26 an26 cd26 ct26),sl26⟩)
  (c26:PySem.W.codeIn K cd26 "Book.kinds" = true)
  (k26:PySem.W.keepIn K (.ref f26)=true)
  (fn26:PySem.W.isFn K (.ref f26)=true)
  (a27:PySem.W.nsIn K mainGlobals "law" = some (some (.ref f27)))
  (l27:K.lookup f27=some ⟨oc27,od27,.func (PySem.W.fnOf "law" "law" (defArgs s_law) (defBody s_law) (defScope s_law) .none kV27 dc27 pm27 an27 cd27 ct27),sl27⟩)
  (c27:PySem.W.codeIn K cd27 "law" = true)
  (k27:PySem.W.keepIn K (.ref f27)=true)
  (z_all:PySem.W.nsIn K mainGlobals "all" = some none)
  (z_any:PySem.W.nsIn K mainGlobals "any" = some none)
  (z_dict:PySem.W.nsIn K mainGlobals "dict" = some none)
  (z_int:PySem.W.nsIn K mainGlobals "int" = some none)
  (z_isinstance:PySem.W.nsIn K mainGlobals "isinstance" = some none)
  (z_len:PySem.W.nsIn K mainGlobals "len" = some none)
  (z_list:PySem.W.nsIn K mainGlobals "list" = some none)
  (z_range:PySem.W.nsIn K mainGlobals "range" = some none)
  (z_set:PySem.W.nsIn K mainGlobals "set" = some none)
  (z_str:PySem.W.nsIn K mainGlobals "str" = some none)
  (z_sum:PySem.W.nsIn K mainGlobals "sum" = some none)
  (z_tuple:PySem.W.nsIn K mainGlobals "tuple" = some none)
  {tp_BARE_ROWS:Addr}
  {td_BARE_ROWS:Option Addr}
  {tn_BARE_ROWS:Nat}
  {ts_BARE_ROWS:Array (Option Value)}
  {tt0_BARE_ROWS tt1_BARE_ROWS tt2_BARE_ROWS tt3_BARE_ROWS tt4_BARE_ROWS tt5_BARE_ROWS tt6_BARE_ROWS tt7_BARE_ROWS:Tok}
  (v_BARE_ROWS:PySem.W.nsIn K mainGlobals "BARE_ROWS" = some (some (.ref tp_BARE_ROWS)))
  (w_BARE_ROWS:K.lookup tp_BARE_ROWS=some ⟨.type "tuple",td_BARE_ROWS,.seq #[.str "set 0" tt0_BARE_ROWS,.str "set 1" tt1_BARE_ROWS,.str "if" tt2_BARE_ROWS,.str "else" tt3_BARE_ROWS,.str "end" tt4_BARE_ROWS,.str "proceed" tt5_BARE_ROWS,.str "run" tt6_BARE_ROWS,.str "yield" tt7_BARE_ROWS] tn_BARE_ROWS,ts_BARE_ROWS⟩)
  {tk_LETTERS:Tok}
  (v_LETTERS:PySem.W.nsIn K mainGlobals "LETTERS" = some (some (.str "abcdefghijklmnopqrstuvwxyz" tk_LETTERS)))
  {tk_MOST_BLOCKS:Tok}
  (v_MOST_BLOCKS:PySem.W.nsIn K mainGlobals "MOST_BLOCKS" = some (some (.int 3 tk_MOST_BLOCKS)))
  {tk_MOST_ROWS:Tok}
  (v_MOST_ROWS:PySem.W.nsIn K mainGlobals "MOST_ROWS" = some (some (.int 10 tk_MOST_ROWS)))
  (xb_NoOrder:PySem.W.subIn K (.ref CL_NoOrder) (.type "BaseException")=some true)
  (xh_NoOrder:PySem.W.hasDictIn K CL_NoOrder=true)
  (xt_NoOrder:PySem.W.typeIn K (.ref CL_NoOrder)=some (.type "type"))
  (su_NoOrder_NoOrder:PySem.W.subIn K (.ref CL_NoOrder) (.ref CL_NoOrder)=some true)
  (rx_NoOrder:PySem.W.excIn K CL_NoOrder [.type "ValueError",.type "Exception",.type "BaseException",.type "object"] "ValueError.__new__" = true)
  (rk_NoOrder:PySem.W.keepIn K (.ref CL_NoOrder)=true)
  (rs_NoOrder:PySem.W.subIn K (.ref CL_NoOrder) (.type "BaseException")=some true)
  (rt_NoOrder:PySem.W.typeIn K (.ref CL_NoOrder)=some (.type "type"))
  : ∃(G:G3) (fd:FuncData),G.K=K∧G.tabs=[]∧(∀(s:Shared) (v:Value),BindsTo s fd ⟨[v],[]⟩ [("_law_script",v)])∧∀base:Heap,K.In base→base.Ns mainGlobals mg→L2.FnOk l.prog w K mg base (L2.CX l.prog w) 7 fa fd ["_law_script"] (spM G 1 mf_law):=by
 have e:=hfa.symm.trans (PySem.W.mg_of X G0 a27)
 cases e
 have T:Txt K mg ⟨K,w,fun c=>List.lookup c [("NoOrder",CL_NoOrder),("Book",CL_Book)],fun _=>none,fun _ _=>False,[],h,fun _=>none⟩:=⟨rfl,PySem.W.mg_none_of X G0 z_all,PySem.W.mg_none_of X G0 z_any,PySem.W.mg_none_of X G0 z_dict,PySem.W.mg_none_of X G0 z_int,PySem.W.mg_none_of X G0 z_isinstance,PySem.W.mg_none_of X G0 z_len,PySem.W.mg_none_of X G0 z_list,PySem.W.mg_none_of X G0 z_range,PySem.W.mg_none_of X G0 z_set,PySem.W.mg_none_of X G0 z_str,PySem.W.mg_none_of X G0 z_sum,PySem.W.mg_none_of X G0 z_tuple,⟨_,_,_,_,PySem.W.mg_of X G0 v_BARE_ROWS,w_BARE_ROWS,rfl,rfl,szL (by simp),(.cons ⟨_,rfl⟩ (.cons ⟨_,rfl⟩ (.cons ⟨_,rfl⟩ (.cons ⟨_,rfl⟩ (.cons ⟨_,rfl⟩ (.cons ⟨_,rfl⟩ (.cons ⟨_,rfl⟩ (.cons ⟨_,rfl⟩ .nil))))))))⟩,⟨_,PySem.W.mg_of X G0 v_LETTERS⟩,⟨_,PySem.W.mg_of X G0 v_MOST_BLOCKS⟩,⟨_,PySem.W.mg_of X G0 v_MOST_ROWS⟩,(cons_all ⟨CL_Book,rfl,⟨cg_Book,ch_Book,cp_Book,cs_Book⟩,na_Book_orders⟩ nil_all),(cons_all ⟨CL_Book,rfl,⟨cg_Book,ch_Book,cp_Book,cs_Book⟩,na_Book_class_pairs⟩ nil_all),(cons_all ⟨CL_Book,rfl,⟨cg_Book,ch_Book,cp_Book,cs_Book⟩,na_Book_method_names⟩ nil_all),(cons_all ⟨CL_Book,rfl,⟨cg_Book,ch_Book,cp_Book,cs_Book⟩,na_Book_layer_names⟩ nil_all),(cons_all ⟨CL_Book,rfl,⟨cg_Book,ch_Book,cp_Book,cs_Book⟩,na_Book_inner_names⟩ nil_all),(cons_all ⟨CL_Book,rfl,⟨cg_Book,ch_Book,cp_Book,cs_Book⟩,na_Book_rules⟩ nil_all),(cons_all ⟨CL_Book,rfl,⟨cg_Book,ch_Book,cp_Book,cs_Book⟩,na_Book_known⟩ nil_all),(cons_all ⟨CL_Book,rfl,⟨cg_Book,ch_Book,cp_Book,cs_Book⟩,na_Book_texts⟩ nil_all),PySem.W.mg_of X G0 n_NoOrder,(cons_all (exm_ref' xb_NoOrder xh_NoOrder xt_NoOrder su_NoOrder_NoOrder) nil_all),⟨CL_NoOrder,_,_,_,_,PySem.F.excBase_ValueError,rx_NoOrder,PySem.W.mg_of X G0 n_NoOrder,rk_NoOrder,rs_NoOrder,rt_NoOrder,rfl,rfl⟩⟩
 revert T
 generalize hG:(⟨K,w,fun c=>List.lookup c [("NoOrder",CL_NoOrder),("Book",CL_Book)],fun _=>none,fun _ _=>False,[],h,fun _=>none⟩:G3)=G
 intro T
 have GK:G.K=K:=by rw[←hG]
 have Gw:w=G.w:=by rw[←hG]
 have G_NoOrder:G.cls "NoOrder" = some CL_NoOrder:=by rw[←hG];rfl
 have G_Book:G.cls "Book" = some CL_Book:=by rw[←hG];rfl
 refine⟨G,PySem.W.fnOf "law" "law" (defArgs s_law) (defBody s_law) (defScope s_law) .none kV27 dc27 pm27 an27 cd27 ct27,GK,by rw[←hG],fun s v=>.of_eq rfl,fun base _ _=>?_⟩
 have F0:=fun_mk (st:=s_w_digits) l0 c0 k0
 have O0:=ok_w_digits (Pg:=l.prog) (base:=base) Gw T  F0
 have B0:=F0.binds (ps:=["_law_cell","_law_salt","_law_many"]) fun _ _ _ _ _ _ us hl=>match us,hl with | [_,_,_],_=>rfl
 have C_w_digits:Cal l.prog w K mg base G 1 "_law_digits" 3 mf_w_digits:=⟨_,_,_,PySem.W.mg_of X G0 a0,k0,B0,rfl,O0⟩
 have F1:=fun_mk (st:=s_w_cell_at) l1 c1 k1
 have O1:=ok_w_cell_at (Pg:=l.prog) (base:=base) Gw T  F1
 have B1:=F1.binds (ps:=["_law_script","_law_k"]) fun _ _ _ _ _ _ us hl=>match us,hl with | [_,_],_=>rfl
 have C_w_cell_at:Cal l.prog w K mg base G 1 "_law_cell_at" 2 mf_w_cell_at:=⟨_,_,_,PySem.W.mg_of X G0 a1,k1,B1,rfl,O1⟩
 have F2:=fun_mk (st:=s_w_spelled) l2 c2 k2
 have O2:=ok_w_spelled (Pg:=l.prog) (base:=base) Gw T  F2
 have B2:=F2.binds (ps:=["_law_draw","_law_many"]) fun _ _ _ _ _ _ us hl=>match us,hl with | [_,_],_=>rfl
 have C_w_spelled:Cal l.prog w K mg base G 1 "_law_spelled" 2 mf_w_spelled:=⟨_,_,_,PySem.W.mg_of X G0 a2,k2,B2,rfl,O2⟩
 have F3:=fun_mk (st:=s_w_ordered) l3 c3 k3
 have O3:=ok_w_ordered (Pg:=l.prog) (base:=base) Gw T  F3
 have B3:=F3.binds (ps:=["_law_classes","_law_bases"]) fun _ _ _ _ _ _ us hl=>match us,hl with | [_,_],_=>rfl
 have C_w_ordered:CalW l.prog w K mg base G 1 "_law_ordered" 2 mf_w_ordered:=⟨_,_,_,PySem.W.mg_of X G0 a3,k3,B3,rfl,O3⟩
 have F4:=fun_mk (st:=s_w_class_list) l4 c4 k4
 have O4:=ok_w_class_list (Pg:=l.prog) (base:=base) Gw T C_w_ordered F4
 have B4:=F4.binds (ps:=["_law_draws","_law_names"]) fun _ _ _ _ _ _ us hl=>match us,hl with | [_,_],_=>rfl
 have C_w_class_list:Cal l.prog w K mg base G 2 "_law_class_list" 2 mf_w_class_list:=⟨_,_,_,PySem.W.mg_of X G0 a4,k4,B4,rfl,O4⟩
 have F5:=fun_mk (st:=s_w_arranged) l5 c5 k5
 have O5:=ok_w_arranged (Pg:=l.prog) (base:=base) Gw T  F5
 have B5:=F5.binds (ps:=["_law_names"]) fun _ _ _ _ _ _ us hl=>match us,hl with | [_],_=>rfl
 have C_w_arranged:Cal l.prog w K mg base G 1 "_law_arranged" 1 mf_w_arranged:=⟨_,_,_,PySem.W.mg_of X G0 a5,k5,B5,rfl,O5⟩
 have F6:=fun_mk (st:=s_w_is_own) l6 c6 k6
 have O6:=ok_w_is_own (Pg:=l.prog) (base:=base) Gw T  F6
 have B6:=F6.binds (ps:=["_law_own","_law_names"]) fun _ _ _ _ _ _ us hl=>match us,hl with | [_,_],_=>rfl
 have C_w_is_own:Cal l.prog w K mg base G 1 "_law_is_own" 2 mf_w_is_own:=⟨_,_,_,PySem.W.mg_of X G0 a6,k6,B6,rfl,O6⟩
 have F7:=fun_mk (st:=s_w_every_kind) l7 c7 k7
 have O7:=ok_w_every_kind (Pg:=l.prog) (base:=base) Gw T C_w_arranged C_w_is_own C_w_ordered F7
 have B7:=F7.binds (ps:=["_law_spec"]) fun _ _ _ _ _ _ us hl=>match us,hl with | [_],_=>rfl
 have C_w_every_kind:Cal l.prog w K mg base G 2 "_law_every_kind" 1 mf_w_every_kind:=⟨_,_,_,PySem.W.mg_of X G0 a7,k7,B7,rfl,O7⟩
 have F8:=fun_mk (st:=s_is_word) l8 c8 k8
 have O8:=ok_is_word (Pg:=l.prog) (base:=base) Gw T  F8
 have B8:=F8.binds (ps:=["text"]) fun _ _ _ _ _ _ us hl=>match us,hl with | [_],_=>rfl
 have C_is_word:Cal l.prog w K mg base G 1 "is_word" 1 mf_is_word:=⟨_,_,_,PySem.W.mg_of X G0 a8,k8,B8,rfl,O8⟩
 have F9:=fun_mk (st:=s_good_names) l9 c9 k9
 have O9:=ok_good_names (Pg:=l.prog) (base:=base) Gw T C_is_word F9
 have B9:=F9.binds (ps:=["names","least","most"]) fun _ _ _ _ _ _ us hl=>match us,hl with | [_,_,_],_=>rfl
 have C_good_names:Cal l.prog w K mg base G 2 "good_names" 3 mf_good_names:=⟨_,_,_,PySem.W.mg_of X G0 a9,k9,B9,rfl,O9⟩
 have F10:=fun_mk (st:=s_are_chosen) l10 c10 k10
 have O10:=ok_are_chosen (Pg:=l.prog) (base:=base) Gw T  F10
 have B10:=F10.binds (ps:=["chosen","names"]) fun _ _ _ _ _ _ us hl=>match us,hl with | [_,_],_=>rfl
 have C_are_chosen:Cal l.prog w K mg base G 1 "are_chosen" 2 mf_are_chosen:=⟨_,_,_,PySem.W.mg_of X G0 a10,k10,B10,rfl,O10⟩
 have F11:=fun_mk (st:=s_good_classes) l11 c11 k11
 have O11:=ok_good_classes (Pg:=l.prog) (base:=base) Gw T C_good_names C_are_chosen F11
 have B11:=F11.binds (ps:=["classes"]) fun _ _ _ _ _ _ us hl=>match us,hl with | [_],_=>rfl
 have C_good_classes:Cal l.prog w K mg base G 3 "good_classes" 1 mf_good_classes:=⟨_,_,_,PySem.W.mg_of X G0 a11,k11,B11,rfl,O11⟩
 have F12:=fun_mk (st:=s_free_name) l12 c12 k12
 have O12:=ok_free_name (Pg:=l.prog) (base:=base) Gw T  F12
 have B12:=F12.binds (ps:=["orders"]) fun _ _ _ _ _ _ us hl=>match us,hl with | [_],_=>rfl
 have C_free_name:Cal l.prog w K mg base G 1 "free_name" 1 mf_free_name:=⟨_,_,_,PySem.W.mg_of X G0 a12,k12,B12,rfl,O12⟩
 have F13:=fun_mk (st:=s_merge_orders) l13 c13 k13
 have O13:=ok_merge_orders (Pg:=l.prog) (base:=base) Gw T C_free_name F13
 have B13:=F13.binds (ps:=["orders"]) fun _ _ _ _ _ _ us hl=>match us,hl with | [_],_=>rfl
 have C_merge_orders:Cal l.prog w K mg base G 2 "merge_orders" 1 mf_merge_orders:=⟨_,_,_,PySem.W.mg_of X G0 a13,k13,B13,rfl,O13⟩
 have F14:=fun_mk (st:=s_class_orders) l14 c14 k14
 have O14:=ok_class_orders (Pg:=l.prog) (base:=base) Gw T C_merge_orders F14
 have B14:=F14.binds (ps:=["classes"]) fun _ _ _ _ _ _ us hl=>match us,hl with | [_],_=>rfl
 have C_class_orders:Cal l.prog w K mg base G 3 "class_orders" 1 mf_class_orders:=⟨_,_,_,PySem.W.mg_of X G0 a14,k14,B14,rfl,O14⟩
 have F15:=fun_mk (st:=s_bad_part) l15 c15 k15
 have O15:=ok_bad_part (Pg:=l.prog) (base:=base) Gw T C_good_names C_are_chosen F15
 have B15:=F15.binds (ps:=["methods","layers","inner","running","stored"]) fun _ _ _ _ _ _ us hl=>match us,hl with | [_,_,_,_,_],_=>rfl
 have C_bad_part:Cal l.prog w K mg base G 3 "bad_part" 5 mf_bad_part:=⟨_,_,_,PySem.W.mg_of X G0 a15,k15,B15,rfl,O15⟩
 have F16:=fun_mk (st:=s_good_row) l16 c16 k16
 have O16:=ok_good_row (Pg:=l.prog) (base:=base) Gw T C_is_word F16
 have B16:=F16.binds (ps:=["row","layers","methods"]) fun _ _ _ _ _ _ us hl=>match us,hl with | [_,_,_],_=>rfl
 have C_good_row:Cal l.prog w K mg base G 2 "good_row" 3 mf_good_row:=⟨_,_,_,PySem.W.mg_of X G0 a16,k16,B16,rfl,O16⟩
 have F17:=fun_mk (st:=s_switches) l17 c17 k17
 have O17:=ok_switches (Pg:=l.prog) (base:=base) Gw T  F17
 have B17:=F17.binds (ps:=["row"]) fun _ _ _ _ _ _ us hl=>match us,hl with | [_],_=>rfl
 have C_switches:Cal l.prog w K mg base G 1 "switches" 1 mf_switches:=⟨_,_,_,PySem.W.mg_of X G0 a17,k17,B17,rfl,O17⟩
 have F18:=fun_mk (st:=s_well_nested) l18 c18 k18
 have O18:=ok_well_nested (Pg:=l.prog) (base:=base) Gw T C_switches F18
 have B18:=F18.binds (ps:=["rows"]) fun _ _ _ _ _ _ us hl=>match us,hl with | [_],_=>rfl
 have C_well_nested:Cal l.prog w K mg base G 2 "well_nested" 1 mf_well_nested:=⟨_,_,_,PySem.W.mg_of X G0 a18,k18,B18,rfl,O18⟩
 have F19:=fun_mk (st:=s_good_body) l19 c19 k19
 have O19:=ok_good_body (Pg:=l.prog) (base:=base) Gw T C_good_row C_well_nested F19
 have B19:=F19.binds (ps:=["rows","layers","methods"]) fun _ _ _ _ _ _ us hl=>match us,hl with | [_,_,_],_=>rfl
 have C_good_body:Cal l.prog w K mg base G 3 "good_body" 3 mf_good_body:=⟨_,_,_,PySem.W.mg_of X G0 a19,k19,B19,rfl,O19⟩
 have F20:=fun_mk (st:=s_good_bodies) l20 c20 k20
 have O20:=ok_good_bodies (Pg:=l.prog) (base:=base) Gw T C_good_body F20
 have B20:=F20.binds (ps:=["bodies","names","layers","methods"]) fun _ _ _ _ _ _ us hl=>match us,hl with | [_,_,_,_],_=>rfl
 have C_good_bodies:Cal l.prog w K mg base G 4 "good_bodies" 4 mf_good_bodies:=⟨_,_,_,PySem.W.mg_of X G0 a20,k20,B20,rfl,O20⟩
 have F21:FunD K "__init__" "Book.__init__" (defArgs s_Book_init) (defBody s_Book_init) (defScope s_Book_init) [] [("inner",V.ref kp21_inner),("running",V.str "keep"),("stored",V.str "maker")] f21 _:=⟨⟨_,_,_,_,_,_,_,_,_,_,rfl,l21,c21,.inl ⟨rfl,rfl⟩,.inr ⟨kD21,kk21,(cons_all ⟨_,kx21_inner,rfl⟩ (cons_all ⟨_,kx21_running,⟨_,rfl⟩⟩ (cons_all ⟨_,kx21_stored,⟨_,rfl⟩⟩ nil_all)))⟩⟩,k21⟩
 have O21:=ok_Book_init (Pg:=l.prog) (base:=base) Gw T C_good_classes C_class_orders C_bad_part C_good_bodies F21
 obtain⟨ds_Book_4,dv_Book_4,db_Book_4⟩:=F21.binds0 (ps:=["self","classes","methods","layers","bodies","inner","running","stored"]) 5 (by simp) rfl (fun _ _ _ _ _ _ us ks hl hk=>match us,hl,ks,hk with | [_,_,_,_,_],_,[_,_,_],_=>⟨_,_,_,_,_,_,rfl,rfl,⟨_,_,_,_,_,_,rfl,rfl,⟨_,_,_,_,_,_,rfl,rfl,rfl⟩⟩⟩)
 have N_Book_4:MkOk3 l.prog w K mg base G 5 "Book" "Book" 4 [.ctup [],.str "keep",.str "maker"] mf_Book_init:=⟨_,_,_,_,_,ds_Book_4,PySem.W.mg_of X G0 n_Book,G_Book,⟨cm_Book,in_Book,fn21,ck_Book⟩,db_Book_4,dv_Book_4,fun F io=>.cons (.ctup (.inr ⟨_,#[],_,by show G.K.lookup _=_;rw[GK];exact kl21_inner,rfl,rfl,Nat.zero_le _,.nil⟩) .nil) (.cons .str (.cons .str (.nil))),O21⟩
 have F22:=fun_mk (st:=s_arrangements) l22 c22 k22
 have O22:=ok_arrangements (Pg:=l.prog) (base:=base) Gw T  F22
 have B22:=F22.binds (ps:=["names"]) fun _ _ _ _ _ _ us hl=>match us,hl with | [_],_=>rfl
 have C_arrangements:CalG l.prog w K mg base G false 1 "arrangements" 1 yf_arrangements:=⟨_,_,_,PySem.W.mg_of X G0 a22,k22,B22,rfl,O22⟩
 have F23:=fun_mk (st:=s_Book_order) l23 c23 k23
 have O23:=ok_Book_order (Pg:=l.prog) (base:=base) Gw T C_are_chosen C_merge_orders F23
 have B23:=F23.binds (ps:=["self","bases"]) fun _ _ _ _ _ _ us hl=>match us,hl with | [_,_],_=>rfl
 have M_Book_Book_order:MthOk l.prog w K mg base G 3 "order" 1 "Book" mf_Book_order:=⟨_,_,_,_,G_Book,⟨cg_Book,ch_Book,cp_Book,cs_Book⟩,⟨mt_Book_Book_order,fn23,k23⟩,B23,O23⟩
 have F24:=fun_mk (st:=s_Book_has_order) l24 c24 k24
 have O24:=ok_Book_has_order (Pg:=l.prog) (base:=base) Gw T M_Book_Book_order F24
 have B24:=F24.binds (ps:=["self","bases"]) fun _ _ _ _ _ _ us hl=>match us,hl with | [_,_],_=>rfl
 have M_Book_Book_has_order:MthOk l.prog w K mg base G 4 "has_order" 1 "Book" mf_Book_has_order:=⟨_,_,_,_,G_Book,⟨cg_Book,ch_Book,cp_Book,cs_Book⟩,⟨mt_Book_Book_has_order,fn24,k24⟩,B24,O24⟩
 have F25:=fun_mk (st:=s_Book_can_own) l25 c25 k25
 have O25:=ok_Book_can_own (Pg:=l.prog) (base:=base) Gw T C_are_chosen F25
 have B25:=F25.binds (ps:=["self","own"]) fun _ _ _ _ _ _ us hl=>match us,hl with | [_,_],_=>rfl
 have M_Book_Book_can_own:MthOk l.prog w K mg base G 2 "can_own" 1 "Book" mf_Book_can_own:=⟨_,_,_,_,G_Book,⟨cg_Book,ch_Book,cp_Book,cs_Book⟩,⟨mt_Book_Book_can_own,fn25,k25⟩,B25,O25⟩
 have F26:=fun_mk (st:=s_Book_kinds) l26 c26 k26
 have O26:=ok_Book_kinds (Pg:=l.prog) (base:=base) Gw T C_arrangements M_Book_Book_has_order M_Book_Book_can_own F26
 have B26:=F26.binds (ps:=["self"]) fun _ _ _ _ _ _ us hl=>match us,hl with | [_],_=>rfl
 have GM_Book_kinds:MthG l.prog w K mg base G true 5 "kinds" "Book" yf_Book_kinds:=⟨_,_,_,_,G_Book,⟨cg_Book,ch_Book,cp_Book,cs_Book⟩,⟨mt_Book_Book_kinds,fn26,k26⟩,B26,rfl,O26⟩
 have F27:=fun_mk (st:=s_law) l27 c27 k27
 exact low0 (ok_law Gw T C_w_digits C_w_cell_at C_w_spelled C_w_class_list C_w_every_kind N_Book_4 GM_Book_kinds F27)
end My
open PySem PySem.W PyProof.Rows in
set_option maxRecDepth 100000 in
set_option maxHeartbeats 0 in
theorem PySem.Challenge.cw_switchedlayers_k07_kinds_holds : PySem.Challenge.rw_switchedlayers_k07_kinds.Holds := by
 w_on;o_law
 refine My.Top.top (by kernel_rfl) (by first | assumption | decide +kernel) ?hw ?hc
 case hw=>w_witness2
 k_fill
 refine M3.walk3 (l:=PySem.Challenge.rw_switchedlayers_k07_kinds) (n:=63) (k:=7) (x:="_law_script") (m:=My.mf_law) rfl (by decide) (by kernel_rfl) ⟨rfl,by decide,by decide⟩ (fun w h Y=>PySem.W.kIn_of Y) ?F My.law_true
 case F=>
  intro w mg fa h KX G hmg0
  have hmg:mg ("law" : PySem.Str)=some (.ref fa):=by
   have e:(HeadRun.topDef My.Top.R.prog My.Top.at_).name=("law" : PySem.Str):=by kernel_rfl
   rw[←e]
   exact hmg0
  refine' My.all_mk KX G hmg ?n_NoOrder ?n_Book ?cg_Book ?ch_Book ?cp_Book ?cs_Book ?cm_Book ?ck_Book ?na_Book_orders ?na_Book_class_pairs ?na_Book_method_names ?na_Book_layer_names ?na_Book_inner_names ?na_Book_rules ?na_Book_known ?na_Book_texts ?in_Book ?mt_Book_Book_order ?mt_Book_Book_has_order ?mt_Book_Book_can_own ?mt_Book_Book_kinds ?a0 ?l0 ?c0 ?k0 ?a1 ?l1 ?c1 ?k1 ?a2 ?l2 ?c2 ?k2 ?a3 ?l3 ?c3 ?k3 ?a4 ?l4 ?c4 ?k4 ?a5 ?l5 ?c5 ?k5 ?a6 ?l6 ?c6 ?k6 ?a7 ?l7 ?c7 ?k7 ?a8 ?l8 ?c8 ?k8 ?a9 ?l9 ?c9 ?k9 ?a10 ?l10 ?c10 ?k10 ?a11 ?l11 ?c11 ?k11 ?a12 ?l12 ?c12 ?k12 ?a13 ?l13 ?c13 ?k13 ?a14 ?l14 ?c14 ?k14 ?a15 ?l15 ?c15 ?k15 ?a16 ?l16 ?c16 ?k16 ?a17 ?l17 ?c17 ?k17 ?a18 ?l18 ?c18 ?k18 ?a19 ?l19 ?c19 ?k19 ?a20 ?l20 ?c20 ?k20 ?l21 ?c21 ?k21 ?fn21 ?kk21 ?kx21_inner ?kl21_inner ?kx21_running ?kx21_stored ?a22 ?l22 ?c22 ?k22 ?l23 ?c23 ?k23 ?fn23 ?l24 ?c24 ?k24 ?fn24 ?l25 ?c25 ?k25 ?fn25 ?l26 ?c26 ?k26 ?fn26 ?a27 ?l27 ?c27 ?k27 ?z_all ?z_any ?z_dict ?z_int ?z_isinstance ?z_len ?z_list ?z_range ?z_set ?z_str ?z_sum ?z_tuple ?v_BARE_ROWS ?w_BARE_ROWS ?v_LETTERS ?v_MOST_BLOCKS ?v_MOST_ROWS ?xb_NoOrder ?xh_NoOrder ?xt_NoOrder ?su_NoOrder_NoOrder ?rx_NoOrder ?rk_NoOrder ?rs_NoOrder ?rt_NoOrder
  (case n_NoOrder=>k_is)
  (case n_Book=>k_is)
  (case cg_Book=>k_is)
  (case ch_Book=>k_is)
  (case cp_Book=>k_is)
  (case cs_Book=>k_is)
  (case cm_Book=>k_is)
  (case ck_Book=>k_is)
  (case na_Book_orders=>k_is)
  (case na_Book_class_pairs=>k_is)
  (case na_Book_method_names=>k_is)
  (case na_Book_layer_names=>k_is)
  (case na_Book_inner_names=>k_is)
  (case na_Book_rules=>k_is)
  (case na_Book_known=>k_is)
  (case na_Book_texts=>k_is)
  (case in_Book=>k_is)
  (case mt_Book_Book_order=>k_is)
  (case mt_Book_Book_has_order=>k_is)
  (case mt_Book_Book_can_own=>k_is)
  (case mt_Book_Book_kinds=>k_is)
  (case a0=>k_is)
  (case l0=>k_is)
  (case c0=>k_is)
  (case k0=>k_is)
  (case a1=>k_is)
  (case l1=>k_is)
  (case c1=>k_is)
  (case k1=>k_is)
  (case a2=>k_is)
  (case l2=>k_is)
  (case c2=>k_is)
  (case k2=>k_is)
  (case a3=>k_is)
  (case l3=>k_is)
  (case c3=>k_is)
  (case k3=>k_is)
  (case a4=>k_is)
  (case l4=>k_is)
  (case c4=>k_is)
  (case k4=>k_is)
  (case a5=>k_is)
  (case l5=>k_is)
  (case c5=>k_is)
  (case k5=>k_is)
  (case a6=>k_is)
  (case l6=>k_is)
  (case c6=>k_is)
  (case k6=>k_is)
  (case a7=>k_is)
  (case l7=>k_is)
  (case c7=>k_is)
  (case k7=>k_is)
  (case a8=>k_is)
  (case l8=>k_is)
  (case c8=>k_is)
  (case k8=>k_is)
  (case a9=>k_is)
  (case l9=>k_is)
  (case c9=>k_is)
  (case k9=>k_is)
  (case a10=>k_is)
  (case l10=>k_is)
  (case c10=>k_is)
  (case k10=>k_is)
  (case a11=>k_is)
  (case l11=>k_is)
  (case c11=>k_is)
  (case k11=>k_is)
  (case a12=>k_is)
  (case l12=>k_is)
  (case c12=>k_is)
  (case k12=>k_is)
  (case a13=>k_is)
  (case l13=>k_is)
  (case c13=>k_is)
  (case k13=>k_is)
  (case a14=>k_is)
  (case l14=>k_is)
  (case c14=>k_is)
  (case k14=>k_is)
  (case a15=>k_is)
  (case l15=>k_is)
  (case c15=>k_is)
  (case k15=>k_is)
  (case a16=>k_is)
  (case l16=>k_is)
  (case c16=>k_is)
  (case k16=>k_is)
  (case a17=>k_is)
  (case l17=>k_is)
  (case c17=>k_is)
  (case k17=>k_is)
  (case a18=>k_is)
  (case l18=>k_is)
  (case c18=>k_is)
  (case k18=>k_is)
  (case a19=>k_is)
  (case l19=>k_is)
  (case c19=>k_is)
  (case k19=>k_is)
  (case a20=>k_is)
  (case l20=>k_is)
  (case c20=>k_is)
  (case k20=>k_is)
  (case l21=>k_is)
  (case c21=>k_is)
  (case k21=>k_is)
  (case fn21=>k_is)
  (case kk21=>rfl)
  (case kx21_inner=>k_is)
  (case kl21_inner=>k_is)
  (case kx21_running=>k_is)
  (case kx21_stored=>k_is)
  (case a22=>k_is)
  (case l22=>k_is)
  (case c22=>k_is)
  (case k22=>k_is)
  (case l23=>k_is)
  (case c23=>k_is)
  (case k23=>k_is)
  (case fn23=>k_is)
  (case l24=>k_is)
  (case c24=>k_is)
  (case k24=>k_is)
  (case fn24=>k_is)
  (case l25=>k_is)
  (case c25=>k_is)
  (case k25=>k_is)
  (case fn25=>k_is)
  (case l26=>k_is)
  (case c26=>k_is)
  (case k26=>k_is)
  (case fn26=>k_is)
  (case a27=>k_is)
  (case l27=>k_is)
  (case c27=>k_is)
  (case k27=>k_is)
  (case z_all=>k_is)
  (case z_any=>k_is)
  (case z_dict=>k_is)
  (case z_int=>k_is)
  (case z_isinstance=>k_is)
  (case z_len=>k_is)
  (case z_list=>k_is)
  (case z_range=>k_is)
  (case z_set=>k_is)
  (case z_str=>k_is)
  (case z_sum=>k_is)
  (case z_tuple=>k_is)
  (case v_BARE_ROWS=>k_is)
  (case w_BARE_ROWS=>k_is)
  (case v_LETTERS=>k_is)
  (case v_MOST_BLOCKS=>k_is)
  (case v_MOST_ROWS=>k_is)
  (case xb_NoOrder=>k_is)
  (case xh_NoOrder=>k_is)
  (case xt_NoOrder=>k_is)
  (case su_NoOrder_NoOrder=>k_is)
  (case rx_NoOrder=>k_exc)
  (case rk_NoOrder=>k_is)
  (case rs_NoOrder=>k_is)
  (case rt_NoOrder=>k_is)
