import PyProof.Rows.All
import Wide.All
import OpenK.AllK
import Wide.FinOn
import KE.HD2
import KE.OsRunLaw
import PySem.Challenge.RW_switchedlayers_k12_parts_of_a_book
import HandS.ForMost
import HandS.TupAny
import HandS.List
import HandS.Exc
import HandS.ExcOwn
import KE.KeyNested
import KE.KDictKeyed
import HandS.Nested
import HandS.Wide
import HandS.Flow
import HandS.Conv
import HandS.Deep
import HandS.IsInst
import HandS.CallSlots
import HandS.Base
import HandS.Comp
import HandS.Iter
import HandS.Call
import HandS.Hot
import HandS.HotCalls
import PyProof.Rows.TupIter
import HandS.ExcCtx
import HandS.TryOnly
import HandS.TryMany
import HandS.More
import HandS.Property
import HandS.WordsExc
import HandS.Star
import PyProof.WalkInts
import HandS.ExcInit
import HandS.ExcInitHot
import HandS.NestedHot
import KE.KIntText
import HandS.Text
import HandS.Dict
import HandS.Small
import KE.DataFind
import HandS.ClsMeth
import HandS.MakeKwOnly
import HandS.ExcIs
import HandS.ExcField
import KE.KExcIs
import HandS.DictComp
import HandS.Defaults
import PyProof.SumAny
import HandS.Strs
import HandS.Ends
import KE.KDictDisplayH
import PyProof.DictTable
import HandS.Style
import HandS.RaiseFrom
import HandS.SuiteRaise
import KE.KSuper
import KE.KExcSuper
import HandS.TupMul
import KE.KUnpackStar
import HandS.MethStar
import HandS.Finally
import KE.KWithOwn
import HandS.EndTab
import KE.KTryMore
import HandS.DictEq
import HandS.MakeKw
import PyProof.StrLawsTight
import KE.KExcLine
import KE.KNestM
set_option Elab.async false
set_option linter.all false
set_option maxRecDepth 100000
namespace M3
open PySem PySem.W PySem.Calls PyProof.Rows
noncomputable abbrev endQ (M:Nat) (p:Program) (w:World) (os:OsState):Option SharedT:=HeadRun.endF (HeadRun.stepQ (HeadRun.denQ HeadRun.tabQ) p w) M p w os
def Tag (K:Params→Frag) (as:List Addr):Prop:=True
theorem cap {p:Prop} {K:Params→Frag} {as:List Addr} {ek:∀P,as=(K P).map (·.1)} {H:Hook} (z:Tag K as) (h:p) (e:H=kHook K as ek):p:=h
structure Wr (p:Prop) where
 K:Params→Frag
 as:List Addr
 ok:Tag K as→p→p
theorem head3 {r:OpenRow} {q:Program} {K:Params→Frag} {as:List Addr} {M:Nat} {loose:List PySem.Str} {d:DefRec} {kwd:List (PySem.Str×PySem.Expr)} (ek:∀P,as=(K P).map (·.1))
  (e:opening r.prog=plainProg r.prog.main.scope.names) (f:∀s,fenceModules? r.prog s=some s)
  (run1:∀(w:World) (os:OsState),(endQ M r.prog w os).map (fun s=>HeadRun.looksF r.prog (boot_heap w.params) s.abs)=some true)
  (run2:∀(w:World) (os:OsState),(endQ M r.prog w os).map (fun s=>HeadRun.seenQ q loose (importedModules r.prog.main.body) (fun s=>xlAt q [] s && recOk r.toRowW.records s) s.abs)=some (openGood q loose))
  (run3:∀(w:World) (os:OsState),(endQ M r.prog w os).map (fun s=>as.map (HeadRun.getT s))=some ((K w.params).map fun p=>some p.2))
  (isDef:defOf q r.name=some (d,kwd))
  (inText:r.prog.theDef r.name=some (d.params,d.body,d.scope))
  (named:kwWritten? d.params.kwonlyargs d.params.kw_defaults=some kwd)
  (noWrites:(!r.writes || r.records.isEmpty)=true)
  (said:r.wellSaid=true)
  (chained:(chainsOk q && opensWell r.prog && (frees r.toRowW && r.within.isEmpty))=true)
  (isBare:r.prog.bare) (kept:r.toRowW.promised)
  (call:WalkO q loose (XL q []) (kHook K as ek).says r.toRowW d kwd fun f vs=>PySem.call f vs):r.Holds:=by
 refine HeadRun.head_any (H:=kHook K as ek) (ob:=fun s=>as.map (HeadRun.getT s)) (M:=M) (fun s=>List.map_congr_left fun a _=>HeadRun.getT_eq s a) e f (fun w os=>?_) isDef inText named noWrites said chained isBare kept call
 obtain⟨s,hs,h1⟩:=Option.map_eq_some_iff.mp (run1 w os)
 obtain⟨s2,hs2,h2⟩:=Option.map_eq_some_iff.mp (run2 w os)
 obtain⟨s3,hs3,h3⟩:=Option.map_eq_some_iff.mp (run3 w os)
 obtain rfl:s=s2:=Option.some.inj (hs.symm.trans hs2)
 obtain rfl:s=s3:=Option.some.inj (hs.symm.trans hs3)
 show (endQ M r.prog w os).map _=_
 rw[hs]
 show some (_,_,_)=some (_,_,_)
 exact congrArg some (Prod.ext h1 (Prod.ext h2 h3))
end M3
set_option maxHeartbeats 0
namespace My.Top
open PySem PySem.W PySem.Calls PyProof.Rows
abbrev R:OpenRow:=OpenLaw.row PySem.Challenge.rw_switchedlayers_k12_parts_of_a_book
section
local macro_rules | `(tactic| o_headL $H) => `(tactic| exact M3.cap (H := $H) (by assumption) (by assumption) rfl)
noncomputable def wr:M3.Wr R.Holds:=by
 refine' M3.Wr.mk _ _ (fun z h=>_)
 rotate_left 2
 k_headL
end
noncomputable def as:List Addr:=wr.as
theorem ek (P:Params):as=(wr.heap_1 P).map (·.1):=by kernel_rfl
def loose0:List PySem.Str:=["_wall","LayerError","BadBook","NoOrder","free_name","merge_orders","LETTERS","BARE_ROWS","OWN_ROWS","MOST_ROWS","MOST_BLOCKS","is_word","good_names","are_chosen","good_classes","class_orders","bad_part","switches","well_nested","good_row","good_body","good_bodies","Book","_law_cell_at","_law_digits","_law_spelled","_law_ordered","_law_class_list","_law_parts"]
def loose:List PySem.Str:=loose0
abbrev at_:Nat:=33
noncomputable abbrev q:Program:=view R.prog [33]
theorem run1 (w:World) (os:OsState):(M3.endQ 30000 R.prog w os).map (fun s=>HeadRun.looksF R.prog (boot_heap w.params) s.abs)=some true:=by kernel_rfl
theorem run2 (w:World) (os:OsState):(M3.endQ 30000 R.prog w os).map (fun s=>HeadRun.seenQ q loose (importedModules R.prog.main.body) (fun s=>xlAt q [] s && recOk R.toRowW.records s) s.abs)=some (openGood q loose):=by kernel_rfl
theorem run3 (w:World) (os:OsState):(M3.endQ 30000 R.prog w os).map (fun s=>as.map (HeadRun.getT s))=some ((wr.heap_1 w.params).map fun p=>some p.2):=by kernel_rfl
theorem top (hk:kwWritten? (HeadRun.topDef R.prog 33).params.kwonlyargs (HeadRun.topDef R.prog 33).params.kw_defaults=some []) (k1:R.wellSaid=true) (hw:R.toRowW.promised)
  (call:WalkO q loose (XL q []) (kHook wr.heap_1 as ek).says R.toRowW (HeadRun.topDef R.prog 33) [] fun f vs=>PySem.call f vs):R.Holds:=
 M3.head3 (d:=HeadRun.topDef R.prog 33) ek (by kernel_rfl) (fun s=>by kernel_rfl) run1 run2 run3 (by kernel_rfl) (by kernel_rfl) hk (by rfl) k1 (by decide +kernel) ⟨rfl,rfl,rfl,rfl,rfl,by decide +kernel⟩ hw call
end My.Top
namespace M3
open PySem PySem.Spec PyProof.Rows L2
def NewT (xs:List V) (H:Hp) (Q:VK):Prop:=∀(p:Addr) (o:Obj),H p=none→o.dict=none→Q (.ref p) (upd H p (.frz o (.tup xs)))
section
variable {X:Cx} {pos:Pos} {es:List Expr} {t:TA}
theorem laidT {pins:List (Addr×Obj)} {σ:L2.St} {H:Hp} {s:Shared} {h':Heap} {k:Nat} {Q:VK} {xs:List V} {us:List Value} {n:Nat} (I:Inv X pins σ H { s with heap:=h' }) (r:Vals xs us) (z:xs.length≤sizeLine) (q:NewT xs H Q) :
  EP X pins σ Q (.ref h'.objs.size) { s with heap:=h'.push { cls:=.type "tuple",data:=.seq us.toArray n },toks:=k }:=by
 have hf:H h'.objs.size=none:=I.hok.fresh (Nat.le_refl _)
 refine⟨.ref h'.objs.size,_,I.laid (t':=k) (o:=.frz { cls:=.type "tuple",data:=.seq us.toArray n } (.tup xs)) (fun b u e=>Heap.get?_push_of_some _ e) (Nat.le_refl _) ?_,rfl,q _ _ hf rfl⟩
 exact⟨Heap.get?_push_size _ rfl,z,us,r,⟨_,Heap.get?_push_size _ rfl,rfl,_,rfl⟩⟩
theorem pe_tupZ {x1} (h:PA X es t):PE X (.Tuple es x1 pos) (fun σ H Q=>t σ H fun xs H1=>xs.length≤sizeLine∧NewT xs H1 Q):=
 ⟨fun pins now σ H Q inv wish=>wpAny_Tuple_spliced <| thn (h.run pos pins now σ H _ inv wish) fun _ later ⟨_,_,J,r,z,q⟩=>⟨r.length▸z,laidT (s:=later) J r z q⟩⟩
def rCatZ (K:PySem.W.Frag):R2:=fun x y H Q=>∃a b xs ys,x=.ref a∧y=.ref b∧SqT K H a xs∧SqT K H b ys∧xs.length+ys.length≤sizeLine∧
 (xs=[]→Q (.ref b) H)∧(xs≠[]→ys=[]→Q (.ref a) H)∧(xs≠[]→ys≠[]→NewT (xs++ys) H Q)
theorem op_catZ:OpR X (binaryOp .Add) (rCatZ X.K):=by
 rintro pins now σ H _ _ v u Q inv rx ry ⟨a,b,xs,ys,rfl,rfl,ta,tb,z,left,keep,new⟩
 obtain rfl:v=.ref a:=rx
 obtain rfl:u=.ref b:=ry
 obtain⟨as,va,pa,-⟩:=inv.tuple ta
 obtain⟨bs,vb,pb,-⟩:=inv.tuple tb
 rcases eq_or_ne xs [] with e | e
 ·subst e
  cases va
  exact cat_tup0 pa pb ⟨V.ref b,H,inv,rfl,left rfl⟩
 ·have room:as.length+bs.length≤sizeLine:=va.length▸vb.length▸z
  exact HT.cat_tup pa pb (mt va.nil_iff.mp e) (fun q=>⟨V.ref a,H,inv,rfl,keep e (vb.nil_iff.mp q)⟩) (fun q=>laidT (s:=now) inv (va.append vb) (by simpa using z) (new e (mt vb.nil_iff.mpr q))) room
where
 eq_or_ne (l m:List V):l=m∨l≠m:=Classical.em _
def rSlZ (K:PySem.W.Frag):V→Option Int→Option Int→Hp→VK→Prop:=fun x lo hi H Q=>∃a xs,x=.ref a∧SqT K H a xs∧
 (HT.sIx xs.length 0 lo=0∧HT.sIx xs.length xs.length hi=xs.length→Q (.ref a) H)∧(¬(HT.sIx xs.length 0 lo=0∧HT.sIx xs.length xs.length hi=xs.length)→NewT (cutV xs lo hi) H Q)
theorem sl_tupZ:SlR X (rSlZ X.K):=by
 rintro pins now σ H _ v vl vu lo hi sl Q inv rx cut plo phi ⟨a,xs,rfl,at_,whole,part⟩
 obtain rfl:v=.ref a:=rx
 obtain⟨its,vals,tup,z⟩:=inv.tuple at_
 have same:its.toArray.size=xs.length:=(List.size_toArray ..).trans vals.length.symm
 refine⟨"tuple",_,PyProof.Rows.slot_tuple_getitem.lookup,tup.typeIs,?_⟩
 rcases Classical.em (HT.sIx xs.length 0 lo=0∧HT.sIx xs.length xs.length hi=xs.length) with all | less
 ·exact getItem_tuple_whole tup cut plo phi (same.symm▸all) ⟨V.ref a,H,inv,rfl,whole all⟩
 ·refine HT.getItem_tuple_cut tup cut plo phi (same.symm▸less) ?_ (same.symm▸z)
  rw[same]
  exact laidT (s:=now) inv ((vals.drop _).take _) (Nat.le_trans (cutV_length ..) z) (part less)
theorem call_tupleZ:CallR X (.type "tuple") (fun xs H Q=>∃p ys,xs=[.ref p]∧((SqL X.K H p ys∧NewT ys H Q)∨(SqT X.K H p ys∧Q (.ref p) H))):=by
 rintro pins now σ H _ us Q inv vals ⟨p,ys,rfl,h⟩
 obtain rfl:=Vals.ref1 vals
 cases h with
 | inl h=>
  obtain⟨its,w,lst,z⟩:=inv.list h.1
  have len:=w.length
  have room:=line63
  exact call_tuple_list lst.isList (fun later kept=>laidT (s:=now) (inv.kept (t':=now.toks) kept) w z h.2) (by simp only[List.size_toArray];omega)
 | inr h=>
  obtain⟨its,w,tup,z⟩:=inv.tuple h.1
  exact call_tuple_same tup ⟨V.ref p,H,inv,rfl,h.2⟩
end
def FTup (F:Hp) (p:Addr) (vs:List V):Prop:=∃o,F p=some (.frz o (.tup vs))∧o.dict=none
theorem FTup.sq {K:PySem.W.Frag} {F:Hp} {p:Addr} {vs:List V} (h:FTup F p vs):SqT K F p vs:=by obtain⟨o,e,_⟩:=h;exact .inl (.inr ⟨o,e⟩)
theorem FTup.mono {F F':Hp} {p:Addr} {vs:List V} (s:Same F F') (h:FTup F p vs):FTup F' p vs:=by obtain⟨o,e,d⟩:=h;exact⟨o,s _ _ e,d⟩
end M3
namespace M3
open PySem PySem.Spec PyProof.Rows L2
inductive D where
 | non | bl (b:Bool) | int (i:Int) | str (x:Str) | ty (n:String)
 | tup (xs:List D) | ctup (xs:List D) | lst (xs:List D) | ro (xs:List D) | dict (ks:List Key) (vs:List D) | dd (ks:List D) (vs:List D) | ref (k:Nat) | fn (c:String) (ks:List Nat)
inductive W where
 | val (d:D) | bor (xs:List D) | bod (ks:List Key) (vs:List D) | bdd (ks:List D) (vs:List D) | exn (c:String) (x:D) | len (xs:List D)
def W.own:W→Bool
 | .bor _=>true
 | .bod _ _=>true
 | .bdd _ _=>true
 | _=>false
inductive MO where
 | lst (xs:List D) | dic (ks:List Key) (vs:List D) | ddi (ks:List D) (vs:List D)
 | ins (c:String) (fs:List (Str×D))
 | cell (d:D)
 | kc (d:D) | slp (i:Nat) | dead
 | rdd (ks:List D) (vs:List D)
def MO.tr:MO→Bool
 | .kc _=>false
 | .slp _=>false
 | .dead=>false
 | .rdd _ _=>false
 | _=>true
abbrev Store:=List MO
inductive Res (α:Type) where
 | ok (a:α) (st:Store)
 | err (c:String) (x:D) (st:Store)
 | bad
abbrev M (α:Type):=Store→Res α
def M.pure {α:Type} (a:α):M α:=fun st=>.ok a st
def M.bind {α β:Type} (m:M α) (f:α→M β):M β:=fun st=>match m st with
 | .ok a st'=>f a st'
 | .err c x st'=>.err c x st'
 | .bad=>.bad
def M.bad {α:Type}:M α:=fun _=>.bad
def M.quiet {α:Type} (m:M α):M α:=fun st=>match m st with
 | .ok a st'=>.ok a st'
 | _=>.bad
def M.of {α:Type}:Option α→M α
 | some a=>M.pure a
 | none=>M.bad
def M.chk (c:Prop) [Decidable c]:M Unit:=fun st=>if c then .ok () st else .bad
abbrev Sl3:=List (Option W)
mutual
def D.nk:D→Option NestedKey
 | .non=>some .none
 | .bl b=>some (.num (if b then 1 else 0))
 | .int i=>some (.num i)
 | .str x=>some (.text x)
 | .tup xs=>(D.nks xs).map .tup
 | _=>none
def D.nks:List D→Option (List NestedKey)
 | []=>some []
 | x :: xs=>match D.nk x,D.nks xs with
  | some k,some ks=>some (k :: ks)
  | _,_=>none
end
def D.tk:D→Option NestedKey
 | .tup xs=>match D.nks xs with
  | some ks=>if (NestedKey.tup ks).depth≤8 then some (.tup ks) else none
  | none=>none
 | _=>none
abbrev DkX:=List (NestedKey×Addr×Value)
def DkO (w:World) (p:Addr) (xs:DkX):HO:=.ext fun h=>(p == sysModules)=false∧(xs.map (·.1)).Nodup∧xs.length≤sizeLine∧∃o es ep,h.get? p=some o∧o.ExactDict∧o.data=.dict es ep∧es.toList=xs.map fun x=>⟨x.1.hash w,.ref x.2.1,x.2.2⟩
structure FV where
 ob:Addr→HO
 c:Addr
 qual:Str
 cl:List (Str×Addr)
structure KW where
 K:PySem.W.Frag
 w:World
 nf:String→FV→Prop
def CellO (a:Addr) (v:V):HO:=.ext fun h=>∃u,RelV v u∧h.IsCell a (some u)
mutual
inductive Rep (K:KW) (F:Hp) (io:Nat→Option Addr):D→V→Prop where
 | non:Rep K F io .non .non
 | bl {b}:Rep K F io (.bl b) (.bl b)
 | int {i}:Rep K F io (.int i) (.int i)
 | str {x}:Rep K F io (.str x) (.str x)
 | ty {n}:Rep K F io (.ty n) (.ty n)
 | tup {xs vs p}:FTup F p vs→RepL K F io xs vs→Rep K F io (.tup xs) (.ref p)
 | ctup {xs vs p}:SqT K.K F p vs→RepL K F io xs vs→Rep K F io (.ctup xs) (.ref p)
 | lst {xs vs p}:F p=some (.lst vs)→RepL K F io xs vs→Rep K F io (.lst xs) (.ref p)
 | ro {xs vs p}:SqL K.K F p vs→RepL K F io xs vs→Rep K F io (.ro xs) (.ref p)
 | dict {ks us p od} {kvs:List (Key×V)}:F p=some (.frz od (.dK kvs))→kvs.map (·.1)=ks→RepL K F io us (kvs.map (·.2))→Rep K F io (.dict ks us) (.ref p)
 | dd {ks us p od} {xs:DkX} {vs:List V}:F p=some (.frz od (DkO K.w p xs))→RepL K F io ks (xs.map fun x=>.ref x.2.1)→ks.map D.tk=xs.map (fun x=>some x.1)→Vals vs (xs.map (·.2.2))→RepL K F io us vs→Rep K F io (.dd ks us) (.ref p)
 | ref {k a}:io k=some a→Rep K F io (.ref k) (.ref a)
 | fn {c ks p} {Fn:FV}:F p=some (Fn.ob p)→K.nf c Fn→F Fn.c=some (LamX.CodeO Fn.c Fn.qual)→ks.map io=Fn.cl.map (fun y=>some y.2)→(Fn.cl.map (·.2)).Nodup→Rep K F io (.fn c ks) (.ref p)
inductive RepL (K:KW) (F:Hp) (io:Nat→Option Addr):List D→List V→Prop where
 | nil:RepL K F io [] []
 | cons {x xs v vs}:Rep K F io x v→RepL K F io xs vs→RepL K F io (x :: xs) (v :: vs)
end
abbrev Io:=Nat→Option Addr
def IoLe (io io':Io):Prop:=∀k a,io k=some a→io' k=some a
theorem IoLe.refl (io:Io):IoLe io io:=fun _ _ h=>h
theorem IoLe.trans {a b c:Io} (h:IoLe a b) (h':IoLe b c):IoLe a c:=fun k x e=>h' k x (h k x e)
theorem szL {n:Nat} (h:n≤1000000):n≤sizeLine:=Nat.le_trans h (by rw[sizeLine_eq];decide)
theorem szl {n:Nat} (h:n<1000000):n<sizeLine:=Nat.lt_of_lt_of_le h (by rw[sizeLine_eq];decide)
theorem same_sqT {K:PySem.W.Frag} {F F':Hp} {p:Addr} {vs:List V} (h:Same F F') (s:SqT K F p vs):SqT K F' p vs:=by
 rcases s with (h1 | ⟨o,h1⟩) | h1
 ·exact .inl (.inl (h _ _ h1))
 ·exact .inl (.inr ⟨o,h _ _ h1⟩)
 ·exact .inr h1
theorem same_sqL {K:PySem.W.Frag} {F F':Hp} {p:Addr} {vs:List V} (h:Same F F') (s:SqL K F p vs):SqL K F' p vs:=h.seq s
theorem io_map {io io':Io} (hi:IoLe io io'):∀{ks:List Nat} {cl:List (Str×Addr)},ks.map io=cl.map (fun y=>some y.2)→ks.map io'=cl.map (fun y=>some y.2)
 | [],[],_=>rfl
 | [],_ :: _,h=>by cases h
 | _ :: _,[],h=>by cases h
 | k :: ks,y :: cl,h=>by
  rw[List.map_cons,List.map_cons,List.cons.injEq] at h⊢
  exact⟨hi _ _ h.1,io_map hi h.2⟩
section
variable {K:KW} {F F':Hp} {io io':Io}
mutual
theorem Rep.mono (hF:Same F F') (hi:IoLe io io'):∀{d:D} {v:V},Rep K F io d v→Rep K F' io' d v
 | _,_,.non=>.non
 | _,_,.bl=>.bl
 | _,_,.int=>.int
 | _,_,.str=>.str
 | _,_,.ty=>.ty
 | _,_,.tup s r=>.tup (FTup.mono hF s) (RepL.mono hF hi r)
 | _,_,.ctup s r=>.ctup (same_sqT hF s) (RepL.mono hF hi r)
 | _,_,.dict s e r=>.dict (hF _ _ s) e (RepL.mono hF hi r)
 | _,_,.dd s k e v r=>.dd (hF _ _ s) (RepL.mono hF hi k) e v (RepL.mono hF hi r)
 | _,_,.lst s r=>.lst (hF _ _ s) (RepL.mono hF hi r)
 | _,_,.ro s r=>.ro (same_sqL hF s) (RepL.mono hF hi r)
 | _,_,.ref e=>.ref (hi _ _ e)
 | _,_,.fn e n q l d=>.fn (hF _ _ e) n (hF _ _ q) (io_map hi l) d
theorem RepL.mono (hF:Same F F') (hi:IoLe io io'):∀{d:List D} {v:List V},RepL K F io d v→RepL K F' io' d v
 | _,_,.nil=>.nil
 | _,_,.cons r t=>.cons (Rep.mono hF hi r) (RepL.mono hF hi t)
end
theorem RepL.length:∀{xs:List D} {vs:List V},RepL K F io xs vs→xs.length=vs.length
 | _,_,.nil=>rfl
 | _,_,.cons _ t=>congrArg Nat.succ (RepL.length t)
theorem RepL.append:∀{xs ys:List D} {vs us:List V},RepL K F io xs vs→RepL K F io ys us→RepL K F io (xs++ys) (vs++us)
 | _,_,_,_,.nil,s=>s
 | _,_,_,_,.cons r t,s=>.cons r (RepL.append t s)
theorem RepL.get:∀{xs:List D} {vs:List V} {i:Nat} {d:D},RepL K F io xs vs→xs[i]?=some d→∃v,vs[i]?=some v∧Rep K F io d v
 | _,_,_,_,.nil,e=>by simp at e
 | _,_,0,_,.cons r _,e=>by simp at e;subst e;exact⟨_,rfl,r⟩
 | _,_,i+1,_,.cons _ t,e=>by
  obtain⟨v,h1,h2⟩:=RepL.get (i:=i) t (by simpa using e)
  exact⟨v,by simpa using h1,h2⟩
theorem RepL.get':∀{xs:List D} {vs:List V} {i:Nat} {v:V},RepL K F io xs vs→vs[i]?=some v→∃d,xs[i]?=some d∧Rep K F io d v
 | _,_,_,_,.nil,e=>by simp at e
 | _,_,0,_,.cons r _,e=>by simp at e;subst e;exact⟨_,rfl,r⟩
 | _,_,i+1,_,.cons _ t,e=>by
  obtain⟨v,h1,h2⟩:=RepL.get' (i:=i) t (by simpa using e)
  exact⟨v,by simpa using h1,h2⟩
theorem RepL.take:∀{xs:List D} {vs:List V} (n:Nat),RepL K F io xs vs→RepL K F io (xs.take n) (vs.take n)
 | _,_,0,_=>.nil
 | _,_,_+1,.nil=>.nil
 | _,_,n+1,.cons r t=>.cons r (RepL.take n t)
theorem RepL.drop:∀{xs:List D} {vs:List V} (n:Nat),RepL K F io xs vs→RepL K F io (xs.drop n) (vs.drop n)
 | _,_,0,r=>r
 | _,_,_+1,.nil=>.nil
 | _,_,n+1,.cons _ t=>RepL.drop n t
theorem RepL.set {d:D} {v:V} (r:Rep K F io d v):∀{xs:List D} {vs:List V} (i:Nat),RepL K F io xs vs→RepL K F io (xs.set i d) (vs.set i v)
 | _,_,_,.nil=>.nil
 | _,_,0,.cons _ t=>.cons r t
 | _,_,i+1,.cons q t=>.cons q (RepL.set r i t)
theorem RepL.reverse:∀{xs:List D} {vs:List V},RepL K F io xs vs→RepL K F io xs.reverse vs.reverse
 | _,_,.nil=>.nil
 | _,_,.cons r t=>by
  rw[List.reverse_cons,List.reverse_cons]
  exact(RepL.reverse t).append (.cons r .nil)
end
structure G3 where
 K:PySem.W.Frag
 w:World
 cls:String→Option Addr
 fld:String→Option Str
 nf:String→FV→Prop
 tabs:List NdefX.NTab
 base:Heap
 own:Nat→Option Addr
abbrev G3.R (G:G3):KW:=⟨G.K,G.w,G.nf⟩
structure S3 where
 io:Io
 F:Hp
 H:Hp
structure Le (B:Addr→Prop) (s s':S3):Prop where
 io:IoLe s.io s'.io
 fr:Same s.F s'.F
 hid:∀a,B a→s'.H a=s.H a
theorem Le.refl {B:Addr→Prop} (s:S3):Le B s s:=⟨IoLe.refl _,Same.refl _,fun _ _=>rfl⟩
theorem Le.trans {B:Addr→Prop} {a b c:S3} (x:Le B a b) (y:Le B b c):Le B a c:=⟨x.io.trans y.io,x.fr.trans y.fr,fun p h=>(y.hid p h).trans (x.hid p h)⟩
theorem Le.less {B B0:Addr→Prop} (h:∀a,B0 a→B a) {s s':S3} (x:Le B s s'):Le B0 s s':=⟨x.io,x.fr,fun a q=>x.hid a (h a q)⟩
inductive FsR (K:KW) (F:Hp) (io:Io):List (Str×D)→List (Str×V)→Prop where
 | nil:FsR K F io [] []
 | cons {f d v fs gs}:Rep K F io d v→FsR K F io fs gs→FsR K F io ((f,d) :: fs) ((f,v) :: gs)
theorem FsR.mono {K:KW} {F F':Hp} {io io':Io} (hF:Same F F') (hi:IoLe io io'):∀{fs gs},FsR K F io fs gs→FsR K F' io' fs gs
 | _,_,.nil=>.nil
 | _,_,.cons r t=>.cons (r.mono hF hi) (FsR.mono hF hi t)
theorem FsR.look {K:KW} {F:Hp} {io:Io} {f:Str}:∀{fs gs},FsR K F io fs gs→(∀d,fs.lookup f=some d→∃v,gs.lookup f=some v∧Rep K F io d v)∧(fs.lookup f=none→gs.lookup f=none)
 | _,_,.nil=>⟨fun d h=>by simp at h,fun _=>rfl⟩
 | _,_,.cons (f:=g) r t=>by
  have ih:=FsR.look (f:=f) t
  rw[List.lookup_cons,List.lookup_cons]
  cases h:f == g with
  | true=>exact⟨fun d e=>⟨_,rfl,by cases e;exact r⟩,fun e=>by cases e⟩
  | false=>exact ih
theorem FsR.length {K:KW} {F:Hp} {io:Io}:∀{fs gs},FsR K F io fs gs→fs.length=gs.length
 | _,_,.nil=>rfl
 | _,_,.cons _ t=>congrArg Nat.succ (FsR.length t)
structure DkR (K:KW) (F:Hp) (io:Io) (ks us:List D) (xs:DkX):Prop where
 keys:RepL K F io ks (xs.map fun x=>.ref x.2.1)
 tk:ks.map D.tk=xs.map (fun x=>some x.1)
 vals:∃vs,Vals vs (xs.map (·.2.2))∧RepL K F io us vs
theorem DkR.mono {K:KW} {F F':Hp} {io io':Io} (hF:Same F F') (hi:IoLe io io') {ks us:List D} {xs:DkX} (h:DkR K F io ks us xs):DkR K F' io' ks us xs:=
 ⟨h.keys.mono hF hi,h.tk,let ⟨vs,v,r⟩:=h.vals;⟨vs,v,r.mono hF hi⟩⟩
def ObjR (G:G3) (s:S3) (a:Addr):MO→Prop
 | .lst xs=>∃vs,s.H a=some (.lst vs)∧RepL G.R s.F s.io xs vs
 | .dic ks us=>∃kvs:List (Key×V),s.H a=some (.dK kvs)∧kvs.map (·.1)=ks∧RepL G.R s.F s.io us (kvs.map (·.2))
 | .ddi ks us=>∃xs,s.H a=some (DkO G.w a xs)∧DkR G.R s.F s.io ks us xs
 | .ins c fs=>∃C dx gs,G.cls c=some C∧s.H a=some (.ins C dx gs)∧FsR G.R s.F s.io fs gs
 | .cell d=>∃v,s.H a=some (CellO a v)∧Rep G.R s.F s.io d v
 | _=>False
def UntR (G:G3) (s:S3) (a:Addr):MO→Prop
 | .kc d=>∃v u,L2.RelV v u∧G.base.IsCell a (some u)∧Rep G.R s.F s.io d v
 | .slp i=>G.own i=some a
 | .dead=>True
 | .rdd ks us=>∃od xs,s.F a=some (.frz od (.frz od (DkO G.w a xs)))∧DkR G.R s.F s.io ks us xs
 | _=>False
def NoTbl (o:HO):Prop:=∀ps,o≠.tbl ps
theorem code_wit (c:Addr) (q:Str):∃h:Heap,(∃(oc:Obj) (vs:Array Value) (t:Tok),h.get? c=some oc∧oc.data=.fields vs∧vs[1]?=some (.str q t))∧∀a o,h.get? a=some o→∃vs,o.data=.fields vs:=by
 refine⟨{ objs:=Array.replicate (c+1) { cls:=.none,data:=.fields #[.none,.str q 0] } },⟨{ cls:=.none,data:=.fields #[.none,.str q 0] },_,0,?_,rfl,rfl⟩,fun a o e=>?_⟩
 ·unfold Heap.get?
  simp
 ·unfold Heap.get? at e
  simp only[Array.getElem?_replicate] at e
  split at e
  ·cases e
  ·split at e
   ·cases e;exact⟨_,rfl⟩
   ·cases e
theorem code_ext {c:Addr} {q:Str} {φ:Heap→Prop} (e:HO.ext φ=LamX.CodeO c q) (k:∀h,φ h→∃a o,h.get? a=some o∧∀vs,o.data≠.fields vs):False:=by
 obtain⟨h,h1,h2⟩:=code_wit c q
 unfold LamX.CodeO at e
 injection e with e
 have:φ h:=by rw[e];exact h1
 obtain⟨a,o,e1,e2⟩:=k h this
 obtain⟨vs,e3⟩:=h2 a o e1
 exact e2 vs e3
theorem dkO_code {w:World} {p:Addr} {xs:DkX} {c:Addr} {q:Str} (e:DkO w p xs=LamX.CodeO c q):False:=
 code_ext e fun h ⟨_,_,_,o,es,ep,e1,_,e2,_⟩=>⟨p,o,e1,fun vs z=>by rw[e2] at z;cases z⟩
theorem cellO_code {a:Addr} {v:V} {c:Addr} {q:Str} (e:CellO a v=LamX.CodeO c q):False:=
 code_ext e fun h ⟨_,_,o,e1,e2⟩=>⟨a,o,e1,fun vs z=>by rw[e2] at z;cases z⟩
structure OwnH (o:HO):Prop where
 tbl:NoTbl o
 code:∀c q,o≠LamX.CodeO c q
def TabR (s:S3) (p:NdefX.NTab):Prop:=∃ps:Array Value,s.H p.1=some (.tbl ps)∧TriplesOk ps.toList∧∀(pos:Pos) (cv:Value),codeAmong pos ps.toList=some cv→∃c,cv=.ref c∧s.F c=some (LamX.CodeO c (p.2 pos.line pos.col))
theorem TabR.mono {s s':S3} {p:NdefX.NTab} (hf:Same s.F s'.F) (hh:∀ps,s.H p.1=some (.tbl ps)→s'.H p.1=some (.tbl ps)) (x:TabR s p):TabR s' p:=
 let ⟨ps,e,t,r⟩:=x
 ⟨ps,hh ps e,t,fun pos cv q=>let ⟨c,e1,e2⟩:=r pos cv q;⟨c,e1,hf _ _ e2⟩⟩
structure Wd (G:G3) (B:Addr→Prop) (st:Store) (s:S3):Prop where
 sub:Same s.F s.H
 hid:∀a,B a→s.F a=none∧∃o,s.H a=some o∧OwnH o
 ftb:∀a o,s.F a=some o→NoTbl o
 dom:∀k a,s.io k=some a→k<st.length
 inj:∀j k a oj ok,s.io j=some a→s.io k=some a→st[j]?=some oj→oj.tr=true→st[k]?=some ok→ok.tr=true→j=k
 obj:∀k o,st[k]?=some o→o.tr=true→∃a,s.io k=some a∧¬B a∧s.F a=none∧ObjR G s a o
 unt:∀k o,st[k]?=some o→o.tr=false→∃a,s.io k=some a∧UntR G s a o
 tabs:∀p∈G.tabs,TabR s p
theorem Wd.freshF {G:G3} {B:Addr→Prop} {st:Store} {s:S3} (w:Wd G B st s) {p:Addr} (h:s.H p=none):s.F p=none:=by
 cases q:s.F p with
 | none=>rfl
 | some o=>rw[w.sub p o q] at h;cases h
theorem Wd.freshB {G:G3} {B:Addr→Prop} {st:Store} {s:S3} (w:Wd G B st s) {p:Addr} (h:s.H p=none):¬B p:=fun b=>by
 obtain⟨_,o,e,_⟩:=w.hid p b
 rw[e] at h;cases h
theorem ObjR.there {G:G3} {s:S3} {a:Addr} {o:MO} (x:ObjR G s a o):∃u,s.H a=some u:=by
 cases o with
 | lst xs=>obtain⟨vs,q,_⟩:=x;exact⟨_,q⟩
 | dic ks us=>obtain⟨vs,q,_⟩:=x;exact⟨_,q⟩
 | ddi ks us=>obtain⟨vs,q,_⟩:=x;exact⟨_,q⟩
 | ins c fs=>obtain⟨_,_,_,_,q,_⟩:=x;exact⟨_,q⟩
 | cell d=>obtain⟨_,q,_⟩:=x;exact⟨_,q⟩
 | _=>exact False.elim x
theorem Wd.tabM {G:G3} {B:Addr→Prop} {st:Store} {s s':S3} (w:Wd G B st s) (hf:Same s.F s'.F) (hh:∀P ps,s.H P=some (.tbl ps)→s'.H P=some (.tbl ps)):∀p∈G.tabs,TabR s' p:=fun p hp=>
 (w.tabs p hp).mono hf (hh p.1)
theorem upd_tbl {H:Hp} {p:Addr} {o:HO} (h:∀ps,H p≠some (.tbl ps)):∀P ps,H P=some (.tbl ps)→upd H p o P=some (.tbl ps):=fun P ps e=>by
 rw[upd_ne (fun z=>by subst z;exact h ps e)];exact e
theorem ObjR.ntbl {G:G3} {s:S3} {a:Addr} {o:MO} (x:ObjR G s a o):∀ps,s.H a≠some (.tbl ps):=fun ps z=>by
 cases o with
 | lst xs=>obtain⟨vs,q,_⟩:=x;rw[z] at q;cases q
 | dic ks us=>obtain⟨vs,q,_⟩:=x;rw[z] at q;cases q
 | ddi ks us=>obtain⟨vs,q,_⟩:=x;rw[z] at q;cases q
 | ins c fs=>obtain⟨_,_,_,_,q,_⟩:=x;rw[z] at q;cases q
 | cell d=>obtain⟨_,q,_⟩:=x;rw[z] at q;cases q
 | _=>exact False.elim x
theorem Wd.ntbl {G:G3} {B:Addr→Prop} {st:Store} {s:S3} (w:Wd G B st s) {p:Addr} (b:B p):∀ps,s.H p≠some (.tbl ps):=fun ps z=>by
 obtain⟨_,o,e,n⟩:=w.hid p b
 rw[z] at e;cases e
 exact n.tbl ps rfl
theorem ntbl_none {H:Hp} {p:Addr} (h:H p=none):∀ps,H p≠some (.tbl ps):=fun ps z=>by rw[h] at z;cases z
theorem ObjR.tr {G:G3} {s:S3} {a:Addr} {o:MO} (x:ObjR G s a o):o.tr=true:=by
 cases o <;> first | rfl | exact False.elim x
theorem Wd.freshI {G:G3} {B:Addr→Prop} {st:Store} {s:S3} (w:Wd G B st s) {p:Addr} (h:s.H p=none) {k:Nat} {o:MO} (eo:st[k]?=some o) (t:o.tr=true):s.io k≠some p:=fun e=>by
 obtain⟨a,e',_,_,x⟩:=w.obj k o eo t
 rw[e] at e';cases e'
 obtain⟨u,q⟩:=x.there
 rw[h] at q;cases q
theorem UntR.mono {G:G3} {s s':S3} {a:Addr} {o:MO} (hi:IoLe s.io s'.io) (hf:Same s.F s'.F) (x:UntR G s a o):UntR G s' a o:=by
 cases o with
 | kc d=>obtain⟨v,u,r,b,q⟩:=x;exact⟨v,u,r,b,q.mono hf hi⟩
 | slp i=>exact x
 | dead=>exact x
 | rdd ks us=>obtain⟨od,xs,e,r⟩:=x;exact⟨od,xs,hf _ _ e,r.mono hf hi⟩
 | _=>exact False.elim x
theorem Wd.untM {G:G3} {B:Addr→Prop} {st:Store} {s s':S3} (w:Wd G B st s) (hi:IoLe s.io s'.io) (hf:Same s.F s'.F):∀k o,st[k]?=some o→o.tr=false→∃a,s'.io k=some a∧UntR G s' a o:=fun k o e t=>
 let ⟨a,e1,x⟩:=w.unt k o e t
 ⟨a,hi k a e1,x.mono hi hf⟩
theorem ObjR.mono {G:G3} {s s':S3} {a:Addr} {o:MO} (hi:IoLe s.io s'.io) (hf:Same s.F s'.F) (hh:s'.H a=s.H a) (x:ObjR G s a o):ObjR G s' a o:=by
 cases o with
 | lst xs=>obtain⟨vs,e,r⟩:=x;exact⟨vs,hh.trans e,r.mono hf hi⟩
 | dic ks us=>obtain⟨vs,e,e2,r⟩:=x;exact⟨vs,hh.trans e,e2,r.mono hf hi⟩
 | ddi ks us=>obtain⟨vs,e,r⟩:=x;exact⟨vs,hh.trans e,r.mono hf hi⟩
 | ins c fs=>obtain⟨C,dx,gs,e0,e,r⟩:=x;exact⟨C,dx,gs,e0,hh.trans e,r.mono hf hi⟩
 | cell d=>obtain⟨v,e,r⟩:=x;exact⟨v,hh.trans e,r.mono hf hi⟩
 | _=>exact False.elim x
def S3.froz (s:S3) (p:Addr) (o:HO):S3:=⟨s.io,upd s.F p o,upd s.H p o⟩
theorem same_upd {H:Hp} {p:Addr} {o:HO} (h:H p=none):Same H (upd H p o):=fun b u e=>by
 rw[upd_ne (ne_of_none e h)];exact e
theorem Wd.froz {G:G3} {B:Addr→Prop} {st:Store} {s:S3} (w:Wd G B st s) {p:Addr} (h:s.H p=none) (o:HO) (nt:NoTbl o:=by intro _ q;cases q):Wd G B st (s.froz p o)∧Le B s (s.froz p o):=by
 have hF:=w.freshF h
 have nB:∀a,B a→a≠p:=fun a b e=>w.freshB h (e▸b)
 refine⟨⟨fun b u e=>?_,fun a b=>?_,fun a u e=>?_,w.dom,w.inj,fun k u e t=>?_,w.untM (IoLe.refl _) (same_upd hF),w.tabM (same_upd hF) (upd_tbl (ntbl_none h))⟩,IoLe.refl _,same_upd hF,fun a b=>upd_ne (nB a b)⟩
 ·show upd s.H p o b=some u
  have e:upd s.F p o b=some u:=e
  by_cases hb:b=p
  ·subst hb;rw[upd_same] at e⊢;exact e
  ·rw[upd_ne hb] at e⊢;exact w.sub b u e
 ·obtain⟨h1,u,h2,h3⟩:=w.hid a b
  exact⟨by show upd s.F p o a=none;rw[upd_ne (nB a b)];exact h1,u,by show upd s.H p o a=some u;rw[upd_ne (nB a b)];exact h2,h3⟩
 ·have e:upd s.F p o a=some u:=e
  by_cases hb:a=p
  ·subst hb;rw[upd_same] at e;cases e;exact nt
  ·rw[upd_ne hb] at e;exact w.ftb a u e
 ·obtain⟨a,e1,b1,f1,o1⟩:=w.obj k u e t
  have na:a≠p:=fun z=>w.freshI h e t (z▸e1)
  exact⟨a,e1,b1,by show upd s.F p o a=none;rw[upd_ne na];exact f1,ObjR.mono (s:=s) (s':=s.froz p o) (IoLe.refl _) (same_upd hF) (upd_ne na) o1⟩
theorem Wd.newT {G:G3} {B:Addr→Prop} {st:Store} {s:S3} {xs:List D} {vs:List V} {Q:VK} (w:Wd G B st s) (r:RepL G.R s.F s.io xs vs)
  (k:∀(s':S3) (v:V),Le B s s'→Wd G B st s'→Rep G.R s'.F s'.io (.tup xs) v→Q v s'.H):NewT vs s.H Q:=fun p o hp hd=>
 let ⟨w2,l2⟩:=w.froz hp (.frz o (.tup vs))
 k (s.froz p (.frz o (.tup vs))) (.ref p) l2 w2 (.tup ⟨o,upd_same,hd⟩ (r.mono l2.fr l2.io))
def ExR (G:G3) (s:S3) (c:String) (x:D) (cv:Value) (dd:Option Addr):Prop:=
 match G.cls c with
 | none=>cv=.type c
 | some C=>cv=.ref C∧(match G.fld c with
  | none=>dd=none
  | some f=>∃d fs v,dd=some d∧s.F d=some (.xd fs)∧fs.lookup f=some v∧Rep G.R s.F s.io x v)
abbrev Hex:=Option (Addr×String×D×Option Addr)
def XFld (G:G3) (s:S3) (c:String) (x:D) (dd:Option Addr):Prop:=∀C f,G.cls c=some C→G.fld c=some f→∃d fs v,dd=some d∧s.F d=some (.xd fs)∧fs.lookup f=some v∧Rep G.R s.F s.io x v
theorem XFld.mono {G:G3} {s s':S3} {c:String} {x:D} {dd:Option Addr} (hi:IoLe s.io s'.io) (hf:Same s.F s'.F) (h:XFld G s c x dd):XFld G s' c x dd:=fun C f h1 h2=>
 let ⟨d,fs,v,q1,q2,q3,q4⟩:=h C f h1 h2
 ⟨d,fs,v,q1,hf _ _ q2,q3,q4.mono hf hi⟩
def RepW (G:G3) (X:Hex) (B:Addr→Prop) (s:S3):W→V→Prop
 | .val d,v=>Rep G.R s.F s.io d v
 | .bor xs,v=>∃p vs,v=.ref p∧B p∧s.H p=some (.lst vs)∧RepL G.R s.F s.io xs vs
 | .bod ks us,v=>∃(p:Addr) (kvs:List (Key×V)),v=.ref p∧B p∧s.H p=some (.dK kvs)∧kvs.map (·.1)=ks∧RepL G.R s.F s.io us (kvs.map (·.2))
 | .bdd ks us,v=>∃(p:Addr) (xs:DkX),v=.ref p∧B p∧s.H p=some (DkO G.w p xs)∧DkR G.R s.F s.io ks us xs
 | .exn c x,v=>∃a dd,X=some (a,c,x,dd)∧v=.ref a∧XFld G s c x dd
 | .len xs,v=>∃p vs o,v=.ref p∧B p∧s.H p=some (.frz o (.lst vs))∧RepL G.R s.F s.io xs vs
theorem RepW.mono {G:G3} {X:Hex} {B:Addr→Prop} {s s':S3} (l:Le B s s') {w:W} {v:V} (r:RepW G X B s w v):RepW G X B s' w v:=by
 cases w with
 | val d=>exact Rep.mono l.fr l.io r
 | bor xs=>obtain⟨p,vs,e,b,h,r⟩:=r;exact⟨p,vs,e,b,(l.hid p b).trans h,r.mono l.fr l.io⟩
 | bod ks us=>obtain⟨p,vs,e,b,h,e2,r⟩:=r;exact⟨p,vs,e,b,(l.hid p b).trans h,e2,r.mono l.fr l.io⟩
 | bdd ks us=>obtain⟨p,vs,e,b,h,r⟩:=r;exact⟨p,vs,e,b,(l.hid p b).trans h,r.mono l.fr l.io⟩
 | exn c x=>
  obtain⟨a,dd,e1,e2,xf⟩:=r
  exact⟨a,dd,e1,e2,xf.mono l.io l.fr⟩
 | len xs=>obtain⟨p,vs,o,e,b,h,r⟩:=r;exact⟨p,vs,o,e,b,(l.hid p b).trans h,r.mono l.fr l.io⟩
structure Slo (G:G3) (X:Hex) (B0 B:Addr→Prop) (s:S3) (u:Sl3) (z:L2.St):Prop where
 len:u.length=z.length
 ex:∃ow:Nat→Addr,(∀(i:Nat) (w:W),u[i]?=some (some w)→∃v,z[i]?=some (some v)∧RepW G X B s w v∧(w.own=true→v=.ref (ow i)∧¬B0 (ow i)))∧
  ∀(i j:Nat) (w w':W),w.own=true→w'.own=true→u[i]?=some (some w)→u[j]?=some (some w')→ow i=ow j→i=j
theorem Slo.mono {G:G3} {X:Hex} {B0 B:Addr→Prop} {s s':S3} {u:Sl3} {z:L2.St} (l:Le B s s') (h:Slo G X B0 B s u z):Slo G X B0 B s' u z:=by
 obtain⟨hl,ow,h1,h2⟩:=h
 exact⟨hl,ow,fun i w e=>let ⟨v,e1,r,q⟩:=h1 i w e;⟨v,e1,r.mono l,q⟩,h2⟩
theorem Slo.get {G:G3} {X:Hex} {B0 B:Addr→Prop} {s:S3} {u:Sl3} {z:L2.St} (h:Slo G X B0 B s u z) {i:Nat} {w:W} (e:u[i]?=some (some w)):∃v,z[i]?=some (some v)∧RepW G X B s w v:=by
 obtain⟨hl,ow,h1,h2⟩:=h
 obtain⟨v,e1,r,_⟩:=h1 i w e
 exact⟨v,e1,r⟩
def Post {α β:Type} (G:G3) (B:Addr→Prop) (R:S3→α→β→Prop) (E:XK) (s:S3) (Q:β→Hp→Prop):Res α→Prop
 | .ok a st'=>∀(s':S3) (b:β),Le B s s'→Wd G B st' s'→R s' a b→Q b s'.H
 | .err c x st'=>∀(s':S3) (cv:Value) (dd:Option Addr),Le B s s'→Wd G B st' s'→ExR G s' c x cv dd→E cv dd s'.H
 | .bad=>False
theorem Post.mono {α β:Type} {G:G3} {B:Addr→Prop} {R:S3→α→β→Prop} {E:XK} {s s1:S3} {Q:β→Hp→Prop} {r:Res α} (l:Le B s s1) (h:Post G B R E s Q r):Post G B R E s1 Q r:=by
 cases r with
 | ok a st'=>exact fun s' b l' w r=>h s' b (l.trans l') w r
 | err c x st'=>exact fun s' cv dd l' w r=>h s' cv dd (l.trans l') w r
 | bad=>exact h
theorem Post.bind {α β γ δ:Type} {G:G3} {B:Addr→Prop} {R:S3→α→β→Prop} {R':S3→γ→δ→Prop} {E:XK} {s:S3} {Q:δ→Hp→Prop} {Q1:β→Hp→Prop} {m:M α} {f:α→M γ} {st:Store} (h:Post G B R' E s Q (M.bind m f st))
  (k:∀a st' s' b,Le B s s'→Wd G B st' s'→R s' a b→Post G B R' E s' Q (f a st')→Q1 b s'.H):Post G B R E s Q1 (m st):=by
 unfold M.bind at h
 cases e:m st with
 | ok a st'=>
  rw[e] at h
  exact fun s' b l w r=>k a st' s' b l w r (Post.mono l h)
 | err c x st'=>rw[e] at h;exact h
 | bad=>rw[e] at h;exact h
theorem Post.pure {α β:Type} {G:G3} {B:Addr→Prop} {R:S3→α→β→Prop} {E:XK} {s:S3} {Q:β→Hp→Prop} {a:α} {b:β} {st:Store} (h:Post G B R E s Q (.ok a st)) (w:Wd G B st s) (r:R s a b):Q b s.H:=h s b (Le.refl _) w r
abbrev EM:=Sl3→M W
abbrev TM:=Sl3→M Bool
abbrev AM:=Sl3→M (List W)
inductive RepWs (G:G3) (X:Hex) (B:Addr→Prop) (s:S3):List W→List V→Prop where
 | nil:RepWs G X B s [] []
 | cons {w v ws vs}:RepW G X B s w v→RepWs G X B s ws vs→RepWs G X B s (w :: ws) (v :: vs)
theorem RepWs.mono {G:G3} {X:Hex} {B:Addr→Prop} {s s':S3} (l:Le B s s'):∀{ws:List W} {vs:List V},RepWs G X B s ws vs→RepWs G X B s' ws vs
 | _,_,.nil=>.nil
 | _,_,.cons r t=>.cons (r.mono l) (RepWs.mono l t)
theorem RepWs.length {G:G3} {X:Hex} {B:Addr→Prop} {s:S3}:∀{ws:List W} {vs:List V},RepWs G X B s ws vs→ws.length=vs.length
 | _,_,.nil=>rfl
 | _,_,.cons _ t=>congrArg Nat.succ (RepWs.length t)
structure P3 where
 X:Cx
 G:G3
 hx:Hex
 wx:WX
 hK:X.K=G.K
 hw:X.w=G.w
def tE (G:G3) (hx:Hex) (wx:WX) (m:EM):TE:=fun z H Q=>∃(B0 B:Addr→Prop) (s:S3) (st:Store) (u:Sl3),s.H=H∧Wd G B st s∧Slo G hx B0 B s u z∧Post G B (RepW G hx B) (fun c d H=>wx c d z H) s Q (m u st)
def tT (G:G3) (hx:Hex) (wx:WX) (m:TM):TT:=fun z H Q=>∃(B0 B:Addr→Prop) (s:S3) (st:Store) (u:Sl3),s.H=H∧Wd G B st s∧Slo G hx B0 B s u z∧Post G B (fun _ a b=>a=b) (fun c d H=>wx c d z H) s Q (m u st)
def tA (G:G3) (hx:Hex) (wx:WX) (m:AM):TA:=fun z H Q=>∃(B0 B:Addr→Prop) (s:S3) (st:Store) (u:Sl3),s.H=H∧Wd G B st s∧Slo G hx B0 B s u z∧Post G B (RepWs G hx B) (fun c d H=>wx c d z H) s Q (m u st)
structure ME (P:P3) (e:Expr) (m:EM):Prop where
 pe:PE P.X e (tE P.G P.hx P.wx m)
structure MT (P:P3) (e:Expr) (m:TM):Prop where
 pt:PT P.X e (tT P.G P.hx P.wx m)
structure MW (P:P3) (e:Expr) (m:TM):Prop where
 pw:PW P.X e (tT P.G P.hx P.wx m)
structure MA (P:P3) (es:List Expr) (m:AM):Prop where
 pa:PA P.X es (tA P.G P.hx P.wx m)
section
variable {P:P3} {e:Expr} {es:List Expr}
theorem ME.mk' {m:EM} {t:TE} (h:PE P.X e t) (k:∀(B0 B:Addr→Prop) (s:S3) (st:Store) (u:Sl3) (z:L2.St) (Q:VK),Wd P.G B st s→Slo P.G P.hx B0 B s u z→
  Post P.G B (RepW P.G P.hx B) (fun c d H=>P.wx c d z H) s Q (m u st)→t z s.H Q):ME P e m:=
 ⟨⟨fun pins s0 z H Q I ⟨B0,B,s,st,u,e,wd,sl,p⟩=>by subst e;exact h.run pins s0 z _ Q I (k B0 B s st u z Q wd sl p)⟩⟩
theorem MT.mk' {m:TM} {t:TT} (h:PT P.X e t) (k:∀(B0 B:Addr→Prop) (s:S3) (st:Store) (u:Sl3) (z:L2.St) (Q:Bool→Hp→Prop),Wd P.G B st s→Slo P.G P.hx B0 B s u z→
  Post P.G B (fun _ a b=>a=b) (fun c d H=>P.wx c d z H) s Q (m u st)→t z s.H Q):MT P e m:=
 ⟨⟨fun pins s0 z H Q I ⟨B0,B,s,st,u,e,wd,sl,p⟩=>by subst e;exact h.run pins s0 z _ Q I (k B0 B s st u z Q wd sl p)⟩⟩
theorem MW.mk' {m:TM} {t:TT} (h:PW P.X e t) (k:∀(B0 B:Addr→Prop) (s:S3) (st:Store) (u:Sl3) (z:L2.St) (Q:Bool→Hp→Prop),Wd P.G B st s→Slo P.G P.hx B0 B s u z→
  Post P.G B (fun _ a b=>a=b) (fun c d H=>P.wx c d z H) s Q (m u st)→t z s.H Q):MW P e m:=
 ⟨⟨fun whole pins s0 z H Q I ⟨B0,B,s,st,u,e,wd,sl,p⟩=>by subst e;exact h.run whole pins s0 z _ Q I (k B0 B s st u z Q wd sl p)⟩⟩
theorem MA.mk' {m:AM} {t:TA} (h:PA P.X es t) (k:∀(B0 B:Addr→Prop) (s:S3) (st:Store) (u:Sl3) (z:L2.St) (Q:List V→Hp→Prop),Wd P.G B st s→Slo P.G P.hx B0 B s u z→
  Post P.G B (RepWs P.G P.hx B) (fun c d H=>P.wx c d z H) s Q (m u st)→t z s.H Q):MA P es m:=
 ⟨⟨fun pos pins s0 z H Q I ⟨B0,B,s,st,u,e,wd,sl,p⟩=>by subst e;exact h.run pos pins s0 z _ Q I (k B0 B s st u z Q wd sl p)⟩⟩
theorem ME.out {m:EM} (h:ME P e m):∃t,PE P.X e t∧∀(B0 B:Addr→Prop) (s:S3) (st:Store) (u:Sl3) (z:L2.St) (Q:VK),Wd P.G B st s→Slo P.G P.hx B0 B s u z→
  Post P.G B (RepW P.G P.hx B) (fun c d H=>P.wx c d z H) s Q (m u st)→t z s.H Q:=⟨_,h.pe,fun B0 B s st u z Q wd sl p=>⟨B0,B,s,st,u,rfl,wd,sl,p⟩⟩
theorem MT.out {m:TM} (h:MT P e m):∃t,PT P.X e t∧∀(B0 B:Addr→Prop) (s:S3) (st:Store) (u:Sl3) (z:L2.St) (Q:Bool→Hp→Prop),Wd P.G B st s→Slo P.G P.hx B0 B s u z→
  Post P.G B (fun _ a b=>a=b) (fun c d H=>P.wx c d z H) s Q (m u st)→t z s.H Q:=⟨_,h.pt,fun B0 B s st u z Q wd sl p=>⟨B0,B,s,st,u,rfl,wd,sl,p⟩⟩
theorem MW.out {m:TM} (h:MW P e m):∃t,PW P.X e t∧∀(B0 B:Addr→Prop) (s:S3) (st:Store) (u:Sl3) (z:L2.St) (Q:Bool→Hp→Prop),Wd P.G B st s→Slo P.G P.hx B0 B s u z→
  Post P.G B (fun _ a b=>a=b) (fun c d H=>P.wx c d z H) s Q (m u st)→t z s.H Q:=⟨_,h.pw,fun B0 B s st u z Q wd sl p=>⟨B0,B,s,st,u,rfl,wd,sl,p⟩⟩
theorem MA.out {m:AM} (h:MA P es m):∃t,PA P.X es t∧∀(B0 B:Addr→Prop) (s:S3) (st:Store) (u:Sl3) (z:L2.St) (Q:List V→Hp→Prop),Wd P.G B st s→Slo P.G P.hx B0 B s u z→
  Post P.G B (RepWs P.G P.hx B) (fun c d H=>P.wx c d z H) s Q (m u st)→t z s.H Q:=⟨_,h.pa,fun B0 B s st u z Q wd sl p=>⟨B0,B,s,st,u,rfl,wd,sl,p⟩⟩
end
abbrev FM:=Sl3→M (List D)
def plus (B:Addr→Prop) (p:Addr):Addr→Prop:=fun a=>B a∨a=p
def PostF (G:G3) (B:Addr→Prop) (E:XK) (s:S3) (Q:VK):Res (List D)→Prop
 | .ok xs st'=>∀(s':S3) (p:Addr) (vs:List V),Le B s s'→Wd G (plus B p) st' s'→¬B p→s'.H p=some (.lst vs)→RepL G.R s'.F s'.io xs vs→Q (.ref p) s'.H
 | .err c x st'=>∀(s':S3) (cv:Value) (dd:Option Addr),Le B s s'→Wd G B st' s'→ExR G s' c x cv dd→E cv dd s'.H
 | .bad=>False
def tF (G:G3) (hx:Hex) (wx:WX) (m:FM):TE:=fun z H Q=>∃(B0 B:Addr→Prop) (s:S3) (st:Store) (u:Sl3),s.H=H∧Wd G B st s∧Slo G hx B0 B s u z∧PostF G B (fun c d H=>wx c d z H) s Q (m u st)
structure MF (P:P3) (e:Expr) (m:FM):Prop where
 pe:PE P.X e (tF P.G P.hx P.wx m)
theorem MF.mk' {P:P3} {e:Expr} {m:FM} {t:TE} (h:PE P.X e t) (k:∀(B0 B:Addr→Prop) (s:S3) (st:Store) (u:Sl3) (z:L2.St) (Q:VK),Wd P.G B st s→Slo P.G P.hx B0 B s u z→
  PostF P.G B (fun c d H=>P.wx c d z H) s Q (m u st)→t z s.H Q):MF P e m:=
 ⟨⟨fun pins s0 z H Q I ⟨B0,B,s,st,u,e,wd,sl,p⟩=>by subst e;exact h.run pins s0 z _ Q I (k B0 B s st u z Q wd sl p)⟩⟩
theorem MF.out {P:P3} {e:Expr} {m:FM} (h:MF P e m):∃t,PE P.X e t∧∀(B0 B:Addr→Prop) (s:S3) (st:Store) (u:Sl3) (z:L2.St) (Q:VK),Wd P.G B st s→Slo P.G P.hx B0 B s u z→
  PostF P.G B (fun c d H=>P.wx c d z H) s Q (m u st)→t z s.H Q:=⟨_,h.pe,fun B0 B s st u z Q wd sl p=>⟨B0,B,s,st,u,rfl,wd,sl,p⟩⟩
section
variable {G:G3} {B:Addr→Prop} {E:XK} {s s1:S3} {Q:VK}
theorem PostF.mono {r:Res (List D)} (l:Le B s s1) (h:PostF G B E s Q r):PostF G B E s1 Q r:=by
 cases r with
 | ok a st'=>exact fun s' p vs l' w nb hp r=>h s' p vs (l.trans l') w nb hp r
 | err c x st'=>exact fun s' cv dd l' w r=>h s' cv dd (l.trans l') w r
 | bad=>exact h
theorem PostF.bind {α β:Type} {R:S3→α→β→Prop} {Q1:β→Hp→Prop} {m:M α} {f:α→M (List D)} {st:Store} (h:PostF G B E s Q (M.bind m f st))
  (k:∀a st' s' b,Le B s s'→Wd G B st' s'→R s' a b→PostF G B E s' Q (f a st')→Q1 b s'.H):Post G B R E s Q1 (m st):=by
 unfold M.bind at h
 cases e:m st with
 | ok a st'=>
  rw[e] at h
  exact fun s' b l w r=>k a st' s' b l w r (PostF.mono l h)
 | err c x st'=>rw[e] at h;exact h
 | bad=>rw[e] at h;exact h
theorem PostF.of_chk {c:Prop} [Decidable c] {f:M (List D)} {st:Store} (h:PostF G B E s Q (M.bind (M.chk c) (fun _=>f) st)):c∧PostF G B E s Q (f st):=by
 by_cases hc:c
 ·refine⟨hc,?_⟩
  have e:M.bind (M.chk c) (fun _=>f) st=f st:=by unfold M.bind M.chk;rw[if_pos hc]
  rw[e] at h;exact h
 ·have e:M.bind (M.chk c) (fun _=>f) st=.bad:=by unfold M.bind M.chk;rw[if_neg hc]
  rw[e] at h;exact h.elim
theorem Wd.less {B':Addr→Prop} {st:Store} (w:Wd G B' st s) (h:∀a,B a→B' a):Wd G B st s:=
 ⟨w.sub,fun a b=>w.hid a (h a b),w.ftb,w.dom,w.inj,fun k o e t=>let ⟨a,e1,b,f,r⟩:=w.obj k o e t;⟨a,e1,fun z=>b (h a z),f,r⟩,w.unt,w.tabs⟩
theorem freeze_le {p:Addr} {ho:HO} {st:Store} (w:Wd G (plus B p) st s):Le B s ⟨s.io,upd s.F p ho,s.H⟩:=
 ⟨IoLe.refl _,same_upd (w.hid p (.inr rfl)).1,fun _ _=>rfl⟩
theorem freeze_wd {p:Addr} {ho:HO} {st:Store} (w:Wd G (plus B p) st s) (nb:¬B p) (h:s.H p=some ho):Wd G B st ⟨s.io,upd s.F p ho,s.H⟩:=by
 have hF:=(w.hid p (.inr rfl)).1
 have nt:NoTbl ho:=by
  obtain⟨_,o,e,n⟩:=w.hid p (.inr rfl)
  rw[h] at e;cases e;exact n.tbl
 refine⟨fun b o e=>?_,fun a b=>?_,fun a o e=>?_,w.dom,w.inj,fun k o e t=>?_,w.untM (IoLe.refl _) (same_upd hF),w.tabM (same_upd hF) fun _ _ e=>e⟩
 ·have e:upd s.F p ho b=some o:=e
  by_cases hb:b=p
  ·subst hb;rw[upd_same] at e;cases e;exact h
  ·rw[upd_ne hb] at e;exact w.sub b o e
 ·obtain⟨h1,h2⟩:=w.hid a (.inl b)
  exact⟨by show upd s.F p ho a=none;rw[upd_ne (show a≠p from fun z=>by subst z;exact nb b)];exact h1,h2⟩
 ·have e:upd s.F p ho a=some o:=e
  by_cases hb:a=p
  ·subst hb;rw[upd_same] at e;cases e;exact nt
  ·rw[upd_ne hb] at e;exact w.ftb a o e
 ·obtain⟨a,e1,b1,f1,o1⟩:=w.obj k o e t
  have na:a≠p:=fun z=>b1 (.inr z)
  exact⟨a,e1,fun z=>b1 (.inl z),by show upd s.F p ho a=none;rw[upd_ne na];exact f1,ObjR.mono (s:=s) (s':=⟨s.io,upd s.F p ho,s.H⟩) (IoLe.refl _) (same_upd hF) rfl o1⟩
theorem own_wd {p:Addr} {ho:HO} {st:Store} (w:Wd G B st s) (hp:s.H p=none) (nt:OwnH ho:=by exact⟨fun _ q=>(by cases q),fun _ _ q=>(by first | exact dkO_code q | exact cellO_code q | (unfold LamX.CodeO at q;cases q))⟩):Wd G (plus B p) st ⟨s.io,s.F,upd s.H p ho⟩∧Le B s ⟨s.io,s.F,upd s.H p ho⟩:=by
 have nB:∀a,B a→a≠p:=fun a b e=>w.freshB hp (e▸b)
 have hF:=w.freshF hp
 refine⟨⟨fun b o e=>?_,fun a b=>?_,w.ftb,w.dom,w.inj,fun k o e t=>?_,w.untM (IoLe.refl _) (Same.refl _),w.tabM (Same.refl _) (upd_tbl (ntbl_none hp))⟩,IoLe.refl _,Same.refl _,fun a b=>upd_ne (nB a b)⟩
 ·show upd s.H p _ b=some o
  rw[upd_ne (fun z=>by subst z;have e:s.F b=some o:=e;rw[hF] at e;cases e)];exact w.sub b o e
 ·rcases b with b | b
  ·obtain⟨h1,o,h2,h3⟩:=w.hid a b
   exact⟨h1,o,by show upd s.H p _ a=some o;rw[upd_ne (nB a b)];exact h2,h3⟩
  ·subst b
   exact⟨hF,_,upd_same,nt⟩
 ·obtain⟨a,e1,b1,f1,o1⟩:=w.obj k o e t
  have na:a≠p:=fun z=>w.freshI hp e t (z▸e1)
  exact⟨a,e1,fun z=>z.elim b1 na,f1,ObjR.mono (s:=s) (s':=⟨s.io,s.F,upd s.H p ho⟩) (IoLe.refl _) (Same.refl _) (upd_ne na) o1⟩
theorem PostF.fresh {p:Addr} {xs:List D} {vs:List V} {st:Store} (h:PostF G B E s Q (.ok xs st)) (w:Wd G B st s) (r:RepL G.R s.F s.io xs vs) (hp:s.H p=none):Q (.ref p) (upd s.H p (.lst vs)):=
 let ⟨w2,l2⟩:=own_wd (ho:=.lst vs) w hp
 h ⟨s.io,s.F,upd s.H p (.lst vs)⟩ p vs l2 w2 (w.freshB hp) upd_same r
end
inductive SRes where
 | nx (u:Sl3) (st:Store) | rt (w:W) (st:Store) | bk (u:Sl3) (st:Store) | ct (u:Sl3) (st:Store)
 | err (c:String) (x:D) (u:Sl3) (st:Store) | bad
abbrev SM:=Sl3→Store→SRes
def PostS (G:G3) (hx:Hex) (wx:WX) (B0:Addr→Prop) (s:S3) (D:Ends):SRes→Prop
 | .nx u' st'=>∀(B':Addr→Prop) (s':S3) (z':L2.St),(∀a,B0 a→B' a)→Le B0 s s'→Wd G B' st' s'→Slo G hx B0 B' s' u' z'→D.nx z' s'.H
 | .bk u' st'=>∀(B':Addr→Prop) (s':S3) (z':L2.St),(∀a,B0 a→B' a)→Le B0 s s'→Wd G B' st' s'→Slo G hx B0 B' s' u' z'→D.bk z' s'.H
 | .ct u' st'=>∀(B':Addr→Prop) (s':S3) (z':L2.St),(∀a,B0 a→B' a)→Le B0 s s'→Wd G B' st' s'→Slo G hx B0 B' s' u' z'→D.ct z' s'.H
 | .rt w st'=>∀(B':Addr→Prop) (s':S3) (v:V),(∀a,B0 a→B' a)→Le B0 s s'→Wd G B' st' s'→RepR G B0 B' s' w v→D.rt v s'.H
 | .err c x u' st'=>∀(B':Addr→Prop) (s':S3) (z':L2.St) (cv:Value) (dd:Option Addr),(∀a,B0 a→B' a)→Le B0 s s'→Wd G B' st' s'→Slo G hx B0 B' s' u' z'→ExR G s' c x cv dd→wx cv dd z' s'.H
 | .bad=>False
where
 RepR (G:G3) (B0 B:Addr→Prop) (s:S3):W→V→Prop
  | .val d,v=>Rep G.R s.F s.io d v
  | .bor xs,v=>∃p vs,v=.ref p∧B p∧¬B0 p∧s.H p=some (.lst vs)∧RepL G.R s.F s.io xs vs
  | .bod ks us,v=>∃(p:Addr) (kvs:List (Key×V)),v=.ref p∧B p∧¬B0 p∧s.H p=some (.dK kvs)∧kvs.map (·.1)=ks∧RepL G.R s.F s.io us (kvs.map (·.2))
  | .bdd ks us,v=>∃(p:Addr) (xs:DkX),v=.ref p∧B p∧¬B0 p∧s.H p=some (DkO G.w p xs)∧DkR G.R s.F s.io ks us xs
  | .exn _ _,_=>False
  | .len _,_=>False
def tS (G:G3) (hx:Hex) (wx:WX) (m:SM):TS:=fun D z H=>∃(B0 B:Addr→Prop) (s:S3) (o:Store) (u:Sl3),s.H=H∧(∀a,B0 a→B a)∧Wd G B o s∧Slo G hx B0 B s u z∧PostS G hx wx B0 s D (m u o)
structure MS (P:P3) (st:Stmt) (m:SM):Prop where
 ps:PS P.X st (tS P.G P.hx P.wx m)
structure MSs (P:P3) (st:List Stmt) (m:SM):Prop where
 pss:PSs P.X st (tS P.G P.hx P.wx m)
theorem MS.mk' {P:P3} {st:Stmt} {m:SM} {t:TS} (h:PS P.X st t) (k:∀(B0 B:Addr→Prop) (s:S3) (o:Store) (u:Sl3) (z:L2.St) (D:Ends),(∀a,B0 a→B a)→Wd P.G B o s→Slo P.G P.hx B0 B s u z→PostS P.G P.hx P.wx B0 s D (m u o)→t D z s.H):MS P st m:=
 ⟨⟨fun pins s0 z H D I ⟨B0,B,s,o,u,e,b,wd,sl,p⟩=>by subst e;exact h.run pins s0 z _ D I (k B0 B s o u z D b wd sl p)⟩⟩
theorem MSs.mk' {P:P3} {st:List Stmt} {m:SM} {t:TS} (h:PSs P.X st t) (k:∀(B0 B:Addr→Prop) (s:S3) (o:Store) (u:Sl3) (z:L2.St) (D:Ends),(∀a,B0 a→B a)→Wd P.G B o s→Slo P.G P.hx B0 B s u z→PostS P.G P.hx P.wx B0 s D (m u o)→t D z s.H):MSs P st m:=
 ⟨⟨fun pins s0 z H D I ⟨B0,B,s,o,u,e,b,wd,sl,p⟩=>by subst e;exact h.run pins s0 z _ D I (k B0 B s o u z D b wd sl p)⟩⟩
theorem MS.out {P:P3} {st:Stmt} {m:SM} (h:MS P st m):∃t,PS P.X st t∧∀(B0 B:Addr→Prop) (s:S3) (o:Store) (u:Sl3) (z:L2.St) (D:Ends),(∀a,B0 a→B a)→Wd P.G B o s→Slo P.G P.hx B0 B s u z→PostS P.G P.hx P.wx B0 s D (m u o)→t D z s.H:=
 ⟨_,h.ps,fun B0 B s o u z D b wd sl p=>⟨B0,B,s,o,u,rfl,b,wd,sl,p⟩⟩
theorem MSs.out {P:P3} {st:List Stmt} {m:SM} (h:MSs P st m):∃t,PSs P.X st t∧∀(B0 B:Addr→Prop) (s:S3) (o:Store) (u:Sl3) (z:L2.St) (D:Ends),(∀a,B0 a→B a)→Wd P.G B o s→Slo P.G P.hx B0 B s u z→PostS P.G P.hx P.wx B0 s D (m u o)→t D z s.H:=
 ⟨_,h.pss,fun B0 B s o u z D b wd sl p=>⟨B0,B,s,o,u,rfl,b,wd,sl,p⟩⟩
theorem PostS.mono {G:G3} {hx:Hex} {wx:WX} {B0:Addr→Prop} {s s1:S3} {D:Ends} {r:SRes} (l:Le B0 s s1) (h:PostS G hx wx B0 s D r):PostS G hx wx B0 s1 D r:=by
 cases r with
 | nx u' st'=>exact fun B' s' z' b l' w r=>h B' s' z' b (l.trans l') w r
 | bk u' st'=>exact fun B' s' z' b l' w r=>h B' s' z' b (l.trans l') w r
 | ct u' st'=>exact fun B' s' z' b l' w r=>h B' s' z' b (l.trans l') w r
 | rt w st'=>exact fun B' s' v b l' w r=>h B' s' v b (l.trans l') w r
 | err c x u' st'=>exact fun B' s' z' cv dd b l' w r=>h B' s' z' cv dd b (l.trans l') w r
 | bad=>exact h
end M3
namespace M3
open PySem PySem.Spec PyProof.Rows L2
def W.d:W→Option D
 | .val d=>some d
 | _=>none
def W.rd:W→Option D
 | .val d=>some d
 | .bor xs=>some (.lst xs)
 | .len xs=>some (.ro xs)
 | _=>none
def asDs:List W→Option (List D)
 | []=>some []
 | .val d :: ws=>(asDs ws).map (d :: ·)
 | _ :: _=>none
section
variable {G:G3} {X:Hex} {B:Addr→Prop} {s:S3}
theorem rd_ok {w:M3.W} {v:V} {d:D} {st:Store} (wd:Wd G B st s) (r:RepW G X B s w v) (e:w.rd=some d):Rep G.R s.H s.io d v:=by
 cases w with
 | val d'=>cases e;exact Rep.mono wd.sub (IoLe.refl _) r
 | bor xs=>cases e;obtain⟨p,vs,rfl,b,h,r⟩:=r;exact .lst h (r.mono wd.sub (IoLe.refl _))
 | bod ks us=>cases e
 | bdd ks us=>cases e
 | exn c x=>cases e
 | len xs=>cases e;obtain⟨p,vs,o,rfl,b,h,r⟩:=r;exact .ro (.inl (.inr ⟨o,h⟩)) (r.mono wd.sub (IoLe.refl _))
theorem asDs_ok:∀{ws:List W} {vs:List V} {ds:List D},RepWs G X B s ws vs→asDs ws=some ds→RepL G.R s.F s.io ds vs
 | _,_,_,.nil,e=>by cases e;exact .nil
 | w :: ws,_,ds,.cons r t,e=>by
  cases w with
  | val d=>
   unfold asDs at e
   cases h:asDs ws with
   | none=>rw[h] at e;cases e
   | some ds'=>rw[h] at e;cases e;exact .cons r (asDs_ok t h)
  | _=>cases e
end
section
variable {α β γ δ:Type} {G:G3} {B:Addr→Prop} {R:S3→α→β→Prop} {R':S3→γ→δ→Prop} {E:XK} {s:S3} {Q:δ→Hp→Prop}
theorem Post.of_chk {c:Prop} [Decidable c] {f:M γ} {st:Store} (h:Post G B R' E s Q (M.bind (M.chk c) (fun _=>f) st)):c∧Post G B R' E s Q (f st):=by
 by_cases hc:c
 ·refine⟨hc,?_⟩
  have e:M.bind (M.chk c) (fun _=>f) st=f st:=by unfold M.bind M.chk;rw[if_pos hc]
  rw[e] at h;exact h
 ·have e:M.bind (M.chk c) (fun _=>f) st=.bad:=by unfold M.bind M.chk;rw[if_neg hc]
  rw[e] at h;exact h.elim
theorem Post.of_of {a:Option α} {f:α→M γ} {st:Store} (h:Post G B R' E s Q (M.bind (M.of a) f st)):∃x,a=some x∧Post G B R' E s Q (f x st):=by
 cases a with
 | none=>exact h.elim
 | some x=>exact⟨x,rfl,h⟩
end
section
variable {G:G3} {B:Addr→Prop} {E:XK} {s:S3} {Q:VK}
theorem PostF.of_of {α:Type} {a:Option α} {f:α→M (List D)} {st:Store} (h:PostF G B E s Q (M.bind (M.of a) f st)):∃x,a=some x∧PostF G B E s Q (f x st):=by
 cases a with
 | none=>exact h.elim
 | some x=>exact⟨x,rfl,h⟩
end
def eVar (i:Nat):EM:=fun u st=>match u[i]? with
 | some (some w)=>.ok w st
 | _=>.bad
def eC (d:D):EM:=fun _=>M.pure (.val d)
section
variable {P:P3} {pos p pos':Pos}
theorem me_var (i:Nat) {x:Str} (hN:P.X.N[i]?=some x:=by rfl) (hv:Vis P.X.env.scope x:=by first | exact Or.inl rfl | exact Or.inr (Or.inl rfl) | exact Or.inr (Or.inr rfl)) (hd:(x == ("__debug__" : Str))=false:=by decide)
  (hcd:(x == ("__classdict__" : Str))=false:=by decide):ME P (.Name x pos) (eVar i):=by
 refine ME.mk' (pe_var hN hv hd hcd) fun B0 B s st u z Q wd sl h=>?_
 unfold eVar at h
 cases e:u[i]? with
 | none=>rw[e] at h;exact h.elim
 | some o=>
  cases o with
  | none=>rw[e] at h;exact h.elim
  | some w=>
   rw[e] at h
   obtain⟨v,e1,r⟩:=sl.get e
   exact⟨v,e1,h.pure wd r⟩
theorem me_c {e:Expr} {d:D} {v:V} (h:PE P.X e (tC v)) (r:∀F io,Rep P.G.R F io d v):ME P e (eC d):=
 ME.mk' h fun B0 B s st u z Q wd sl h=>h.pure wd (show Rep P.G.R s.F s.io d v from r _ _)
theorem me_int {i j}:ME P (.Constant (.int i) j pos) (eC (.int i)):=me_c pe_int fun _ _=>.int
theorem me_bl {b j}:ME P (.Constant (.bool b) j pos) (eC (.bl b)):=me_c pe_bl fun _ _=>.bl
theorem me_non {j}:ME P (.Constant .none j pos) (eC .non):=me_c pe_non fun _ _=>.non
theorem me_str {x j}:ME P (.Constant (.str x) j pos) (eC (.str x)):=me_c pe_str fun _ _=>.str
theorem me_glob {x:Str} {d:D} {v:V} {u:Value} (hg:Gl P.X x) (hm:P.X.mg x=some u) (rv:RelV v u) (r:∀F io,Rep P.G.R F io d v) (hd:(x == ("__debug__" : Str))=false:=by decide):ME P (.Name x pos) (eC d):=
 me_c (pe_glob hg hm rv hd) r
theorem me_ty {x:Str} {T:String} (hg:Gl P.X x) (hm:P.X.mg x=none) (hv:bootBuiltins x=some (.type T)) (hn:x≠"__name__":=by decide) (hd:(x == ("__debug__" : Str))=false:=by decide):ME P (.Name x pos) (eC (.ty T)):=
 me_c (pe_bltn (v:=.ty T) hg hm hv rfl hn hd) fun _ _=>.ty
def aNil:AM:=fun _=>M.pure []
def aCons (m:EM) (ms:AM):AM:=fun u=>M.bind (m u) fun w=>M.bind (ms u) fun ws=>M.pure (w :: ws)
theorem ma_nil:MA P [] aNil:=MA.mk' pa_nil fun B0 B s st u z Q wd sl h=>h.pure wd .nil
theorem ma_cons {e:Expr} {es:List Expr} {m:EM} {ms:AM} (he:ME P e m) (hs:MA P es ms) (hst:starEach (e :: es) P.X.env=(false,eval e P.X.env) :: starEach es P.X.env:=by rfl):MA P (e :: es) (aCons m ms):=by
 obtain⟨t,pt,ht⟩:=he.out
 obtain⟨r,pr,hr⟩:=hs.out
 refine MA.mk' (pa_cons pt pr hst) fun B0 B s st u z Q wd sl h=>ht B0 B s st u z _ wd sl (Post.bind h fun w st1 s1 v l1 wd1 r1 h1=>?_)
 refine hr B0 B s1 st1 u z _ wd1 (sl.mono l1) (Post.bind h1 fun ws st2 s2 vs l2 wd2 r2 h2=>?_)
 exact h2.pure wd2 (.cons (r1.mono l2) r2)
def eTup (m:AM):EM:=fun u=>M.bind (m u) fun ws=>M.bind (M.of (asDs ws)) fun ds=>M.bind (M.chk (ds.length≤1000000)) fun _=>M.pure (.val (.tup ds))
theorem me_tup {es:List Expr} {m:AM} {x1} (hs:MA P es m):ME P (.Tuple es x1 pos) (eTup m):=by
 obtain⟨t,pt,ht⟩:=hs.out
 refine ME.mk' (pe_tupZ pt) fun B0 B s st u z Q wd sl h=>ht B0 B s st u z _ wd sl (Post.bind h fun ws st1 s1 vs l1 wd1 r1 h1=>?_)
 obtain⟨ds,e,h1⟩:=Post.of_of h1
 have rl:=asDs_ok r1 e
 obtain⟨hz,h1⟩:=Post.of_chk h1
 exact⟨by rw[←rl.length];exact szL hz,wd1.newT rl fun s' v l w r=>h1 s' v l w r⟩
def fLst (m:AM):FM:=fun u=>M.bind (m u) fun ws=>M.bind (M.of (asDs ws)) fun ds=>M.bind (M.chk (ds.length≤1000000)) fun _=>M.pure ds
theorem mf_lst {es:List Expr} {m:AM} (hs:MA P es m):MF P (.List es pos) (fLst m):=by
 obtain⟨t,pt,ht⟩:=hs.out
 refine MF.mk' (pe_lst pt) fun B0 B s st u z Q wd sl h=>ht B0 B s st u z _ wd sl (PostF.bind h fun ws st1 s1 vs l1 wd1 r1 h1=>?_)
 obtain⟨ds,e,h1⟩:=PostF.of_of h1
 have rl:=asDs_ok r1 e
 obtain⟨hz,h1⟩:=PostF.of_chk h1
 exact⟨by rw[←rl.length];exact szL hz,fun p hp=>PostF.fresh h1 wd1 rl hp⟩
def eF (m:FM):EM:=fun u=>M.bind (m u) fun xs=>M.pure (.val (.lst xs))
theorem me_f {e:Expr} {m:FM} (h:MF P e m):ME P e (eF m):=by
 obtain⟨t,pt,ht⟩:=h.out
 refine ME.mk' pt fun B0 B s st u z Q wd sl h=>ht B0 B s st u z _ wd sl ?_
 unfold eF M.bind at h
 cases e:m u st with
 | ok xs st'=>
  rw[e] at h
  exact fun s' p vs l w nb hp r=>h ⟨s'.io,upd s'.F p (.lst vs),s'.H⟩ (.ref p) (l.trans (freeze_le w)) (freeze_wd w nb hp) (.lst upd_same (r.mono (freeze_le w).fr (freeze_le w).io))
 | err c x st'=>rw[e] at h;exact h
 | bad=>rw[e] at h;exact h
end
end M3
namespace M3
open PySem PySem.Spec PyProof.Rows L2
def OpM (P:P3) (f:Value→Value→Sem Value) (g:W→W→Option W):Prop:=∃r,OpR P.X f r∧∀(B:Addr→Prop) (s:S3) (st:Store) (w1 w2 w:W) (v1 v2:V) (Q:VK),Wd P.G B st s→RepW P.G P.hx B s w1 v1→RepW P.G P.hx B s w2 v2→
 g w1 w2=some w→(∀(s':S3) (v:V),Le B s s'→Wd P.G B st s'→RepW P.G P.hx B s' w v→Q v s'.H)→r v1 v2 s.H Q
def eBin (g:W→W→Option W) (a b:EM):EM:=fun u=>M.bind (a u) fun x=>M.bind (b u) fun y=>M.of (g x y)
section
variable {P:P3} {pos:Pos} {a b c:Expr} {ma mb mc:EM} {g g':W→W→Option W}
theorem op_use {R:R2} (h:OpM P f g) {B0 B:Addr→Prop} {s:S3} {st:Store} {u:Sl3} {z:L2.St} {Q:VK} {ta tb:TE}
  (ha:∀(B0 B:Addr→Prop) (s:S3) (st:Store) (u:Sl3) (z:L2.St) (Q:VK),Wd P.G B st s→Slo P.G P.hx B0 B s u z→Post P.G B (RepW P.G P.hx B) (fun c d H=>P.wx c d z H) s Q (ma u st)→ta z s.H Q)
  (hb:∀(B0 B:Addr→Prop) (s:S3) (st:Store) (u:Sl3) (z:L2.St) (Q:VK),Wd P.G B st s→Slo P.G P.hx B0 B s u z→Post P.G B (RepW P.G P.hx B) (fun c d H=>P.wx c d z H) s Q (mb u st)→tb z s.H Q)
  (hr:∀(B:Addr→Prop) (s:S3) (st:Store) (w1 w2 w:W) (v1 v2:V) (Q:VK),Wd P.G B st s→RepW P.G P.hx B s w1 v1→RepW P.G P.hx B s w2 v2→
   g w1 w2=some w→(∀(s':S3) (v:V),Le B s s'→Wd P.G B st s'→RepW P.G P.hx B s' w v→Q v s'.H)→R v1 v2 s.H Q)
  (wd:Wd P.G B st s) (sl:Slo P.G P.hx B0 B s u z) (hp:Post P.G B (RepW P.G P.hx B) (fun c d H=>P.wx c d z H) s Q (eBin g ma mb u st)):tOp R ta tb z s.H Q:=by
 refine ha B0 B s st u z _ wd sl (Post.bind hp fun w1 st1 s1 v1 l1 wd1 r1 h1=>?_)
 refine hb B0 B s1 st1 u z _ wd1 (sl.mono l1) (Post.bind h1 fun w2 st2 s2 v2 l2 wd2 r2 h2=>?_)
 cases e:g w1 w2 with
 | none=>rw[e] at h2;exact h2.elim
 | some w=>rw[e] at h2;exact hr B s2 st2 w1 w2 w v1 v2 Q wd2 (r1.mono l2) r2 e fun s' v l w' r=>h2 s' v l w' r
theorem me_bin {op:Operator} (h:OpM P (binaryOp op) g) (ha:ME P a ma) (hb:ME P b mb):ME P (.BinOp a op b pos) (eBin g ma mb):=by
 obtain⟨ta,pa,ha⟩:=ha.out
 obtain⟨tb,pb,hb⟩:=hb.out
 obtain⟨r,hr,hq⟩:=id h
 exact ME.mk' (pe_op hr pa pb) fun B0 B s st u z Q wd sl hp=>op_use h ha hb hq wd sl hp
theorem me_cmp {op:CmpOp} (h:OpM P (compareOp op) g) (ha:ME P a ma) (hb:ME P b mb) (hm:behindInMarks op b=false):ME P (.Compare a [op] [b] pos) (eBin g ma mb):=by
 obtain⟨ta,pa,ha⟩:=ha.out
 obtain⟨tb,pb,hb⟩:=hb.out
 obtain⟨r,hr,hq⟩:=id h
 exact ME.mk' (pe_cmpR hr pa pb hm) fun B0 B s st u z Q wd sl hp=>op_use h ha hb hq wd sl hp
def W.bool:W→Option Bool
 | .val (.bl b)=>some b
 | _=>none
theorem bool_inv {w:M3.W} {k:Bool} (e:w.bool=some k):w=.val (.bl k):=by
 unfold W.bool at e
 split at e
 ·cases e;rfl
 ·cases e
def tOf (m:EM):TM:=fun u=>M.bind (m u) fun w=>M.of w.bool
theorem mt_cmp {op:CmpOp} (h:OpM P (compareOp op) g) (ha:ME P a ma) (hb:ME P b mb) (hm:behindInMarks op b=false):MT P (.Compare a [op] [b] pos) (tOf (eBin g ma mb)):=by
 obtain⟨ta,pa,ha⟩:=ha.out
 obtain⟨tb,pb,hb⟩:=hb.out
 obtain⟨r,hr,hq⟩:=id h
 refine MT.mk' (pt_cmpR hr pa pb hm) fun B0 B s st u z Q wd sl hp=>?_
 refine op_use h ha hb hq wd sl (Post.bind hp fun w st1 s1 v l1 wd1 r1 h1=>?_)
 obtain⟨k,e,h1⟩:∃k,w.bool=some k∧Post P.G B (fun _ a b=>a=b) (fun c d H=>P.wx c d z H) s1 Q (.ok k st1):=by
  cases e:w.bool with
  | none=>rw[e] at h1;exact h1.elim
  | some k=>rw[e] at h1;exact⟨k,rfl,h1⟩
 obtain rfl:=bool_inv e
 cases r1
 exact⟨k,rfl,h1.pure wd1 rfl⟩
end
def W.ls:W→Option (List D)
 | .val (.lst xs)=>some xs
 | .bor xs=>some xs
 | _=>none
def addF:W→W→Option W
 | .val (.int i),.val (.int j)=>some (.val (.int (i+j)))
 | .val (.str a),.val (.str b)=>if a.length+b.length≤1000000 then some (.val (.str (a++b))) else none
 | .val (.tup xs),.val (.tup ys)=>if xs.length+ys.length≤1000000 then some (.val (.tup (xs++ys))) else none
 | x,y=>match x.ls,y.ls with
  | some xs,some ys=>if xs.length+ys.length≤1000000 then some (.val (.lst (xs++ys))) else none
  | _,_=>none
theorem ls_ok {G:G3} {X:Hex} {B:Addr→Prop} {s:S3} {st:Store} {w:W} {v:V} {xs:List D} (wd:Wd G B st s) (r:RepW G X B s w v) (e:w.ls=some xs):∃p vs,v=.ref p∧s.H p=some (.lst vs)∧RepL G.R s.F s.io xs vs:=by
 cases w with
 | val d=>
  cases d with
  | lst ys=>cases e;cases r with | lst h r=>exact⟨_,_,rfl,wd.sub _ _ h,r⟩
  | _=>cases e
 | bor ys=>cases e;obtain⟨p,vs,rfl,b,h,r⟩:=r;exact⟨p,vs,rfl,h,r⟩
 | _=>cases e
section
variable {P:P3}
theorem om_add:OpM P (binaryOp .Add) addF:=by
 refine⟨_,op_add.or (op_add_str.or (op_catZ.or op_cat)),fun B s st w1 w2 w v1 v2 Q wd r1 r2 e k=>?_⟩
 unfold addF at e
 split at e
 ·cases e;cases r1;cases r2;exact .inl ⟨_,_,rfl,rfl,k s _ (Le.refl _) wd .int⟩
 ·split at e
  ·rename_i hz
   cases e;cases r1;cases r2
   exact .inr (.inl ⟨_,_,rfl,rfl,szL hz,k s _ (Le.refl _) wd .str⟩)
  ·cases e
 ·split at e
  ·rename_i xs ys hz
   cases e
   cases r1 with
   | tup s1 q1=>
    cases r2 with
    | tup s2 q2=>
     have hs:=wd.sub
     refine .inr (.inr (.inl ⟨_,_,_,_,rfl,rfl,(s1.mono hs).sq,(s2.mono hs).sq,by rw[←q1.length,←q2.length];exact szL hz,fun z=>?_,fun z1 z2=>?_,fun z1 z2=>?_⟩))
     ·subst z
      cases q1
      exact k s _ (Le.refl _) wd (.tup s2 q2)
     ·subst z2
      cases q2
      rw[List.append_nil] at k
      exact k s _ (Le.refl _) wd (.tup s1 q1)
     ·exact wd.newT (q1.append q2) fun s' v l w r=>k s' v l w r
  ·cases e
 ·split at e
  ·rename_i e1 e2
   obtain⟨p,vs,rfl,hp,rp⟩:=ls_ok wd r1 e1
   obtain⟨q,us,rfl,hq,rq⟩:=ls_ok wd r2 e2
   split at e
   ·rename_i hz
    cases e
    refine Or.inr (Or.inr (Or.inr ⟨p,q,vs,us,rfl,rfl,hp,hq,by rw[←rp.length,←rq.length];exact szL hz,fun l hl=>?_⟩))
    obtain⟨wd2,l2⟩:=wd.froz hl (.lst (vs++us))
    exact k _ _ l2 wd2 (.lst upd_same ((rp.append rq).mono l2.fr l2.io))
   ·cases e
  ·cases e
def intF (C:Int→Int→Bool) (f:Int→Int→D):W→W→Option W
 | .val (.int i),.val (.int j)=>if C i j=true then some (.val (f i j)) else none
 | _,_=>none
theorem om_int {f:Value→Value→Sem Value} {C:Int→Int→Prop} {Cb:Int→Int→Bool} {g:Int→Int→V} {gd:Int→Int→D} (h:OpR P.X f (rI C g)) (hC:∀i j,Cb i j=true→C i j) (hg:∀i j K F io,Rep K F io (gd i j) (g i j)):OpM P f (intF Cb gd):=by
 refine⟨_,h,fun B s st w1 w2 w v1 v2 Q wd r1 r2 e k=>?_⟩
 unfold intF at e
 split at e
 ·split at e
  ·rename_i hc
   cases e;cases r1;cases r2
   exact⟨_,_,rfl,rfl,hC _ _ hc,k s _ (Le.refl _) wd (hg _ _ _ _ _)⟩
  ·cases e
 ·cases e
theorem om_int0 {f:Value→Value→Sem Value} {g:Int→Int→V} {gd:Int→Int→D} (h:OpR P.X f (rI0 g)) (hg:∀i j K F io,Rep K F io (gd i j) (g i j)):OpM P f (intF (fun _ _=>true) gd):=by
 refine⟨_,h,fun B s st w1 w2 w v1 v2 Q wd r1 r2 e k=>?_⟩
 unfold intF at e
 split at e
 ·rw[if_pos rfl] at e
  cases e;cases r1;cases r2
  exact⟨_,_,rfl,rfl,k s _ (Le.refl _) wd (hg _ _ _ _ _)⟩
 ·cases e
def subF:W→W→Option W:=intF (fun _ _=>true) fun i j=>.int (i - j)
def modF:W→W→Option W:=intF (fun _ j=>decide (0<j)) fun i j=>.int (i % j)
def divF:W→W→Option W:=intF (fun _ j=>decide (0<j∧j<1073741824)) fun i j=>.int (i / j)
def powF:W→W→Option W:=intF (fun i j=>decide (0≤j∧j≤1000∧i.natAbs<1000000)) fun i j=>.int (i ^ j.toNat)
def ltF:W→W→Option W:=intF (fun _ _=>true) fun i j=>.bl (decide (i<j))
def leF:W→W→Option W:=intF (fun _ _=>true) fun i j=>.bl (decide (i≤j))
def gtF:W→W→Option W:=intF (fun _ _=>true) fun i j=>.bl (decide (j<i))
def geF:W→W→Option W:=intF (fun _ _=>true) fun i j=>.bl (decide (j≤i))
theorem om_sub:OpM P (binaryOp .Sub) subF:=om_int0 op_sub fun _ _ _ _ _=>.int
theorem om_mod:OpM P (binaryOp .Mod) modF:=om_int op_mod (fun i j h=>of_decide_eq_true h) fun _ _ _ _ _=>.int
theorem om_div:OpM P (binaryOp .FloorDiv) divF:=om_int op_fdiv (fun i j h=>of_decide_eq_true (p:=0<j∧j<1073741824) h) fun _ _ _ _ _=>.int
theorem om_pow:OpM P (binaryOp .Pow) powF:=om_int op_pow (fun i j h=>by have:=of_decide_eq_true (p:=0≤j∧j≤1000∧i.natAbs<1000000) h;exact⟨this.1,by omega,by omega⟩) fun _ _ _ _ _=>.int
theorem om_lt:OpM P (compareOp .Lt) ltF:=om_int0 op_lt fun _ _ _ _ _=>.bl
theorem om_le:OpM P (compareOp .LtE) leF:=om_int0 op_le fun _ _ _ _ _=>.bl
theorem om_gt:OpM P (compareOp .Gt) gtF:=om_int0 op_gt fun _ _ _ _ _=>.bl
theorem om_ge:OpM P (compareOp .GtE) geF:=om_int0 op_ge fun _ _ _ _ _=>.bl
def mulC (i j:Int):Bool:=decide (i.natAbs.log2+j.natAbs.log2<100000000)
def MulS (x:Str) (n:Int):Bool:=decide (0≤n∧n≤1000∧x.length≤1000)
def mulF:W→W→Option W
 | .val (.int i),.val (.int j)=>if mulC i j=true then some (.val (.int (i * j))) else none
 | .val (.str x),.val (.int j)=>if MulS x j=true then some (.val (.str (Txt.mul x j))) else none
 | _,_=>none
theorem bits_log (x:Int):Builtin.Int.intBits x≤x.natAbs.log2+1:=by simp only[Builtin.Int.intBits];split <;> omega
theorem line_bits:bitsLine=2 ^ 27:=by decide
theorem mulC_ok {i j:Int} (h:mulC i j=true):IntMulOk i j:=fun big=>by
 have few:i.natAbs.log2+j.natAbs.log2<100000000:=of_decide_eq_true h
 have far:=of_decide_eq_true (show decide _=true from((Bool.and_eq_true _ _).mp big).2)
 have li:=bits_log i
 have lj:=bits_log j
 simp only[line_bits] at far
 omega
theorem MulS_ok {x:Str} {n:Int} (h:MulS x n=true):MulOk x n:=by
 obtain⟨h0,h1,h2⟩:=of_decide_eq_true h
 refine⟨?_,fun hn _=>?_,fun hn _=>?_⟩
 ·rw[Bool.or_eq_false_iff]
  exact⟨decide_eq_false (by omega),decide_eq_false (by omega)⟩
 ·intro z
  have:(1000:Int)≤(2 ^ 63 - 1) / n:=by
   rw[Int.le_ediv_iff_mul_le (by omega)]
   omega
  omega
 ·have long:x.length * n.toNat≤1000 * 1000:=Nat.mul_le_mul h2 (by omega)
  have line:=szL (n:=1000 * 1000) (by decide)
  unfold Builtin.Str.tooLong
  exact decide_eq_false fun q=>by omega
theorem om_mul:OpM P (binaryOp .Mult) mulF:=by
 have hI:OpR P.X (binaryOp .Mult) (rI (fun i j=>IntMulOk i j) fun i j=>.int (i * j)):=opI fun _ _ _ _ _ _ _ hc q=>mul_int q hc
 have hS:OpR P.X (binaryOp .Mult) (fun x y H Q=>∃a n,x=.str a∧y=.int n∧MulOk a n∧Q (.str (Txt.mul a n)) H):=by
  intro pins s z H x y v u Q I rx ry h
  obtain⟨a,n,rfl,rfl,hm,q⟩:=h
  obtain⟨t,rfl⟩:=rx
  obtain⟨t2,rfl⟩:=ry
  exact SB.mul hm fun t' k=>⟨.str (Txt.mul a n),H,I.tok _,⟨_,rfl⟩,q⟩
 refine⟨_,hI.or hS,fun B s st w1 w2 w v1 v2 Q wd r1 r2 e k=>?_⟩
 unfold mulF at e
 split at e
 ·split at e
  ·rename_i hc
   cases e;cases r1;cases r2
   exact .inl ⟨_,_,rfl,rfl,mulC_ok hc,k s _ (Le.refl _) wd .int⟩
  ·cases e
 ·split at e
  ·rename_i hc
   cases e;cases r1;cases r2
   exact .inr ⟨_,_,rfl,rfl,MulS_ok hc,k s _ (Le.refl _) wd .str⟩
  ·cases e
 ·cases e
mutual
def D.py:D→Option PyData
 | .non=>some .none
 | .bl b=>some (.bool b)
 | .int i=>some (.int i)
 | .str x=>some (.str x)
 | .tup xs=>(D.pys xs).map .tuple
 | .lst xs=>(D.pys xs).map .list
 | .ro xs=>(D.pys xs).map .list
 | .ctup xs=>(D.pys xs).map .tuple
 | .ty _=>none
 | .ref _=>none
 | .dict _ _=>none
 | .dd _ _=>none
 | .fn _ _=>none
def D.pys:List D→Option (List PyData)
 | []=>some []
 | d :: ds=>match D.py d,D.pys ds with
  | some x,some xs=>some (x :: xs)
  | _,_=>none
end
section
variable {K:KW} {F:Hp} {io:Io}
mutual
theorem py_ok:∀{d:D} {v:V} {x:PyData},Rep K F io d v→d.py=some x→Dp K.K F v x
 | _,_,_,.non,e=>by rw[D.py] at e;cases e;exact .non
 | _,_,_,.bl,e=>by rw[D.py] at e;cases e;exact .bl _
 | _,_,_,.int,e=>by rw[D.py] at e;cases e;exact .int _
 | _,_,_,.str,e=>by rw[D.py] at e;cases e;exact .str _
 | _,_,_,.ty,e=>by rw[D.py] at e;cases e
 | _,_,_,.ref _,e=>by rw[D.py] at e;cases e
 | _,_,_,.dict _ _ _,e=>by rw[D.py] at e;cases e
 | _,_,_,.dd _ _ _ _ _,e=>by rw[D.py] at e;cases e
 | _,_,_,.fn _ _ _ _ _,e=>by rw[D.py] at e;cases e
 | .tup xs,_,x,.tup s r,e=>by
  rw[D.py] at e
  cases h:D.pys xs with
  | none=>rw[h] at e;cases e
  | some ys=>rw[h] at e;cases e;exact .tup s.sq (pys_ok r h)
 | .ctup xs,_,x,.ctup s r,e=>by
  rw[D.py] at e
  cases h:D.pys xs with
  | none=>rw[h] at e;cases e
  | some ys=>rw[h] at e;cases e;exact .tup s (pys_ok r h)
 | .lst xs,_,x,.lst s r,e=>by
  rw[D.py] at e
  cases h:D.pys xs with
  | none=>rw[h] at e;cases e
  | some ys=>rw[h] at e;cases e;exact .lst (.inl (.inl s)) (pys_ok r h)
 | .ro xs,_,x,.ro s r,e=>by
  rw[D.py] at e
  cases h:D.pys xs with
  | none=>rw[h] at e;cases e
  | some ys=>rw[h] at e;cases e;exact .lst s (pys_ok r h)
theorem pys_ok:∀{ds:List D} {vs:List V} {xs:List PyData},RepL K F io ds vs→D.pys ds=some xs→DpAll K.K F vs xs
 | _,_,_,.nil,e=>by rw[D.pys] at e;cases e;exact .nil
 | d :: ds,_,xs,.cons r t,e=>by
  rw[D.pys] at e
  cases h:D.py d with
  | none=>rw[h] at e;cases e
  | some x=>
   cases h2:D.pys ds with
   | none=>rw[h,h2] at e;cases e
   | some ys=>rw[h,h2] at e;cases e;exact .cons (py_ok r h) (pys_ok t h2)
end
end
def D.eqv? (a b:D):Option Bool:=match a.py,b.py with
 | some x,some y=>if SeqAt.shaped x=true∧SeqAt.shaped y=true then some (PyData.eqv x y) else none
 | _,_=>none
def eqF (neg:Bool) (x y:W):Option W:=match x.rd,y.rd with
 | some a,some b=>(a.eqv? b).map fun k=>.val (.bl (if neg then !k else k))
 | _,_=>none
theorem eqv_of {a b:D} {k:Bool} (h:a.eqv? b=some k):∃x y,a.py=some x∧b.py=some y∧SeqAt.shaped x=true∧SeqAt.shaped y=true∧k=PyData.eqv x y:=by
 unfold D.eqv? at h
 split at h
 ·rename_i x y e1 e2
  split at h
  ·rename_i hs
   cases h
   exact⟨x,y,e1,e2,hs.1,hs.2,rfl⟩
  ·cases h
 ·cases h
theorem eqF_ok {B:Addr→Prop} {s:S3} {st:Store} {w1 w2 w:W} {v1 v2:V} {neg:Bool} (wd:Wd P.G B st s) (r1:RepW P.G P.hx B s w1 v1) (r2:RepW P.G P.hx B s w2 v2) (e:eqF neg w1 w2=some w) :
  ∃x y,Dp P.X.K s.H v1 x∧Dp P.X.K s.H v2 y∧SeqAt.shaped x=true∧SeqAt.shaped y=true∧w=.val (.bl (if neg then !PyData.eqv x y else PyData.eqv x y)):=by
 unfold eqF at e
 split at e
 ·rename_i a b e1 e2
  cases h:a.eqv? b with
  | none=>rw[h] at e;cases e
  | some k=>
   rw[h] at e
   cases e
   obtain⟨x,y,p1,p2,q1,q2,rfl⟩:=eqv_of h
   rw[P.hK]
   exact⟨x,y,py_ok (rd_ok wd r1 e1) p1,py_ok (rd_ok wd r2 e2) p2,q1,q2,rfl⟩
 ·cases e
theorem om_eq (hu:P.X.A.units+64<cLine):OpM P (compareOp .Eq) (eqF false):=by
 refine⟨_,op_eqD hu,fun B s st w1 w2 w v1 v2 Q wd r1 r2 e k=>?_⟩
 obtain⟨x,y,h1,h2,s1,s2,rfl⟩:=eqF_ok wd r1 r2 e
 exact⟨x,y,h1,h2,s1,s2,k s _ (Le.refl _) wd .bl⟩
theorem om_ne (hu:P.X.A.units+64<cLine):OpM P (compareOp .NotEq) (eqF true):=by
 refine⟨_,op_neD hu,fun B s st w1 w2 w v1 v2 Q wd r1 r2 e k=>?_⟩
 obtain⟨x,y,h1,h2,s1,s2,rfl⟩:=eqF_ok wd r1 r2 e
 exact⟨x,y,h1,h2,s1,s2,k s _ (Le.refl _) wd .bl⟩
def isNF (neg:Bool):W→W→Option W
 | .val d,.val .non=>some (.val (.bl (match d with | .non=>!neg | _=>neg)))
 | .bor _,.val .non=>some (.val (.bl neg))
 | .exn _ _,.val .non=>some (.val (.bl neg))
 | _,_=>none
theorem isNF_ok {B:Addr→Prop} {s:S3} {w1 w2 w:W} {v1 v2:V} {neg:Bool} (r1:RepW P.G P.hx B s w1 v1) (r2:RepW P.G P.hx B s w2 v2) (e:isNF neg w1 w2=some w):v2=.non∧w=.val (.bl (if neg then !decide (v1=.non) else decide (v1=.non))):=by
 unfold isNF at e
 split at e
 ·cases e
  cases r2
  refine⟨rfl,?_⟩
  rename_i d
  cases r1 <;> cases neg <;> simp
 ·cases e
  cases r2
  refine⟨rfl,?_⟩
  obtain⟨p,vs,rfl,_⟩:=r1
  cases neg <;> simp
 ·cases e
  cases r2
  refine⟨rfl,?_⟩
  obtain⟨a,_,_,rfl,_⟩:=r1
  cases neg <;> simp
 ·cases e
theorem om_is:OpM P (compareOp .Is) (isNF false):=by
 refine⟨_,op_isN,fun B s st w1 w2 w v1 v2 Q wd r1 r2 e k=>?_⟩
 obtain⟨h1,rfl⟩:=isNF_ok r1 r2 e
 exact⟨h1,k s _ (Le.refl _) wd .bl⟩
theorem om_isnot:OpM P (compareOp .IsNot) (isNF true):=by
 refine⟨_,op_notN,fun B s st w1 w2 w v1 v2 Q wd r1 r2 e k=>?_⟩
 obtain⟨h1,rfl⟩:=isNF_ok r1 r2 e
 exact⟨h1,k s _ (Le.refl _) wd .bl⟩
end
end M3
namespace M3
open PySem PySem.Spec PyProof.Rows L2
def D.tru:D→Option Bool
 | .non=>some false
 | .bl b=>some b
 | .int i=>some (i != 0)
 | .str y=>if y.length≤1000000 then some (y.length != 0) else none
 | .tup xs=>some (!xs.isEmpty)
 | .ctup xs=>some (!xs.isEmpty)
 | .lst xs=>some (!xs.isEmpty)
 | .ro xs=>some (!xs.isEmpty)
 | _=>none
def W.tru (w:W):Option Bool:=w.rd.bind D.tru
theorem isEmpty_repL {K:KW} {F:Hp} {io:Io} {xs:List D} {vs:List V} (r:RepL K F io xs vs):xs.isEmpty=vs.isEmpty:=by cases r <;> rfl
theorem tru_rep {K:KW} {F:Hp} {io:Io} {d:D} {v:V} {k:Bool} (r:Rep K F io d v) (e:d.tru=some k):TruV K.K v F k:=by
 cases r with
 | non=>cases e;rfl
 | bl=>cases e;rfl
 | int=>cases e;rfl
 | @str x=>
  have e:(if x.length≤1000000 then some (x.length != 0) else none)=some k:=e
  split at e
  ·rename_i hl
   cases e
   refine⟨szL hl,?_⟩
   cases hx:x.length with
   | zero=>rfl
   | succ n=>rfl
  ·cases e
 | ty=>cases e
 | tup s q=>cases e;exact .inr (.inl ⟨_,s.sq,by rw[isEmpty_repL q]⟩)
 | ctup s q=>cases e;exact .inr (.inl ⟨_,s,by rw[isEmpty_repL q]⟩)
 | lst s q=>cases e;exact .inl ⟨_,.inl (.inl s),by rw[isEmpty_repL q]⟩
 | ro s q=>cases e;exact .inl ⟨_,s,by rw[isEmpty_repL q]⟩
 | _=>cases e
theorem tru_ok3 {P:P3} {B:Addr→Prop} {s:S3} {st:Store} {w:W} {v:V} {k:Bool} (wd:Wd P.G B st s) (r:RepW P.G P.hx B s w v) (e:w.tru=some k):TruV P.X.K v s.H k:=by
 unfold W.tru at e
 cases h:w.rd with
 | none=>rw[h] at e;cases e
 | some d=>rw[h] at e;rw[P.hK];exact tru_rep (rd_ok wd r h) e
def tTru (m:EM):TM:=fun u=>M.bind (m u) fun w=>M.of w.tru
section
variable {P:P3} {pos:Pos} {a b c:Expr} {rest:List Expr} {ma mb mc:EM}
theorem of_eq {α:Type} {o:Option α} {st:Store} {G:G3} {B:Addr→Prop} {β:Type} {R:S3→α→β→Prop} {E:XK} {s:S3} {Q:β→Hp→Prop} (h:Post G B R E s Q (M.of o st)):∃x,o=some x∧Post G B R E s Q (.ok x st):=by
 cases o with
 | none=>exact h.elim
 | some x=>exact⟨x,rfl,h⟩
theorem mt_tru (ha:ME P a ma) (he:∀whole,isTrue a P.X.env whole=(do let v ← whole;standAt a.pos;holding [v] (truthy v)):=by intro _;rfl):MT P a (tTru ma):=by
 obtain⟨ta,pa,ha⟩:=ha.out
 refine MT.mk' (pt_truth pa he) fun B0 B s st u z Q wd sl hp=>ha B0 B s st u z _ wd sl (Post.bind hp fun w st1 s1 v l1 wd1 r1 h1=>?_)
 obtain⟨k,e,h1⟩:=of_eq h1
 exact⟨k,tru_ok3 wd1 r1 e,h1.pure wd1 rfl⟩
def eAnd (a b:EM):EM:=fun u=>M.bind (a u) fun w=>M.bind (M.of w.tru) fun k=>if k=true then b u else M.pure w
def eOr (a b:EM):EM:=fun u=>M.bind (a u) fun w=>M.bind (M.of w.tru) fun k=>if k=true then M.pure w else b u
def eNot (a:EM):EM:=fun u=>M.bind (a u) fun w=>M.bind (M.of w.tru) fun k=>M.pure (.val (.bl (!k)))
theorem me_one {op} (ha:ME P a ma):ME P (.BoolOp op [a] pos) ma:=⟨pe_one ha.pe⟩
theorem me_and (ha:ME P a ma) (hb:ME P (.BoolOp .And (b :: rest) pos) mb):ME P (.BoolOp .And (a :: b :: rest) pos) (eAnd ma mb):=by
 obtain⟨ta,pa,ha⟩:=ha.out
 obtain⟨tb,pb,hb⟩:=hb.out
 refine ME.mk' (pe_andT pa pb) fun B0 B s st u z Q wd sl hp=>ha B0 B s st u z _ wd sl (Post.bind hp fun w st1 s1 v l1 wd1 r1 h1=>?_)
 obtain⟨k,e,h1⟩:=Post.of_of h1
 refine⟨k,tru_ok3 wd1 r1 e,?_⟩
 cases k with
 | true=>exact hb B0 B s1 st1 u z Q wd1 (sl.mono l1) h1
 | false=>exact h1.pure wd1 r1
theorem me_or (ha:ME P a ma) (hb:ME P (.BoolOp .Or (b :: rest) pos) mb):ME P (.BoolOp .Or (a :: b :: rest) pos) (eOr ma mb):=by
 obtain⟨ta,pa,ha⟩:=ha.out
 obtain⟨tb,pb,hb⟩:=hb.out
 refine ME.mk' (pe_orT pa pb) fun B0 B s st u z Q wd sl hp=>ha B0 B s st u z _ wd sl (Post.bind hp fun w st1 s1 v l1 wd1 r1 h1=>?_)
 obtain⟨k,e,h1⟩:=Post.of_of h1
 refine⟨k,tru_ok3 wd1 r1 e,?_⟩
 cases k with
 | true=>exact h1.pure wd1 r1
 | false=>exact hb B0 B s1 st1 u z Q wd1 (sl.mono l1) h1
def tAnd3 (a b:TM):TM:=fun u=>M.bind (a u) fun k=>if k=true then b u else M.pure false
def tOr3 (a b:TM):TM:=fun u=>M.bind (a u) fun k=>if k=true then M.pure true else b u
def tNot3 (a:TM):TM:=fun u=>M.bind (a u) fun k=>M.pure (!k)
variable {na nb:TM}
theorem mw_and1 (ha:MT P a na):MW P (.BoolOp .And [a] pos) na:=⟨pw_and1 ha.pt⟩
theorem mw_or1 (ha:MT P a na):MW P (.BoolOp .Or [a] pos) na:=⟨pw_or1 ha.pt⟩
theorem mw_and (ha:MT P a na) (hb:MW P (.BoolOp .And (b :: rest) pos) nb):MW P (.BoolOp .And (a :: b :: rest) pos) (tAnd3 na nb):=by
 obtain⟨ta,pa,ha⟩:=ha.out
 obtain⟨tb,pb,hb⟩:=hb.out
 refine MW.mk' (pw_and pa pb) fun B0 B s st u z Q wd sl hp=>ha B0 B s st u z _ wd sl (Post.bind hp fun k st1 s1 k' l1 wd1 r1 h1=>?_)
 subst r1
 cases k with
 | true=>exact hb B0 B s1 st1 u z Q wd1 (sl.mono l1) h1
 | false=>exact h1.pure wd1 rfl
theorem mw_or (ha:MT P a na) (hb:MW P (.BoolOp .Or (b :: rest) pos) nb):MW P (.BoolOp .Or (a :: b :: rest) pos) (tOr3 na nb):=by
 obtain⟨ta,pa,ha⟩:=ha.out
 obtain⟨tb,pb,hb⟩:=hb.out
 refine MW.mk' (pw_or pa pb) fun B0 B s st u z Q wd sl hp=>ha B0 B s st u z _ wd sl (Post.bind hp fun k st1 s1 k' l1 wd1 r1 h1=>?_)
 subst r1
 cases k with
 | true=>exact h1.pure wd1 rfl
 | false=>exact hb B0 B s1 st1 u z Q wd1 (sl.mono l1) h1
theorem mt_w (h:MW P a na):MT P a na:=⟨h.pw.pt⟩
theorem mt_not (ha:MT P a na):MT P (.UnaryOp .Not a pos) (tNot3 na):=by
 obtain⟨ta,pa,ha⟩:=ha.out
 refine MT.mk' (pt_not pa) fun B0 B s st u z Q wd sl hp=>ha B0 B s st u z _ wd sl (Post.bind hp fun k st1 s1 k' l1 wd1 r1 h1=>?_)
 subst r1
 exact h1.pure wd1 rfl
def eChain (g g':W→W→Option W) (a b c:EM):EM:=fun u=>M.bind (a u) fun x=>M.bind (b u) fun y=>M.bind (M.of (g x y)) fun k=>M.bind (M.of k.bool) fun k=>if k=true then M.bind (c u) fun w=>M.of (g' y w) else M.pure (.val (.bl false))
theorem bool_ok {G:G3} {X:Hex} {B:Addr→Prop} {s:S3} {w:W} {v:V} {k:Bool} (r:RepW G X B s w v) (e:w.bool=some k):v=.bl k:=by
 obtain rfl:=bool_inv e
 cases r
 rfl
theorem me_chain {op op':CmpOp} {g g':W→W→Option W} (h:OpM P (compareOp op) g) (h':OpM P (compareOp op') g') (ha:ME P a ma) (hb:ME P b mb) (hc:ME P c mc)
  (hm:lastMarks [op,op'] [b,c]=false:=by with_unfolding_all rfl):ME P (.Compare a [op,op'] [b,c] pos) (eChain g g' ma mb mc):=by
 obtain⟨ta,pa,ha⟩:=ha.out
 obtain⟨tb,pb,hb⟩:=hb.out
 obtain⟨tc,pc,hc⟩:=hc.out
 obtain⟨r,hr,hq⟩:=h
 obtain⟨r',hr',hq'⟩:=h'
 refine ME.mk' (pe_chain hr hr' pa pb pc hm) fun B0 B s st u z Q wd sl hp=>ha B0 B s st u z _ wd sl (Post.bind hp fun w1 st1 s1 v1 l1 wd1 r1 h1=>?_)
 refine hb B0 B s1 st1 u z _ wd1 (sl.mono l1) (Post.bind h1 fun w2 st2 s2 v2 l2 wd2 r2 h2=>?_)
 obtain⟨w,e,h2⟩:=Post.of_of h2
 refine hq B s2 st2 w1 w2 w v1 v2 _ wd2 (r1.mono l2) r2 e fun s3 v l3 wd3 r3=>?_
 obtain⟨k,e2,h3⟩:=Post.of_of h2
 refine⟨k,bool_ok r3 e2,?_⟩
 cases k with
 | true=>
  rw[if_pos rfl]
  refine hc B0 B s3 st2 u z _ wd3 (sl.mono ((l1.trans l2).trans l3)) (Post.bind (Post.mono l3 h3) fun w4 st4 s4 v4 l4 wd4 r4 h4=>?_)
  obtain⟨w5,e5,h4⟩:=of_eq h4
  exact hq' B s4 st4 w2 w4 w5 v2 v4 Q wd4 ((r2.mono l3).mono l4) r4 e5 fun s5 v5 l5 wd5 r5=>h4 s5 v5 l5 wd5 r5
 | false=>
  rw[if_neg Bool.false_ne_true]
  exact(Post.mono l3 h3).pure wd3 .bl
def eIf (t:TM) (a b:EM):EM:=fun u=>M.bind (t u) fun k=>if k=true then a u else b u
end
def D.items:D→Option (List D)
 | .tup xs=>some xs
 | .ctup xs=>some xs
 | .lst xs=>some xs
 | .ro xs=>some xs
 | _=>none
def ixF (x y:W):Option W:=match x,y with
 | .val (.str z),.val (.int i)=>if z.length≤1000000 then (atI z.cps.toList i).map fun c=>.val (.str ⟨#[c]⟩) else none
 | x,.val (.int i)=>(x.rd.bind D.items).bind fun xs=>(atI xs i).map .val
 | _,_=>none
theorem atI_rep {K:KW} {F:Hp} {io:Io} {xs:List D} {vs:List V} {i:Int} {d:D} (r:RepL K F io xs vs) (e:atI xs i=some d):∃v,atI vs i=some v∧Rep K F io d v:=by
 unfold atI at e⊢
 rw[r.length] at e
 cases h:ixN vs.length i with
 | none=>rw[h] at e;cases e
 | some j=>rw[h] at e;exact r.get e
section
variable {P:P3} {pos:Pos} {a b:Expr} {ma mb:EM}
theorem items_ok {B:Addr→Prop} {s:S3} {st:Store} {w:W} {v:V} {d:D} {xs:List D} (wd:Wd P.G B st s) (r:RepW P.G P.hx B s w v) (e:w.rd=some d) (e2:d.items=some xs) :
  ∃p vs,v=.ref p∧(SqL P.X.K s.H p vs∨SqT P.X.K s.H p vs)∧RepL P.G.R s.F s.io xs vs:=by
 rw[P.hK]
 cases w with
 | val d'=>
  cases e
  cases r with
  | tup h q=>cases e2;exact⟨_,_,rfl,.inr (h.mono wd.sub).sq,q⟩
  | ctup h q=>cases e2;exact⟨_,_,rfl,.inr (same_sqT wd.sub h),q⟩
  | lst h q=>cases e2;exact⟨_,_,rfl,.inl (.inl (.inl (wd.sub _ _ h))),q⟩
  | ro h q=>cases e2;exact⟨_,_,rfl,.inl (same_sqL wd.sub h),q⟩
  | _=>cases e2
 | bor ys=>cases e;cases e2;obtain⟨p,vs,rfl,b,h,r⟩:=r;exact⟨p,vs,rfl,.inl (.inl (.inl h)),r⟩
 | bod ks us=>cases e
 | bdd ks us=>cases e
 | exn c x=>cases e
 | len ys=>cases e;cases e2;obtain⟨p,vs,o,rfl,b,h,r⟩:=r;exact⟨p,vs,rfl,.inl (.inl (.inr ⟨o,h⟩)),r⟩
theorem me_ix (ha:ME P a ma) (hb:ME P b mb) (hs:PlainIx b:=by first | exact fun _ _=>rfl | (intro _ _;rfl)):ME P (.Subscript a b pos) (eBin ixF ma mb):=by
 obtain⟨ta,pa,ha⟩:=ha.out
 obtain⟨tb,pb,hb⟩:=hb.out
 refine ME.mk' (pe_ix ix_seq pa pb hs) fun B0 B s st u z Q wd sl hp=>ha B0 B s st u z _ wd sl (Post.bind hp fun w1 st1 s1 v1 l1 wd1 r1 h1=>?_)
 refine hb B0 B s1 st1 u z _ wd1 (sl.mono l1) (Post.bind h1 fun w2 st2 s2 v2 l2 wd2 r2 h2=>?_)
 obtain⟨w,e,h2⟩:=of_eq h2
 have r1:=r1.mono l2
 unfold ixF at e
 split at e
 ·split at e
  ·rename_i hz
   cases r1;cases r2
   rename_i zs i
   cases h:atI zs.cps.toList i with
   | none=>rw[h] at e;cases e
   | some c=>rw[h] at e;cases e;exact .inr (.inr ⟨zs,i,c,rfl,rfl,szL hz,h,h2.pure wd2 .str⟩)
  ·cases e
 ·rename_i i _
  cases r2
  cases h3:w1.rd with
  | none=>rw[h3] at e;cases e
  | some d=>
   rw[h3] at e
   cases h4:d.items with
   | none=>rw[Option.bind_some,h4] at e;cases e
   | some xs=>
    rw[Option.bind_some,h4,Option.bind_some] at e
    cases h5:atI xs i with
    | none=>rw[h5] at e;cases e
    | some d'=>
     rw[h5] at e
     cases e
     obtain⟨p,vs,rfl,hq,rl⟩:=items_ok wd2 r1 h3 h4
     obtain⟨v,e6,rv⟩:=atI_rep rl h5
     rcases hq with hq | hq
     ·exact .inl ⟨p,vs,i,v,rfl,rfl,hq,e6,h2.pure wd2 rv⟩
     ·exact .inr (.inl ⟨p,vs,i,v,rfl,rfl,hq,e6,h2.pure wd2 rv⟩)
 ·cases e
end
end M3
namespace M3
open PySem PySem.Spec PyProof.Rows L2
section
variable {G:G3} {X:Hex} {B0 B:Addr→Prop} {s:S3} {u:Sl3} {z:L2.St}
theorem get_set {α:Type} {l:List (Option α)} {i j:Nat} {w w':α} (h:(l.set i (some w))[j]?=some (some w')):(i=j∧w'=w)∨(i≠j∧l[j]?=some (some w')):=by
 by_cases e:i=j
 ·subst e
  by_cases hl:i<l.length
  ·rw[List.getElem?_set_self hl] at h;cases h;exact .inl ⟨rfl,rfl⟩
  ·rw[List.getElem?_eq_none (by simpa using hl)] at h;cases h
 ·rw[List.getElem?_set_ne e] at h;exact .inr ⟨e,h⟩
theorem Slo.set {d:D} {v:V} (h:Slo G X B0 B s u z) (r:Rep G.R s.F s.io d v) (i:Nat):Slo G X B0 B s (u.set i (some (.val d))) (z.set i (some v)):=by
 obtain⟨hl,ow,h1,h2⟩:=h
 refine⟨by simpa using hl,ow,fun j w e=>?_,fun j k w w' o1 o2 e1 e2 e=>?_⟩
 ·rcases get_set e with⟨rfl,rfl⟩ | ⟨ne,e⟩
  ·have hi:i<u.length:=by
    rcases Nat.lt_or_ge i u.length with q | q
    ·exact q
    ·rw[List.getElem?_eq_none (by simpa using q)] at e;cases e
   exact⟨v,by rw[List.getElem?_set_self (by omega)],r,fun q=>by cases q⟩
  ·obtain⟨v',e1,r',q⟩:=h1 j w e
   exact⟨v',by rw[List.getElem?_set_ne ne];exact e1,r',q⟩
 ·rcases get_set e1 with⟨_,q⟩ | ⟨_,e1⟩
  ·subst q;cases o1
  ·rcases get_set e2 with⟨_,q⟩ | ⟨_,e2⟩
   ·subst q;cases o2
   ·exact h2 j k w w' o1 o2 e1 e2 e
theorem Slo.del (h:Slo G X B0 B s u z) (i:Nat) (o:Option V):Slo G X B0 B s (u.set i none) (z.set i o):=by
 obtain⟨hl,ow,h1,h2⟩:=h
 have old:∀{j:Nat} {w:M3.W},(u.set i none)[j]?=some (some w)→i≠j∧u[j]?=some (some w):=fun {j w} e=>by
  by_cases q:i=j
  ·subst q
   by_cases hl:i<u.length
   ·rw[List.getElem?_set_self hl] at e;cases e
   ·rw[List.getElem?_eq_none (by simpa using hl)] at e;cases e
  ·rw[List.getElem?_set_ne q] at e;exact⟨q,e⟩
 refine⟨by simpa using hl,ow,fun j w e=>?_,fun j k w w' o1 o2 e1 e2 e=>h2 j k w w' o1 o2 (old e1).2 (old e2).2 e⟩
 obtain⟨ne,e⟩:=old e
 obtain⟨v',e1,r',q⟩:=h1 j w e
 exact⟨v',by rw[List.getElem?_set_ne ne];exact e1,r',q⟩
theorem RepW.wider {B':Addr→Prop} (hb:∀a,B a→B' a) {w:M3.W} {v:V} (r:RepW G X B s w v):RepW G X B' s w v:=by
 cases w with
 | val d=>exact r
 | bor xs=>obtain⟨p,vs,e,b,h,r⟩:=r;exact⟨p,vs,e,hb p b,h,r⟩
 | bod ks us=>obtain⟨p,vs,e,b,h,r⟩:=r;exact⟨p,vs,e,hb p b,h,r⟩
 | bdd ks us=>obtain⟨p,vs,e,b,h,r⟩:=r;exact⟨p,vs,e,hb p b,h,r⟩
 | exn c x=>exact r
 | len xs=>obtain⟨p,vs,o,e,b,h,r⟩:=r;exact⟨p,vs,o,e,hb p b,h,r⟩
theorem own_ref {w:M3.W} {v:V} (o:w.own=true) (r:RepW G X B s w v):∃p,v=.ref p∧B p:=by
 cases w with
 | val d=>cases o
 | bor xs=>obtain⟨p,vs,e,b,h,r⟩:=r;exact⟨p,e,b⟩
 | bod ks us=>obtain⟨p,vs,e,b,h,r⟩:=r;exact⟨p,e,b⟩
 | bdd ks us=>obtain⟨p,vs,e,b,h,r⟩:=r;exact⟨p,e,b⟩
 | exn c x=>cases o
 | len xs=>cases o
theorem Slo.ownW {p:Addr} {w0:M3.W} (h:Slo G X B0 B s u z) (nb:¬B p) (nb0:¬B0 p) (r:RepW G X (plus B p) s w0 (.ref p)) (i:Nat) :
  Slo G X B0 (plus B p) s (u.set i (some w0)) (z.set i (some (.ref p))):=by
 obtain⟨hl,ow,h1,h2⟩:=h
 have at_:∀{j:Nat} {w:M3.W},w.own=true→u[j]?=some (some w)→ow j≠p:=fun {j w} o e q=>by
  obtain⟨v,e1,r,q'⟩:=h1 j _ e
  obtain⟨p',e2,b⟩:=own_ref o r
  obtain⟨e3,_⟩:=q' o
  rw[e2] at e3;cases e3
  exact nb (q▸b)
 refine⟨by simpa using hl,fun j=>if j=i then p else ow j,fun j w e=>?_,fun j k w w' o1 o2 e1 e2 e=>?_⟩
 ·rcases get_set e with⟨rfl,rfl⟩ | ⟨ne,e⟩
  ·have hi:i<u.length:=by
    rcases Nat.lt_or_ge i u.length with q | q
    ·exact q
    ·rw[List.getElem?_eq_none (by simpa using q)] at e;cases e
   exact⟨.ref p,by rw[List.getElem?_set_self (by omega)],r,fun q=>⟨by simp,by simpa using nb0⟩⟩
  ·obtain⟨v',e1,r',q⟩:=h1 j w e
   exact⟨v',by rw[List.getElem?_set_ne ne];exact e1,r'.wider fun a b=>.inl b,fun q'=>by simp only[Ne.symm ne,if_false];exact q q'⟩
 ·rcases get_set e1 with⟨rfl,q⟩ | ⟨n1,e1⟩
  ·rcases get_set e2 with⟨rfl,q⟩ | ⟨n2,e2⟩
   ·rfl
   ·simp only[if_true,Ne.symm n2,if_false] at e
    exact absurd e.symm (at_ o2 e2)
  ·rcases get_set e2 with⟨rfl,q⟩ | ⟨n2,e2⟩
   ·simp only[if_true,Ne.symm n1,if_false] at e
    exact absurd e (at_ o1 e1)
   ·simp only[Ne.symm n1,Ne.symm n2,if_false] at e
    exact h2 j k w w' o1 o2 e1 e2 e
theorem Slo.own {p:Addr} {xs:List D} {vs:List V} (h:Slo G X B0 B s u z) (nb:¬B p) (nb0:¬B0 p) (hp:s.H p=some (.lst vs)) (r:RepL G.R s.F s.io xs vs) (i:Nat) :
  Slo G X B0 (plus B p) s (u.set i (some (.bor xs))) (z.set i (some (.ref p))):=h.ownW (w0:=.bor xs) nb nb0 ⟨p,vs,rfl,.inr rfl,hp,r⟩ i
end
def sNext:SM:=fun u st=>.nx u st
def sSeq (a b:SM):SM:=fun u st=>match a u st with
 | .nx u' st'=>b u' st'
 | r=>r
def sBreak:SM:=fun u st=>.bk u st
def sCont:SM:=fun u st=>.ct u st
def sDrop (m:EM):SM:=fun u st=>match m u st with
 | .ok _ st'=>.nx u st'
 | .err c x st'=>.err c x u st'
 | .bad=>.bad
def sRetN:SM:=fun _ st=>.rt (.val .non) st
def sSet (i:Nat) (m:EM):SM:=fun u st=>match m u st with
 | .ok (.val d) st'=>.nx (u.set i (some (.val d))) st'
 | .ok _ _=>.bad
 | .err c x st'=>.err c x u st'
 | .bad=>.bad
def sOwn (i:Nat) (m:FM):SM:=fun u st=>match m u st with
 | .ok xs st'=>.nx (u.set i (some (.bor xs))) st'
 | .err c x st'=>.err c x u st'
 | .bad=>.bad
def sIf (c:TM) (a b:SM):SM:=fun u st=>match c u st with
 | .ok true st'=>a u st'
 | .ok false st'=>b u st'
 | .err c x st'=>.err c x u st'
 | .bad=>.bad
section
variable {P:P3} {pos:Pos} {e:Expr} {m:EM}
theorem Slo.mono' {G:G3} {X:Hex} {B0 B:Addr→Prop} {s s':S3} {u:Sl3} {z:L2.St} (h:Slo G X B0 B s u z) (l:Le B s s'):Slo G X B0 B s' u z:=Slo.mono l h
theorem mss_nil:MSs P [] sNext:=MSs.mk' pss_nil fun B0 B s o u z D b wd sl h=>h B s z b (Le.refl _) wd sl
theorem seq_post {G:G3} {hx:Hex} {wx:WX} {B0:Addr→Prop} {s:S3} {D:Ends} {a b:SM} {u:Sl3} {o:Store} (h:PostS G hx wx B0 s D (sSeq a b u o)) :
  PostS G hx wx B0 s { D with nx:=fun z H=>∃(B:Addr→Prop) (s':S3) (o':Store) (u':Sl3),s'.H=H∧(∀a,B0 a→B a)∧Le B0 s s'∧Wd G B o' s'∧Slo G hx B0 B s' u' z∧PostS G hx wx B0 s' D (b u' o') } (a u o):=by
 unfold sSeq at h
 cases e:a u o with
 | nx u' o'=>rw[e] at h;exact fun B' s' z' hb l w sl=>⟨B',s',o',u',rfl,hb,l,w,sl,PostS.mono l h⟩
 | rt w o'=>rw[e] at h;exact h
 | bk u' o'=>rw[e] at h;exact h
 | ct u' o'=>rw[e] at h;exact h
 | err c x u' o'=>rw[e] at h;exact h
 | bad=>rw[e] at h;exact h
theorem mss_cons {st:Stmt} {rest:List Stmt} {a b:SM} (h1:MS P st a) (h2:MSs P rest b):MSs P (st :: rest) (sSeq a b):=by
 obtain⟨ta,pa,ha⟩:=h1.out
 obtain⟨tb,pb,hb⟩:=h2.out
 refine MSs.mk' (pss_cons pa pb) fun B0 B s o u z D b0 wd sl h=>?_
 have q:=ha B0 B s o u z _ b0 wd sl (seq_post h)
 show ta { D with nx:=tb D } z s.H
 refine ha B0 B s o u z { D with nx:=tb D } b0 wd sl ?_
 have h':=seq_post h
 cases e:a u o with
 | nx u' o'=>
  rw[e] at h'
  intro B' s' z' hb' l w sl'
  obtain⟨B2,s2,o2,u2,e2,b2,l2,w2,sl2,p2⟩:=h' B' s' z' hb' l w sl'
  rw[←e2]
  exact hb B0 B2 s2 o2 u2 z' D b2 w2 sl2 p2
 | rt w o'=>rw[e] at h';exact h'
 | bk u' o'=>rw[e] at h';exact h'
 | ct u' o'=>rw[e] at h';exact h'
 | err c x u' o'=>rw[e] at h';exact h'
 | bad=>rw[e] at h';exact h'
theorem mss_one {st:Stmt} {a:SM} (h1:MS P st a):MSs P [st] a:=by
 obtain⟨ta,pa,ha⟩:=h1.out
 exact MSs.mk' (pss_one pa) fun B0 B s o u z D b0 wd sl h=>ha B0 B s o u z D b0 wd sl h
theorem ms_drop (he:ME P e m) (hs:swapsWith e none pos.line P.X.env=pure false:=by rfl):MS P (.Expr e pos) (sDrop m):=by
 obtain⟨t,pt,ht⟩:=he.out
 refine MS.mk' (ps_expr pt hs) fun B0 B s o u z D b0 wd sl h=>ht B0 B s o u z _ wd sl ?_
 unfold sDrop at h
 cases e:m u o with
 | ok w st'=>rw[e] at h;exact fun s' v l w r=>h B s' z b0 (l.less b0) w (sl.mono' l)
 | err c x st'=>rw[e] at h;exact fun s' cv dd l w q=>h B s' z cv dd b0 (l.less b0) w (sl.mono' l) q
 | bad=>rw[e] at h;exact h
theorem RepW.ret {G:G3} {X:Hex} {B0 B:Addr→Prop} {s:S3} {d:D} {v:V} (r:RepW G X B s (.val d) v):PostS.RepR G B0 B s (.val d) v:=r
def sRetV (m:EM):SM:=fun u st=>match m u st with
 | .ok (.val d) st'=>.rt (.val d) st'
 | .ok _ _=>.bad
 | .err c x st'=>.err c x u st'
 | .bad=>.bad
theorem ms_ret (he:ME P e m):MS P (.Return (some e) pos) (sRetV m):=by
 obtain⟨t,pt,ht⟩:=he.out
 refine MS.mk' (ps_ret pt) fun B0 B s o u z D b0 wd sl h=>ht B0 B s o u z _ wd sl ?_
 unfold sRetV at h
 cases e:m u o with
 | ok w st'=>
  rw[e] at h
  cases w with
  | val d=>exact fun s' v l w r=>h B s' v b0 (l.less b0) w r
  | _=>exact h.elim
 | err c x st'=>rw[e] at h;exact fun s' cv dd l w q=>h B s' z cv dd b0 (l.less b0) w (sl.mono' l) q
 | bad=>rw[e] at h;exact h
def sRetO (i:Nat):SM:=fun u st=>match u[i]? with
 | some (some (.bor xs))=>.rt (.bor xs) st
 | _=>.bad
theorem ms_retO (i:Nat) {x:Str} {p:Pos} (hN:P.X.N[i]?=some x:=by rfl) (hv:Vis P.X.env.scope x:=by first | exact Or.inl rfl | exact Or.inr (Or.inl rfl) | exact Or.inr (Or.inr rfl)) (hd:(x == ("__debug__" : Str))=false:=by decide)
  (hcd:(x == ("__classdict__" : Str))=false:=by decide):MS P (.Return (some (.Name x p)) pos) (sRetO i):=by
 refine MS.mk' (ps_ret (pe_var hN hv hd hcd)) fun B0 B s o u z D b0 wd sl h=>?_
 unfold sRetO at h
 split at h
 ·rename_i xs e
  obtain⟨hl,ow,h1,h2⟩:=sl
  obtain⟨v,e1,⟨p',vs,e2,b,hp,r⟩,q⟩:=h1 i _ e
  obtain⟨e3,nb⟩:=q rfl
  subst e2
  cases e3
  exact⟨_,e1,h B s _ b0 (Le.refl _) wd ⟨_,vs,rfl,b,nb,hp,r⟩⟩
 ·exact h.elim
theorem ms_set (i:Nat) {x:Str} {p:Pos} (hN:P.X.N.Nodup) (he:ME P e m) (hi:P.X.N[i]?=some x:=by rfl) (hx:Loc P.X.env.scope x:=by first | exact Or.inl rfl | exact Or.inr rfl) (hs:swapsWith e (some (.Name x p)) pos.line P.X.env=pure false:=by rfl)
  (hf:P.X.fn x=true∨P.X.env.scope.names.lookup x=some .local:=by first | exact .inl rfl | exact .inr rfl | assumption):MS P (.Assign [.Name x p] e pos) (sSet i m):=by
 obtain⟨t,pt,ht⟩:=he.out
 refine MS.mk' (ps_set hN hi hx pt hs hf) fun B0 B s o u z D b0 wd sl h=>ht B0 B s o u z _ wd sl ?_
 unfold sSet at h
 cases e:m u o with
 | ok w st'=>
  rw[e] at h
  cases w with
  | val d=>exact fun s' v l w r=>h B s' _ b0 (l.less b0) w ((sl.mono' l).set r i)
  | _=>exact h.elim
 | err c x st'=>rw[e] at h;exact fun s' cv dd l w q=>h B s' z cv dd b0 (l.less b0) w (sl.mono' l) q
 | bad=>rw[e] at h;exact h
theorem ms_own (i:Nat) {x:Str} {p:Pos} {m:FM} (hN:P.X.N.Nodup) (he:MF P e m) (hi:P.X.N[i]?=some x:=by rfl) (hx:Loc P.X.env.scope x:=by first | exact Or.inl rfl | exact Or.inr rfl) (hs:swapsWith e (some (.Name x p)) pos.line P.X.env=pure false:=by rfl)
  (hf:P.X.fn x=true∨P.X.env.scope.names.lookup x=some .local:=by first | exact .inl rfl | exact .inr rfl | assumption):MS P (.Assign [.Name x p] e pos) (sOwn i m):=by
 obtain⟨t,pt,ht⟩:=he.out
 refine MS.mk' (ps_set hN hi hx pt hs hf) fun B0 B s o u z D b0 wd sl h=>ht B0 B s o u z _ wd sl ?_
 unfold sOwn at h
 cases e:m u o with
 | ok xs st'=>
  rw[e] at h
  exact fun s' p vs l w nb hp r=>h (plus B p) s' _ (fun a q=>.inl (b0 a q)) (l.less b0) w ((sl.mono' l).own nb (fun q=>nb (b0 p q)) hp r i)
 | err c x st'=>rw[e] at h;exact fun s' cv dd l w q=>h B s' z cv dd b0 (l.less b0) w (sl.mono' l) q
 | bad=>rw[e] at h;exact h
theorem ms_if {c:Expr} {a b:List Stmt} {mc:TM} {ma mb:SM} (hc:MT P c mc) (ha:MSs P a ma) (hb:MSs P b mb):MS P (.If c a b pos) (sIf mc ma mb):=by
 obtain⟨tc,pc,hc⟩:=hc.out
 obtain⟨ta,pa,ha⟩:=ha.out
 obtain⟨tb,pb,hb⟩:=hb.out
 refine MS.mk' (ps_if pc pa pb) fun B0 B s o u z D b0 wd sl h=>hc B0 B s o u z _ wd sl ?_
 unfold sIf at h
 cases e:mc u o with
 | ok k st'=>
  rw[e] at h
  intro s' k' l w r
  subst r
  cases k with
  | true=>exact ha B0 B s' st' u z D b0 w (sl.mono' l) (PostS.mono (l.less b0) h)
  | false=>exact hb B0 B s' st' u z D b0 w (sl.mono' l) (PostS.mono (l.less b0) h)
 | err c x st'=>rw[e] at h;exact fun s' cv dd l w q=>h B s' z cv dd b0 (l.less b0) w (sl.mono' l) q
 | bad=>rw[e] at h;exact h
end
end M3
namespace M3
open PySem PySem.Spec PyProof.Rows L2
def CoolAt (A:Around) (h:Heap):Prop:=A.handled=none∨∃x,HotX.HotAt A x h
structure OldS (s0:Shared) (H0:Hp) (fs ex:List Addr) (p:Addr×Obj):Prop where
 get:s0.heap.get? p.1=some p.2
 free:H0 p.1=none
 nofs:p.1∉fs
 noex:p.1∉ex
 nocell:∀v,p.2.data≠.cell v
abbrev Old (X:Cx) (p:Addr×Obj):Prop:=OldS X.s_0 X.H_0 X.fs X.ex p
def CoolS (A:Around) (s0:Shared) (H0:Hp) (fs ex:List Addr):Prop:=A.handled=none∨∃p:Addr×Obj,L2H.Hot1 A p∧OldS s0 H0 fs ex p
def Cool (X:Cx):Prop:=X.A.handled=none∨∃p:Addr×Obj,L2H.Hot1 X.A p∧(p∈X.pn∨Old X p)
theorem CoolS.cool {X:Cx} (c:CoolS X.A X.s_0 X.H_0 X.fs X.ex):Cool X:=c.imp id fun ⟨p,h,o⟩=>⟨p,h,.inr o⟩
structure Now (X:Cx) (pins:List (Addr×Obj)) (H:Hp) (s:Shared) (p:Addr×Obj):Prop where
 get:s.heap.get? p.1=some p.2
 free:H p.1=none
 nofr:p.1∉frs X.stack
 nofp:∀b,FpOk X pins H b→p.1≠b
 nocell:∀v,p.2.data≠.cell v
section
variable {X:Cx} {pins:List (Addr×Obj)} {z:L2.St} {H:Hp} {s:Shared}
theorem now_of {p:Addr×Obj} (I:Inv X pins z H s) (h:p∈X.pn∨Old X p):Now X pins H s p:=by
 have away:p.1≠X.env.locals→p.1∉X.fs→p.1∉frs X.stack:=fun h1 h2 hm=>(List.mem_cons.mp (I.stkSub p.1 hm)).elim h1 h2
 rcases h with h | o
 ·obtain⟨g,f,l,n,c⟩:=I.pin p (List.mem_append_left _ h)
  exact⟨g,f,away l n,fun b q=>q.2.2.2.2.2 p (List.mem_append_left _ h),c⟩
 ·have lt:=Heap.lt_size o.get
  refine⟨I.base.keep p.1 p.2 o.get o.free o.nofs o.noex,I.base.free p.1 p.2 o.get o.free o.noex,away (Nat.ne_of_lt (Nat.lt_of_lt_of_le lt I.ok.above)) o.nofs,fun b q e=>?_,o.nocell⟩
  rcases q.2.2.2.1 with y | y
  ·exact o.noex (e▸y)
  ·exact absurd (Nat.lt_of_lt_of_le lt (e▸y)) (Nat.lt_irrefl _)
theorem Cool.at (c:Cool X) (I:Inv X pins z H s):CoolAt X.A s.heap:=by
 rcases c with c | ⟨p,⟨hh,vs,e,n⟩,h⟩
 ·exact .inl c
 ·exact .inr ⟨p.1,hh,p.2,vs,(now_of I h).get,e,n⟩
theorem Cool.blk {fp:List Addr} (c:Cool X) (I:Inv X pins z H s) (hf:∀b∈fp,FpOk X pins H b):CoolS X.A s H (frs X.stack) fp:=by
 rcases c with c | ⟨p,h1,h⟩
 ·exact .inl c
 ·have n:=now_of I h
  exact .inr ⟨p,h1,n.get,n.free,n.nofr,fun hb=>n.nofp _ (hf _ hb) rfl,n.nocell⟩
end
def CoolBut (A:Around) (h:Heap) (it:Addr):Prop:=A.handled=none∨∃x,x≠it∧HotX.HotAt A x h
theorem Cool.but {X:Cx} {pins:List (Addr×Obj)} {z:L2.St} {H:Hp} {s:Shared} {it:Addr} (c:Cool X) (I:Inv X pins z H s) (f:FpOk X pins H it):CoolBut X.A s.heap it:=by
 rcases c with c | ⟨p,⟨hh,vs,e,n⟩,h⟩
 ·exact .inl c
 ·exact .inr ⟨p.1,(now_of I h).nofp _ f,hh,p.2,vs,(now_of I h).get,e,n⟩
theorem CoolBut.put {A:Around} {h h':Heap} {it:Addr} (c:CoolBut A h it) (k:Heap.ExtBut it h h'):CoolAt A h':=by
 rcases c with c | ⟨x,ne,hh,o,vs,g,d,n⟩
 ·exact .inl c
 ·exact .inr ⟨x,hh,o,vs,k x o ne g,d,n⟩
section
variable {prog:Program} {w:World} {A:Around} {E:Value→Shared→Prop} {s:Shared}
theorem stop_cool {α:Type} {Q:α→Shared→Prop} (c:CoolAt A s.heap)
  (hE:∀a h',(∀b o,s.heap.get? b=some o→h'.get? b=some o)→(∃o,h'.get? a=some o∧o.cls=.type "StopIteration")→E (.ref a) { s with heap:=h' }) :
  wpAny (model prog w) A (newExc (.type "StopIteration") [] >>= fun e=>(raiseNew e:Sem α)) Q E s:=by
 refine wpAny_bind ?_
 unfold newExc newTuple
 refine wpAny_bind (wpAny_newObj_type ?_ (by size_fits))
 refine wpAny_bind (m:=firstArgMember _ _) (wpAny_of_eq (a:=Value.none) (by first | rfl | (unfold firstArgMember;rfl)) (wpAny_newObj_type ?_ (by size_fits)))
 have old:∀{o1 o2:Obj},∀b o,s.heap.get? b=some o→((s.heap.push o1).push o2).get? b=some o:=fun b o e=>Heap.get?_push_of_some _ (Heap.get?_push_of_some _ e)
 rcases c with c | ⟨x,hh,o,vs,g,d,n⟩
 ·unfold raiseNew
  refine wpAny_bind (wpAny_handled ?_)
  rw[c]
  exact wpAny_bind (wpAny_pure (wpAny_throw (hE _ _ old ⟨_,Heap.get?_push_size _ rfl,rfl⟩)))
 ·refine HotX.raiseNew_hot ⟨hh,o,vs,old _ _ g,d,n⟩ (Nat.ne_of_lt (Heap.lt_size (Heap.get?_push_of_some _ g))) (Heap.get?_push_size _ rfl) rfl (by first | (simp;done) | (simp;omega)) (hE _ _ (fun b o e=>?_) ⟨_,Heap.get?_update_self _ (Heap.get?_push_size _ rfl) rfl,rfl⟩)
  rw[Heap.get?_update_other _ _ (Nat.ne_of_gt (Heap.lt_size (Heap.get?_push_of_some _ e)))]
  exact old b o e
variable {it l:Addr} {i:Nat} {items:Array Value} {Q:Option Value→Shared→Prop}
theorem CoolBut.over {α:Type} {Q':α→Shared→Prop} {h1:Heap} (c:CoolBut A s.heap it) (k:Heap.ExtBut it s.heap h1)
  (hE:∀a h',Heap.ExtBut it s.heap h'→(∃o,h'.get? a=some o∧o.cls=.type "StopIteration")→E (.ref a) { s with heap:=h' }) :
  wpAny (model prog w) A (newExc (.type "StopIteration") [] >>= fun e=>(raiseNew e:Sem α)) Q' E { s with heap:=h1 }:=
 stop_cool (s:={ s with heap:=h1 }) (c.put k) fun a h' keep o=>hE a h' (fun b o' ne e=>keep b o' (k b o' ne e)) o
theorem listStop (c:CoolBut A s.heap it) (hit:s.heap.IsListIter it l i) (hl:s.heap.IsList l items) (hx:items[i]?=none) (hQ:∀h',Heap.ExtBut it s.heap h'→Q none { s with heap:=h' }) :
  wpAny (model prog w) A (pyNext (.ref it)) Q E s:=by
 obtain⟨oi,gi,ci,di⟩:=id hit
 obtain⟨ol,gl,_,_,dl⟩:=hl
 unfold pyNext
 refine wpAny_bind (wpAny_attempt (wpAny_callSpecial?_slot (name:=Str.ofString "__next__") hit.typeIs slot_listiter_next (wpAny_call_entry slot_listiter_next hit.typeIs entry_listiter_next ?_ (args_listiter_next _))))
 refine(show wpAny _ _ (field (.ref it) 0 >>= _) _ _ s from wpAny_bind (wpAny_field gi di (x:=.ref l) rfl ?_))
 refine(show wpAny _ _ (if (Value.ref l == Value.none)=true then _ else _) _ _ s from ?_)
 rw[if_neg (by intro z;cases z)]
 refine(show wpAny _ _ (field (.ref it) 1 >>= _) _ _ s from wpAny_bind (wpAny_field gi di (x:=.int i 0) rfl ?_))
 refine(show wpAny _ _ (seqItems? (.ref l) >>= _) _ _ s from wpAny_bind (wpAny_seqItems gl dl ?_))
 simp only[Int.toNat_natCast,hx]
 refine wpAny_bind (wpAny_rule (wpAny_bind (wpAny_setField gi di (by simp) ?_)))
 refine(show CoolBut A.in1 s.heap it from c).over (Heap.SameBut.update ..).extBut fun a h' k ⟨o,e,cl⟩=>?_
 exact wpAny_bind (wpAny_isInstance (T:="StopIteration") (b:=true) ⟨o,e,cl⟩ isSubtype_stop (wpAny_pure (hQ h' k)))
theorem tupleStop (c:CoolBut A s.heap it) (hit:s.heap.IsTupleIter it l i) (hl:s.heap.IsTuple l items) (hx:items[i]?=none) (hQ:∀h',Heap.ExtBut it s.heap h'→Q none { s with heap:=h' }) :
  wpAny (model prog w) A (pyNext (.ref it)) Q E s:=by
 obtain⟨oi,gi,ci,di⟩:=id hit
 obtain⟨ol,gl,_,_,dl⟩:=hl
 unfold pyNext
 refine wpAny_bind (wpAny_attempt (wpAny_callSpecial?_slot (name:=Str.ofString "__next__") hit.typeIs F.slot_tuple_iterator_next (wpAny_call_entry F.slot_tuple_iterator_next hit.typeIs F.entry_tuple_iterator_next ?_ (F.args_tuple_iterator_next_1 _))))
 refine(show wpAny _ _ (field (.ref it) 0 >>= _) _ _ s from wpAny_bind (wpAny_field gi di (x:=.ref l) rfl ?_))
 refine(show wpAny _ _ (if (Value.ref l == Value.none)=true then _ else _) _ _ s from ?_)
 rw[if_neg (by intro z;cases z)]
 refine(show wpAny _ _ (field (.ref it) 1 >>= _) _ _ s from wpAny_bind (wpAny_field gi di (x:=.int i 0) rfl ?_))
 refine(show wpAny _ _ (seqItems? (.ref l) >>= _) _ _ s from wpAny_bind (wpAny_seqItems gl dl ?_))
 simp only[Int.toNat_natCast,hx]
 refine wpAny_bind (wpAny_rule (wpAny_bind (wpAny_setField gi di (by simp) ?_)))
 refine(show CoolBut A.in1 s.heap it from c).over (Heap.SameBut.update ..).extBut fun a h' k ⟨o,e,cl⟩=>?_
 exact wpAny_bind (wpAny_isInstance (T:="StopIteration") (b:=true) ⟨o,e,cl⟩ isSubtype_stop (wpAny_pure (hQ h' k)))
theorem asciiStop {x:Str} {t:Tok} (c:CoolBut A s.heap it) (hit:s.heap.IsStrIter it "str_ascii_iterator" x t i) (hx:x.cps[i]?=none) (hQ:∀h',Heap.ExtBut it s.heap h'→Q none { s with heap:=h' }):wpAny (model prog w) A (pyNext (.ref it)) Q E s:=by
 obtain⟨oi,gi,ci,di⟩:=id hit
 unfold pyNext
 refine wpAny_bind (wpAny_attempt (wpAny_callSpecial?_slot (name:=Str.ofString "__next__") hit.typeIs F.slot_str_ascii_iterator_next (wpAny_call_entry F.slot_str_ascii_iterator_next hit.typeIs F.entry_str_ascii_iterator_next ?_ (F.args_str_ascii_iterator_next_1 _))))
 refine(show wpAny _ _ (field (.ref it) 0 >>= _) _ _ s from wpAny_bind (wpAny_field gi di (x:=.str x t) rfl ?_))
 refine(show wpAny _ _ (field (.ref it) 1 >>= _) _ _ s from wpAny_bind (wpAny_field gi di (x:=.int i 0) rfl ?_))
 simp only[Int.toNat_natCast,hx]
 refine wpAny_bind (wpAny_rule (wpAny_bind (wpAny_setField gi di (by simp) (wpAny_bind (wpAny_letGo ?_)))))
 refine(show CoolBut A.in1 s.heap it from c).over (Heap.SameBut.update ..).extBut fun a h' k ⟨o,e,cl⟩=>?_
 exact wpAny_bind (wpAny_isInstance (T:="StopIteration") (b:=true) ⟨o,e,cl⟩ isSubtype_stop (wpAny_pure (hQ h' k)))
theorem wideStop {x:Str} {t:Tok} (c:CoolBut A s.heap it) (hit:s.heap.IsStrIter it "str_iterator" x t i) (hx:x.cps[i]?=none) (hQ:∀h',Heap.ExtBut it s.heap h'→Q none { s with heap:=h' }):wpAny (model prog w) A (pyNext (.ref it)) Q E s:=by
 obtain⟨oi,gi,ci,di⟩:=id hit
 unfold pyNext
 refine wpAny_bind (wpAny_attempt (wpAny_callSpecial?_slot (name:=Str.ofString "__next__") hit.typeIs F.slot_str_iterator_next (wpAny_call_entry F.slot_str_iterator_next hit.typeIs F.entry_str_iterator_next ?_ (F.args_str_iterator_next_1 _))))
 refine(show wpAny _ _ (field (.ref it) 0 >>= _) _ _ s from wpAny_bind (wpAny_field gi di (x:=.str x t) rfl ?_))
 refine(show wpAny _ _ (field (.ref it) 1 >>= _) _ _ s from wpAny_bind (wpAny_field gi di (x:=.int i 0) rfl ?_))
 simp only[Int.toNat_natCast,hx]
 refine wpAny_bind (wpAny_rule (wpAny_bind (wpAny_setField gi di (by simp) (wpAny_bind (wpAny_letGo ?_)))))
 refine(show CoolBut A.in1 s.heap it from c).over (Heap.SameBut.update ..).extBut fun a h' k ⟨o,e,cl⟩=>?_
 exact wpAny_bind (wpAny_isInstance (T:="StopIteration") (b:=true) ⟨o,e,cl⟩ isSubtype_stop (wpAny_pure (hQ h' k)))
theorem rangeStop {x left step:Int} (c:CoolBut A s.heap it) (hit:IsRangeIter s.heap it x left step) (hl:left≤0) (hQ:∀h',Heap.ExtBut it s.heap h'→Q none { s with heap:=h' }):wpAny (model prog w) A (pyNext (.ref it)) Q E s:=by
 rcases c with c | ⟨y,_,hot⟩
 ·exact wpAny_pyNext_range_end c hit hl hQ
 ·exact HotX.pyNext_range_end_hot hot hit hl fun h' k=>hQ h' fun b o _ e=>k b o e
theorem keyStop {d:Addr} {n ep:Nat} {od:Obj} {es:Array DictEntry} (c:CoolBut A s.heap it) (hit:s.heap.IsKeyIter it d i n ep) (hod:s.heap.get? d=some od) (hdd:od.data=.dict es ep) (hsz:es.size=n) (hge:n≤i)
  (hQ:∀h',Heap.ExtBut it s.heap h'→Q none { s with heap:=h' }):wpAny (model prog w) A (pyNext (.ref it)) Q E s:=by
 obtain⟨oi,gi,ci,di⟩:=id hit
 have out:es[i]?=none:=Array.getElem?_eq_none (by rw[hsz];exact hge)
 unfold pyNext
 refine wpAny_bind (wpAny_attempt (wpAny_callSpecial?_slot (name:=Str.ofString "__next__") hit.typeIs F.slot_dict_keyiterator_next (wpAny_call_entry F.slot_dict_keyiterator_next hit.typeIs F.entry_dict_keyiterator_next ?_ (F.args_dict_keyiterator_next_1 _))))
 refine wpAny_bind (wpAny_pure (wpAny_bind (wpAny_bind ?_)))
 first | refine wpAny_bind (wpAny_typeNameOfWhole_keyiter hit.typeIs (wpAny_pure ?_)) | refine wpAny_bind (wpAny_typeNameOf_keyiter hit.typeIs (wpAny_pure ?_))
 refine wpAny_bind (wpAny_fieldsOf gi di ?_)
 simp only[show Builtin.Dict_items.ownsTuple "dict_keyiterator" = false from by decide,Bool.false_eq_true,if_false]
 refine(show wpAny _ _ (if (Value.ref d == Value.none)=true then _ else _) _ _ s from ?_)
 rw[if_neg (by intro z;cases z)]
 refine wpAny_bind (wpAny_pure (wpAny_bind (wpAny_dictEntries hod hdd ?_)))
 rw[if_neg (by rw[hsz];simp)]
 refine wpAny_bind (wpAny_pure (wpAny_bind (wpAny_dictEpoch hod hdd ?_)))
 rw[if_neg (by simp)]
 refine wpAny_pure ?_
 simp only[show ¬((i:Int)<0) from by omega,if_false,Int.toNat_natCast,out]
 refine wpAny_bind ?_
 first | refine wpAny_bind (wpAny_typeNameOfWhole_keyiter hit.typeIs (wpAny_pure ?_)) | refine wpAny_bind (wpAny_typeNameOf_keyiter hit.typeIs (wpAny_pure ?_))
 refine(show wpAny _ _ (setField (.ref it) 0 .none >>= _) _ _ s from wpAny_bind (wpAny_setField gi di (by simp) ?_))
 refine(show CoolBut A.in1 s.heap it from c).over (Heap.SameBut.update ..).extBut fun a h' k ⟨o,e,cl⟩=>?_
 exact wpAny_bind (wpAny_isInstance (T:="StopIteration") (b:=true) ⟨o,e,cl⟩ isSubtype_stop (wpAny_pure (hQ h' k)))
end
end M3
namespace M3
open PySem PySem.Spec PyProof.Rows L2
structure Turn (P:Program) (w:World) (K:PySem.W.Frag) (tg:Expr) (J:It) (fp:List Addr) (it:Addr) (tn:Nat→Heap→Prop):Prop where
 mem:it∈fp
 obj:∀i h,tn i h→∀b∈fp,∃o,h.get? b=some o∧∀v,o.data≠.cell v
 keep:∀i h h',tn i h→(∀b∈fp,∀o,h.get? b=some o→h'.get? b=some o)→tn i h'
 item:∀(X:Cx),X.prog=P→X.w=w→X.K=K→Cool X→∀(i:Nat) (pins:List (Addr×Obj)) (s:Shared) (z:L2.St) (H:Hp) (E:Value→Shared→Prop),Inv X pins z H s→(∀b∈fp,FpOk X pins H b)→tn i s.heap→J.go i H→
  wpAny (model P w) X.A (pyNext (.ref it)) (fun r s1=>∃u,r=some u∧wpAny (model P w) X.A (letOwnedTupleGo tg (.ref it) u) (fun _ s2=>∃x H',Inv X pins z H' s2∧RelV x u∧J.yld i H x H'∧tn (i+1) s2.heap∧∀b∈fp,H' b=none) E s1) E s
 done:∀(X:Cx),X.prog=P→X.w=w→X.K=K→Cool X→∀(i:Nat) (pins:List (Addr×Obj)) (s:Shared) (z:L2.St) (H:Hp) (E:Value→Shared→Prop),Inv X pins z H s→(∀b∈fp,FpOk X pins H b)→tn i s.heap→J.stop i H→
  wpAny (model P w) X.A (pyNext (.ref it)) (fun r s1=>r=none∧Inv X pins z H s1) E s
 self:∀(A:Around) (i:Nat) (s:Shared) (Q:Value→Shared→Prop) (E:Value→Shared→Prop),tn i s.heap→Q (.ref it) s→wpAny (model P w) A (pyIter (.ref it)) Q E s
def plainIt (n:String):Prop:=["enumerate","zip","dict_itemiterator","dict_reverseitemiterator","odict_iterator","itertools.zip_longest","itertools.pairwise"].contains n=false
theorem turn_one {P:Program} {w:World} {K:PySem.W.Frag} {tg:Expr} {J:It} {it:Addr} {tn:Nat→Heap→Prop} {n:String} (hn:plainIt n)
  (data:∀i h,tn i h→∃o vs,h.get? it=some o∧o.cls=.type n∧o.data=.fields vs)
  (keep:∀i h h',tn i h→(∀o,h.get? it=some o→h'.get? it=some o)→tn i h')
  (item:∀(X:Cx),X.prog=P→X.w=w→X.K=K→∀(pins:List (Addr×Obj)) (s:Shared) (z:L2.St) (H:Hp),Inv X pins z H s→∀i,tn i s.heap→J.go i H→∀(Q:Option Value→Shared→Prop) (E:Value→Shared→Prop),
   (∀u x h' tk,Heap.ExtBut it s.heap h'→tn (i+1) h'→RelV x u→J.yld i H x H→Q (some u) { s with heap:=h',toks:=tk })→wpAny (model P w) X.A (pyNext (.ref it)) Q E s)
  (done:∀(X:Cx),X.prog=P→X.w=w→X.K=K→∀(pins:List (Addr×Obj)) (s:Shared) (z:L2.St) (H:Hp),Inv X pins z H s→∀i,CoolBut X.A s.heap it→tn i s.heap→J.stop i H→∀(Q:Option Value→Shared→Prop) (E:Value→Shared→Prop),
   (∀h',Heap.ExtBut it s.heap h'→Q none { s with heap:=h' })→wpAny (model P w) X.A (pyNext (.ref it)) Q E s)
  (self:∀(A:Around) (i:Nat) (s:Shared) (Q:Value→Shared→Prop) (E:Value→Shared→Prop),tn i s.heap→Q (.ref it) s→wpAny (model P w) A (pyIter (.ref it)) Q E s):Turn P w K tg J [it] it tn:=by
 have only:∀{b:Addr},b∈[it]→b=it:=List.mem_singleton.mp
 refine⟨List.mem_cons_self,fun i h st b hb=>?_,fun i h h' st k=>keep i h h' st (k it List.mem_cons_self),fun X e1 e2 e3 c i pins s z H E I f st g=>?_,fun X e1 e2 e3 c i pins s z H E I f st g=>?_,self⟩
 ·obtain⟨o,vs,e,_,d⟩:=data i h st
  rw[only hb]
  exact⟨o,e,fun v y=>by rw[d] at y;cases y⟩
 ·have fi:=f it List.mem_cons_self
  refine item X e1 e2 e3 pins s z H I i st g _ _ fun u x h' tk k st' r y=>⟨u,rfl,?_⟩
  have I':Inv X pins z H { s with heap:=h',toks:=tk }:=I.turned (fun b o hb e=>k b o hb e) fi.1 fi.2.1 fi.2.2.2.1 fi.2.2.2.2.1 fi.2.2.2.2.2
  obtain⟨o,vs,e,cl,d⟩:=data _ _ st'
  exact go_of (s:={ s with heap:=h',toks:=tk }) e cl d hn ⟨x,H,I',r,y,st',fun b hb=>(f b hb).1⟩
 ·have fi:=f it List.mem_cons_self
  exact done X e1 e2 e3 pins s z H I i (c.but I fi) st g _ _ fun h' k=>⟨rfl,I.turned (t':=s.toks) (fun b o hb e=>k b o hb e) fi.1 fi.2.1 fi.2.2.2.1 fi.2.2.2.2.1 fi.2.2.2.2.2⟩
section
variable {P:Program} {w:World} {K:PySem.W.Frag} {tg:Expr}
theorem turn_list (a it:Addr):Turn P w K tg (Itl K a) [it] it (fun i h=>h.IsListIter it a i):=by
 refine turn_one (n:="list_iterator") (by unfold plainIt;decide) (fun i h ⟨o,e,c,d⟩=>⟨o,_,e,c,d⟩) (fun i h h' st k=>st.at fun o e=>k o e) (fun X e1 e2 e3 pins s z H I i st ⟨xs,x,hq,hx⟩ Q E hQ=>?_) (fun X e1 e2 e3 pins s z H I i c st ⟨xs,hq,hx⟩ Q E hQ=>?_) (fun _ _ _ _ _ st h=>wpAny_pyIter_listiter st h)
 ·subst e1 e2 e3
  obtain⟨its,rv,p,_⟩:=I.list hq
  obtain⟨u,hu,ru⟩:=rv.get hx
  exact wpAny_pyNext_list_item st p.isList (x:=u) (by simpa using hu) fun h' st' sb=>hQ u x h' s.toks sb.extBut st' ru ⟨rfl,fun ys hy=>by rw[I.list_inj hy hq];exact hx⟩
 ·subst e1 e2 e3
  obtain⟨its,rv,p,_⟩:=I.list hq
  have hl:=rv.length
  exact listStop c st p.isList (by simp;omega) hQ
theorem turn_tuple (a it:Addr):Turn P w K tg (Itt K a) [it] it (fun i h=>h.IsTupleIter it a i):=by
 refine turn_one (n:="tuple_iterator") (by unfold plainIt;decide) (fun i h ⟨o,e,c,d⟩=>⟨o,_,e,c,d⟩) (fun i h h' st k=>st.at fun o e=>k o e) (fun X e1 e2 e3 pins s z H I i st ⟨xs,x,hq,hx⟩ Q E hQ=>?_) (fun X e1 e2 e3 pins s z H I i c st ⟨xs,hq,hx⟩ Q E hQ=>?_) (fun _ _ _ _ _ st h=>wpAny_pyIter_tupleiter st h)
 ·subst e1 e2 e3
  obtain⟨its,rv,p,_⟩:=I.tuple hq
  obtain⟨u,hu,ru⟩:=rv.get hx
  exact wpAny_pyNext_tuple_item st (show s.heap.IsTuple a its.toArray from p) (x:=u) (by simpa using hu) fun h' st' sb=>hQ u x h' s.toks sb.extBut st' ru ⟨rfl,fun ys hy=>by rw[I.tuple_inj hy hq];exact hx⟩
 ·subst e1 e2 e3
  obtain⟨its,rv,p,_⟩:=I.tuple hq
  have hl:=rv.length
  exact tupleStop c st (show s.heap.IsTuple a its.toArray from p) (by simp;omega) hQ
theorem turn_range (it:Addr) (lo:Int) (n:Nat):Turn P w K tg (Itr lo n) [it] it (fun i h=>IsRangeIter h it (lo+(i:Nat) * 1) ((n:Int) - (i:Nat)) 1):=by
 refine turn_one (n:="range_iterator") (by unfold plainIt;decide) (fun i h st=>⟨_,_,st,rfl,rfl⟩) (fun i h h' st k=>k _ st) (fun X e1 e2 e3 pins s z H I i st g Q E hQ=>?_) (fun X e1 e2 e3 pins s z H I i c st g Q E hQ=>?_) (fun _ _ _ _ _ st h=>wpAny_pyIter_rangeiter st h)
 ·have lt:i<n:=g
  refine wpAny_pyNext_range_item st (by omega) fun h' st' sb=>hQ _ (.int (lo+i)) h' _ sb.extBut ?_ ⟨s.toks,by rw[Int.mul_one]⟩ ⟨rfl,rfl⟩
  have e1:lo+((i:Nat):Int) * 1+1=lo+((i+1:Nat):Int) * 1:=by omega
  have e2:(n:Int) - ((i:Nat):Int) - 1=(n:Int) - ((i+1:Nat):Int):=by omega
  exact e1▸e2▸st'
 ·have le:n≤i:=g
  exact rangeStop c st (by omega) hQ
theorem turn_str (it:Addr) (x:Str) (t:Tok) (ty:String) (hty:ty="str_ascii_iterator"∨ty="str_iterator"):Turn P w K tg (Its x) [it] it (fun i h=>h.IsStrIter it ty x t i):=by
 refine turn_one (n:=ty) (by unfold plainIt;rcases hty with rfl | rfl <;> decide) (fun i h ⟨o,e,c,d⟩=>⟨o,_,e,c,d⟩) (fun i h h' ⟨o,e,r⟩ k=>⟨o,k o e,r⟩) (fun X e1 e2 e3 pins s z H I i st g Q E hQ=>?_) (fun X e1 e2 e3 pins s z H I i c st g Q E hQ=>?_) (fun A i s Q E st h=>?_)
 ·have lt:i<x.cps.size:=g
  have hx:x.cps[i]?=some x.cps[i]:=Array.getElem?_eq_getElem lt
  rcases hty with rfl | rfl
  ·exact wpAny_pyNext_ascii_item st hx fun h' st' sb=>hQ _ (.str ⟨#[x.cps[i]]⟩) h' _ sb.extBut st' ⟨s.toks,rfl⟩ ⟨rfl,_,hx,rfl⟩
  ·exact wpAny_pyNext_wide_item st hx fun h' st' sb=>hQ _ (.str ⟨#[x.cps[i]]⟩) h' _ sb.extBut st' ⟨s.toks,rfl⟩ ⟨rfl,_,hx,rfl⟩
 ·have hx:x.cps[i]?=none:=Array.getElem?_eq_none g
  rcases hty with rfl | rfl
  ·exact asciiStop c st hx hQ
  ·exact wideStop c st hx hQ
 ·rcases hty with rfl | rfl
  ·exact wpAny_pyIter_striter_ascii st h
  ·exact wpAny_pyIter_striter_wide st h
end
end M3
namespace M3
open PySem PySem.Spec PyProof.Rows L2
section
variable {prog:Program} {w:World} {A:Around} {E:Value→Shared→Prop} {s:Shared}
theorem unpackTup {env:Env} {elts:List Expr} {k} {pos:Pos} {t:Addr} {its:Array Value} {Q:Unit→Shared→Prop} (c:CoolAt A s.heap) (ht:IsTup s.heap t its)
  (hn:(assignEach elts env).length=its.size) (hst:(assignEach elts env).findIdx? (·.1)=none)
  (h:∀h',Heap.ExtBut s.heap.objs.size s.heap h'→wpAny (model prog w) A (assignInOrder ((assignEach elts env).map (·.2)) its.toList) Q E { s with heap:=h' }):wpAny (model prog w) A (assign (.Tuple elts k pos) env (.ref t)) Q E s:=by
 have ne:t≠s.heap.objs.size:=let ⟨o,e,_⟩:=ht;Nat.ne_of_lt (Heap.lt_size e)
 rw[assign_Tuple]
 refine wpAny_bind (wpAny_standAt ?_)
 unfold unpack
 rw[hn,hst]
 refine wpAny_bind (wpAny_holding ?_)
 unfold unpackItems
 refine wpAny_bind ?_
 unfold notIterableAtAll
 refine wpAny_bind (wpAny_specialOf ht.typeIs slot_tuple_iter.lookup (wpAny_pure ?_))
 simp only[Bool.false_eq_true,if_false]
 refine wpAny_bind (wpAny_holding (iter_tuple ht (wpAny_bind (wpAny_holding (draw_tuple ne its.size 0 _ _ ⟨_,Heap.get?_push_size _ rfl,rfl,rfl⟩ (ht.push _) (by omega) fun h1 it1 sb=>?_)))))
 have all:List.take its.size (List.drop 0 its.toList)=its.toList:=List.take_of_length_le (by simp)
 rw[all,if_neg (by simp)]
 have old:∀b o,s.heap.get? b=some o→h1.get? b=some o:=fun b o e=>sb.extBut b o (Nat.ne_of_lt (Heap.lt_size e)) (Heap.get?_push_of_some _ e)
 have cb:CoolBut A h1 s.heap.objs.size:=c.imp id fun ⟨x,hh,o,vs,g,d,n⟩=>⟨x,Nat.ne_of_lt (Heap.lt_size g),hh,o,vs,old x o g,d,n⟩
 refine wpAny_bind (wpAny_holding (tupleStop (s:={ s with heap:=h1 }) cb it1 (ht.keeps old) (by simp) fun h2 k=>?_))
 simp only[Option.isSome_none,Bool.false_eq_true,if_false]
 exact wpAny_pure (h h2 fun b o hb e=>k b o hb (old b o e))
end
section
variable {X:Cx} {tg:Expr}
theorem pg_tup {pos:Pos} {es:List Expr} {k:Nat} {t:TGs} {n:Nat} (c:Cool X) (h:PGs X es t) (hn:(assignEach es X.env).length=n:=by rfl) (hst:(assignEach es X.env).findIdx? (·.1)=none:=by rfl):PG X (.Tuple es k pos) (gTup X.K n t):=by
 constructor
 rintro pins s z H v u Q I r ⟨a,xs,rfl,hq,hl,hw⟩
 obtain rfl:u=Value.ref a:=r
 obtain⟨its,rv,ht,_⟩:=I.tuple hq
 refine unpackTup (c.at I) ht (by rw[hn,←hl,rv.length];simp) hst fun h' k=>?_
 exact h.run pins _ z H xs _ Q (I.kept (t':=s.toks) fun b o e=>k b o (Nat.ne_of_lt (Heap.lt_size e)) e) (by simpa using rv) hw
def PIE (X:Cx) (pins:List (Addr×Obj)) (z:L2.St) (tg:Expr) (R:It→Hp→Prop) (v:Value) (s2:Shared):Prop:=
 ∃(it:Addr) (fp:List Addr) (tn:Nat→Heap→Prop) (J:It) (H':Hp),v=.ref it∧Inv X pins z H' s2∧Turn X.prog X.w X.K tg J fp it tn∧tn 0 s2.heap∧(∀b∈fp,FpOk X pins H' b)∧R J H'
structure PI (X:Cx) (tg iter:Expr) (wi:TI):Prop where
 run:∀(pins:List (Addr×Obj)) (s:Shared) (z:L2.St) (H:Hp) (R:It→Hp→Prop),Inv X pins z H s→wi z H R→
  wpAny (model X.prog X.w) X.A (eval iter X.env) (fun v s1=>wpAny (model X.prog X.w) X.A (pyIter v) (PIE X pins z tg R) X.xe s1) X.xe s
theorem pi_one {pins:List (Addr×Obj)} {z:L2.St} {H:Hp} {s:Shared} {R:It→Hp→Prop} {J:It} {tn:Nat→Heap→Prop} {tk:Nat} (I:Inv X pins z H s) (o:Obj)
  (T:Turn X.prog X.w X.K tg J [s.heap.objs.size] s.heap.objs.size tn) (st:tn 0 (s.heap.push o)) (q:R J H):PIE X pins z tg R (.ref s.heap.objs.size) { s with heap:=s.heap.push o,toks:=tk }:=
 ⟨_,_,tn,J,H,rfl,I.kept fun b ob e=>Heap.get?_push_of_some _ e,T,st,fun b hb=>by rw[List.mem_singleton.mp hb];exact I.fpOk (Nat.le_refl _) (I.hok.fresh (Nat.le_refl _)),q⟩
theorem range_it {pins:List (Addr×Obj)} {z:L2.St} {H:Hp} {s:Shared} {R:It→Hp→Prop} {E:Value→Shared→Prop} {lo hi:Int} {t u v:Tok} {tk:Nat} (I:Inv X pins z H s) (b:(-(2 ^ 62)≤lo∧lo<2 ^ 62)∧-(2 ^ 62)≤hi∧hi<2 ^ 62)
  (q:R (Itr lo (hi - lo).toNat) H):wpAny (model X.prog X.w) X.A (pyIter (.ref s.heap.objs.size)) (PIE X pins z tg R) E { s with heap:=s.heap.push { cls:=.type "range",data:=.fields #[.int lo t,.int hi u,.int 1 v] },toks:=tk }:=by
 have I1:Inv X pins z H { s with heap:=s.heap.push { cls:=.type "range",data:=.fields #[.int lo t,.int hi u,.int 1 v] },toks:=tk }:=I.kept fun b o e=>Heap.get?_push_of_some _ e
 refine wpAny_pyIter_range (IsRange.new ..) (small_one b.1.1 b.1.2 b.2.1 b.2.2) (pi_one I1 _ (turn_range _ lo (hi - lo).toNat) ?_ q)
 have e1:lo+((0:Nat):Int) * 1=lo:=by simp
 have e2:(((hi - lo).toNat:Nat):Int) - ((0:Nat):Int)=Builtin.Range.rangeSize lo hi 1:=by rw[rangeSize_one];split <;> omega
 show IsRangeIter _ _ (lo+((0:Nat):Int) * 1) ((((hi - lo).toNat:Nat):Int) - ((0:Nat):Int)) 1
 rw[e1,e2]
 exact Heap.get?_push_size _ rfl
theorem pi_range1 {a:Expr} {ta:TA} {p pos:Pos} (hg:Gl X "range") (hm:X.mg "range" = none) (ha:PA X [a] ta) (hs:starEach [a] X.env=[(false,eval a X.env)]:=by rfl):PI X tg (.Call (.Name "range" p) [a] [] pos) (iRng1 ta):=by
 constructor
 intro pins s z H R I h
 refine Call_ (ld_blt I hg hm boot_range (PyProof.Rows.callWith_type1 (thn (ha.run pos pins s z H _ I h) ?_) hs rfl))
 rintro us s1 ⟨vs,H1,I1,r1,j,rfl,q1,q2,q⟩
 obtain⟨_,rfl,t,rfl⟩:=vals1 r1
 exact call_range_1 (range_it I1 ⟨by omega,by omega⟩ (by simpa using q))
theorem fp_at {pins:List (Addr×Obj)} {fp:List Addr} {H H':Hp} (f:∀b∈fp,FpOk X pins H b) (n:∀b∈fp,H' b=none):∀b∈fp,FpOk X pins H' b:=fun b hb=>⟨n b hb,(f b hb).2⟩
theorem Turn.after {tg:Expr} {J:It} {fp:List Addr} {it:Addr} {tn:Nat→Heap→Prop} (T:Turn X.prog X.w X.K tg J fp it tn) {pins:List (Addr×Obj)} {z:L2.St} {H:Hp} {s s':Shared} {i:Nat} (st:tn i s.heap)
  (I:Inv X (pins++pinsAt fp s.heap) z H s'):Inv X pins z H s'∧tn i s'.heap∧∀b∈fp,H b=none:=by
 have p:∀b∈fp,∀o,s.heap.get? b=some o→s'.heap.get? b=some o∧H b=none:=fun b hb o e=>
  have q:=I.pin (b,o) (List.mem_append_right _ (List.mem_append_right _ (mem_pinsAt hb e)))
  ⟨q.1,q.2.1⟩
 refine⟨I.unpinned,T.keep _ _ _ st fun b hb o e=>(p b hb o e).1,fun b hb=>?_⟩
 obtain⟨o,e,_⟩:=T.obj _ _ st b hb
 exact(p b hb o e).2
theorem ps_for {iter:Expr} {body:List Stmt} {wi:TI} {g:TG} {tb:TS} {pos:Pos} (hp:PassesOwn (model X.prog X.w) X.A X.env X.xe) (c:Cool X) (hi:PI X tg iter wi) (hg:PG X tg g) (hb:PSs X body tb)
  (hs:∀x,foldedSetIterable iter X.env x=pure x:=by intro _;rfl):PS X (.For tg iter body [] pos) (tFor wi g tb):=by
 constructor
 intro pins s z H D I h
 refine wpAny_For (thn (hi.run pins s z H _ I h) fun v s1 h1=>thn h1 ?_) hs
 rintro _ s2 ⟨it,fp,tn,J,H2,rfl,I2,T,st2,f2,W,⟨m0,w0⟩,turn⟩
 refine codeAny_forLoop_any (fun n now=>∃i z' H',(Inv X pins z' H' now∧tn i now.heap∧∀b∈fp,H' b=none)∧W i n z' H') (fun n s3=>?_) m0 ⟨0,z,H2,⟨I2,st2,fun b hb=>(f2 b hb).1⟩,w0⟩
 rintro⟨i,z3,H3,⟨I3,st3,n3⟩,w3⟩
 rcases turn i n z3 H3 w3 with⟨stop,qn⟩ | ⟨go,N,hN,step⟩
 ·refine wpAny_passesOwn hp (thn (T.done X rfl rfl rfl c i pins s3 z3 H3 X.xe I3 (fp_at f2 n3) st3 stop) ?_)
  rintro _ s4 ⟨rfl,I4⟩
  exact wpAny_execs_nil ⟨z3,H3,I4,qn⟩
 ·refine wpAny_passesOwn hp (thn (T.item X rfl rfl rfl c i pins s3 z3 H3 X.xe I3 (fp_at f2 n3) st3 go) ?_)
  rintro _ s4 ⟨u,rfl,h4⟩
  refine wpAny_passesOwn hp (thn h4 fun _ s5 ⟨x,H5,I5,r5,y5,st5,n5⟩=>?_)
  refine wpAny_passesOwn hp (thn (hg.run _ s5 z3 H5 x u _ (I5.pinned (fp_at f2 n5) (T.obj _ _ st5)) r5 (step x H5 y5)) fun _ s6 ⟨z6,H6,I6,q6⟩=>?_)
  refine wpAny_passesOwn hp (thn (hb.run _ s6 z6 H6 _ I6 q6) fun f s7 q7=>?_)
  have go:∀{z7:L2.St} {H7:Hp},Inv X (pins++pinsAt fp s5.heap) z7 H7 s7→N z7 H7→∃m,m<n∧∃i z' H',(Inv X pins z' H' s7∧tn i s7.heap∧∀b∈fp,H' b=none)∧W i m z' H':=fun {z7 H7} I7 n7=>
   have ⟨m,hm,w7⟩:=hN z7 H7 n7
   ⟨m,hm,i+1,z7,H7,T.after st5 I7,w7⟩
  cases f with
  | next=>obtain⟨z7,H7,I7,n7⟩:=q7;exact go I7 n7
  | cont=>obtain⟨z7,H7,I7,n7⟩:=q7;exact go I7 n7
  | brk=>obtain⟨z7,H7,I7,y⟩:=q7;exact⟨z7,H7,I7.unpinned,y⟩
  | ret v=>obtain⟨x7,z7,H7,I7,y⟩:=q7;exact⟨x7,z7,H7,I7.unpinned,y⟩
end
end M3
namespace M3
open PySem PySem.Spec PyProof.Rows L2
structure Opened (X:Cx) (pins:List (Addr×Obj)) (z:L2.St) (scope:Scope) (own:List (Str×Nat)) (fp:List Addr) (tn:Nat→Heap→Prop) (start:Shared) (Hd:Hp) (ce:Env) (first:Shared):Prop where
 ins:Inv (X.blk start Hd scope ce fp) [] (wipe z (own.map (·.2))) Hd first
 st:tn 0 first.heap
 clear:∀b∈fp,Hd b=none
 cools:CoolS X.A start Hd (frs X.stack) fp
 foot:∀{t:L2.St} {H':Hp} {s':Shared},Inv (X.blk start Hd scope ce fp) [] t H' s'→(∀b∈fp,H' b=none)→∀b∈fp,FpOk (X.blk start Hd scope ce fp) [] H' b
 back:∀{t:L2.St} {H':Hp} {s':Shared},Inv (X.blk start Hd scope ce fp) [] t H' s'→Inv X pins z H' s'∧(∃m,s'.heap.Ns start.heap.objs.size m)∧FpOk X pins H' start.heap.objs.size
theorem Opened.cool {X:Cx} {pins:List (Addr×Obj)} {z:L2.St} {scope:Scope} {own:List (Str×Nat)} {fp:List Addr} {tn:Nat→Heap→Prop} {start:Shared} {Hd:Hp} {ce:Env} {first:Shared} (O:Opened X pins z scope own fp tn start Hd ce first):Cool (X.blk start Hd scope ce fp):=CoolS.cool (X:=X.blk start Hd scope ce fp) O.cools
section
variable {X:Cx}
abbrev blkEnv (X:Cx) (scope:Scope) (start:Shared):Env:=compEnvC scope (cellsFrom (start.heap.objs.size+1) scope.names (cloFrom X.env.cells scope.names [])) start.heap.objs.size X.env
abbrev blkFirst (scope:Scope) (start:Shared):Shared:={ start with heap:=pushCells (start.heap.push { cls:=.type "dict",data:=.dict #[] }) scope.names }
theorem comp_open {pins:List (Addr×Obj)} {z:L2.St} {H:Hp} {s:Shared} {tg:Expr} {J:It} {fp:List Addr} {it:Addr} {tn:Nat→Heap→Prop} {scope:Scope} {own:List (Str×Nat)} {ho:HO} {ob:Obj} (c:Cool X) (nd:X.N.Nodup) (ok:BlkOk X.N X.env.scope scope own)
  (I:Inv X pins z H s) (T:Turn X.prog X.w X.K tg J fp it tn) (st:tn 0 s.heap) (feet:∀b∈fp,FpOk X pins H b) (hob:∀H',ObjOk X.prog X.w H' (s.heap.push ob) s.heap.objs.size ho) :
  Opened X pins z scope own fp tn { s with heap:=s.heap.push ob } (upd H s.heap.objs.size ho) (blkEnv X scope { s with heap:=s.heap.push ob }) (blkFirst scope { s with heap:=s.heap.push ob }):=by
 have laid:Inv X pins z (upd H s.heap.objs.size ho) { s with heap:=s.heap.push ob }:=I.laid (t':=s.toks) (fun b o e=>Heap.get?_push_of_some _ e) (Nat.le_refl _) (hob _)
 have size:({ s with heap:=s.heap.push ob }:Shared).heap.objs.size=s.heap.objs.size+1:=Heap.size_push ..
 have feet2:∀b∈fp,FpOk X pins (upd H s.heap.objs.size ho) b∧b<({ s with heap:=s.heap.push ob }:Shared).heap.objs.size:=fun b hb=>by
  obtain⟨o,e,_⟩:=T.obj _ _ st b hb
  have lt:=Heap.lt_size e
  exact⟨⟨(upd_ne (Nat.ne_of_lt lt)).trans (feet b hb).1,(feet b hb).2⟩,by rw[size];exact Nat.lt_succ_of_lt lt⟩
 have ins:=block_start laid ok nd feet2
 revert laid feet2 ins
 generalize eS:({ s with heap:=s.heap.push ob }:Shared)=start
 generalize upd H s.heap.objs.size ho=Hd
 intro laid feet2 ins
 refine⟨ins,T.keep _ _ _ st fun b _ o e=>pushCells_keeps _ _ _ _ (Heap.get?_push_of_some _ (by rw[←eS];exact Heap.get?_push_of_some _ e)),fun b hb=>(feet2 b hb).1.1,c.blk laid fun b hb=>(feet2 b hb).1,fun {t H' s'} I' n b hb=>?_,fun {t H' s'} I'=>?_⟩
 ·exact⟨n b hb,(I'.ok.exf b hb).1,I'.ok.exfs b hb,.inl hb,fun x c e=>(I'.ok.exf b hb).2 x c e,fun p hp=>by cases hp⟩
 ·obtain⟨m,hn,_⟩:=I'.loc
  refine⟨laid.call' (ch:=fp) I'.os I'.base I'.hok I'.bare fun b hb=>?_,⟨m,hn⟩,laid.fpOk (Nat.le_refl _) I'.free⟩
  obtain⟨_,f1,_,f3,f4,f5⟩:=(feet2 b hb).1
  exact⟨f3,f1,f4,f5⟩
theorem Turn.next {pins:List (Addr×Obj)} {tg:Expr} {J:It} {fp:List Addr} {it:Addr} {tn:Nat→Heap→Prop} (T:Turn X.prog X.w X.K tg J fp it tn) {t t0:L2.St} {H:Hp} {s s':Shared} {i:Nat} (st:tn i s.heap)
  (I:Inv X (pins++pinsAt fp s.heap) t H s') (hl:t0.length=t.length) (hk:∀(j:Nat) v,t0[j]?=some (some v)→t[j]?=some (some v)):Inv X pins t0 H s'∧tn i s'.heap∧∀b∈fp,H b=none:=
 have ⟨a,b,c⟩:=T.after st I
 ⟨a.weak hl hk,b,c⟩
theorem wiped {t u:L2.St} {own:List Nat} (e:wipe t own=wipe u own):(wipe u own).length=t.length∧∀(j:Nat) v,(wipe u own)[j]?=some (some v)→t[j]?=some (some v):=
 ⟨by rw[←e,wipe_length],fun j v h=>by rw[←e] at h;exact(wipe_some h).1⟩
abbrev InBlk (X:Cx) (scope:Scope) (R:Cx→Prop):Prop:=∀(s:Shared) (H:Hp) (C:Addr) (cl:List (Str×Addr)) (fp:List Addr),CoolS X.A s H (frs X.stack) fp→R (X.blk s H scope (compEnvC scope cl C X.env) fp)
abbrev laidL (s:Shared):Shared:={ s with heap:=s.heap.push { cls:=.type "list",data:=.seq ([]:List Value).toArray } }
theorem InBlk.at {scope:Scope} {R:Cx→Prop} (h:InBlk X scope R) (start:Shared) (Hd:Hp) (fp:List Addr) (c:CoolS X.A start Hd (frs X.stack) fp):R (X.blk start Hd scope (blkEnv X scope start) fp):=h start Hd start.heap.objs.size _ fp c
theorem lc_core {pins:List (Addr×Obj)} {s:Shared} {z:L2.St} {H:Hp} {Q:VK} {elt tg iter:Expr} {ifs:List Expr} {scope:Scope} {own:List (Str×Nat)} {pos pos':Pos} {wi:TI} {g:TG} {tt:TT} {te:TE} {use:Option (Value→Sem Unit)} {Qf:Value→Shared→Prop}
  (c:Cool X) (nd:X.N.Nodup) (I:Inv X pins z H s) (hi:PI X tg iter wi) (ok:BlkOk X.N X.env.scope scope own) (hg:InBlk X scope fun Y=>PG Y tg g) (ht:InBlk X scope fun Y=>PTs Y ifs tt) (he:InBlk X scope fun Y=>PE Y elt te) (hs:∀x,foldedSetIterable iter X.env x=pure x)
  (h:tLc wi g tt te (own.map (·.2)) z H Q)
  (out:∀D C s' m H',Inv X pins z H' s'→Q (.ref D) H'→s'.heap.Ns C m→FpOk X pins H' C→compPost (model X.prog X.w) X.A X.xe use Qf (.ref D) C (.ok .next) s') :
  wpAny (model X.prog X.w) X.A (comprehension (.ListComp elt [⟨tg,iter,ifs,0⟩] scope pos) scope X.env pos' (newList []) false (eval iter X.env) use) Qf X.xe s:=by
 refine wpAny_comprehension_free (use:=use) rfl hs (closure_ok fun y hy e=>I.ok.has _ (ok.free y hy e)) ok.kind (fun y hy e=>(ok.uniq y hy).trans (congrArg some e)) (thn (hi.run pins s z H _ I h) fun _ s1 h1=>thn h1 ?_)
 rintro _ s2 ⟨it,fp,tn,J,H2,rfl,I2,T,st2,f2,q⟩
 refine wpAny_newObj_type (newEnv_comp ?_) (by show 0≤sizeLine;decide)
 obtain⟨W,⟨m0,w0⟩,turn⟩:=q s2.heap.objs.size (I2.hok.fresh (Nat.le_refl _))
 have O:=comp_open (ho:=.lst []) (ob:={ cls:=.type "list",data:=.seq ([]:List Value).toArray }) c nd ok I2 T st2 f2 fun H'=>⟨Nat.zero_le _,[],0,.nil,Heap.get?_push_size _ rfl⟩
 have gG:=InBlk.at hg (laidL s2) (upd H2 s2.heap.objs.size (.lst [])) fp O.cools
 have gT:=InBlk.at ht (laidL s2) (upd H2 s2.heap.objs.size (.lst [])) fp O.cools
 have gE:=InBlk.at he (laidL s2) (upd H2 s2.heap.objs.size (.lst [])) fp O.cools
 refine(show codeAny _ _ (.compStart (.ListComp elt [⟨tg,iter,ifs,0⟩] scope pos) 0 (.ref it) (.ref s2.heap.objs.size) (blkEnv X scope (laidL s2))) (compPost _ _ _ use Qf (.ref s2.heap.objs.size) (laidL s2).heap.objs.size) (blkFirst scope (laidL s2)) from ?_)
 revert O gG gT gE w0 turn
 show (∀i m H,W i m H→_)→W 0 m0 (upd H2 s2.heap.objs.size (.lst []))→Opened X pins z scope own fp tn (laidL s2) (upd H2 s2.heap.objs.size (.lst [])) (blkEnv X scope (laidL s2)) (blkFirst scope (laidL s2))→_
 generalize upd H2 s2.heap.objs.size (.lst [])=Hd
 generalize s2.heap.objs.size=D
 generalize laidL s2=start
 generalize blkEnv X scope start=ce
 generalize blkFirst scope start=first
 intro turn w0 O gG gT gE
 refine(fun loop=>codeAny_compStart_list loop (T.self X.A 0 _ _ _ O.st loop)) ?_
 refine compLoop_any (fun n now=>∃i H',(Inv (X.blk start Hd scope ce fp) [] (wipe z (own.map (·.2))) H' now∧tn i now.heap∧∀b∈fp,H' b=none)∧W i n H') (fun n s5=>?_) m0 ⟨0,Hd,⟨O.ins,O.st,O.clear⟩,w0⟩
 rintro⟨i,H5,⟨I5,st5,n5⟩,w5⟩
 rcases turn i n H5 w5 with⟨stop,qq⟩ | ⟨go,Nx,hNx,step⟩
 ·refine thnF (T.done (X.blk start Hd scope ce fp) rfl rfl rfl O.cool i [] s5 _ H5 (fun _ _=>False) I5 (O.foot I5 n5) st5 stop) ?_
  rintro _ s6 ⟨rfl,I6⟩
  obtain⟨I7,⟨m,hn⟩,fC⟩:=O.back I6
  exact out D start.heap.objs.size s6 m H5 I7 qq hn fC
 ·refine thnF (T.item (X.blk start Hd scope ce fp) rfl rfl rfl O.cool i [] s5 _ H5 (fun _ _=>False) I5 (O.foot I5 n5) st5 go) ?_
  rintro _ s6 ⟨u,rfl,h6⟩
  refine thnF h6 fun _ s7 ⟨x,H7,I7,r7,y7,st7,n7⟩=>?_
  refine thnF (gG.run _ s7 _ H7 x u _ (I7.pinned (O.foot I7 n7) (T.obj _ _ st7)) r7 (step x H7 y7)) fun _ s8 ⟨z8,H8,I8,same,q8⟩=>?_
  have fin:∀{s':Shared} {H':Hp},Inv (X.blk start Hd scope ce fp) ([]++pinsAt fp s7.heap) z8 H' s'→Nx H'→∃m,m<n∧∃i H',(Inv (X.blk start Hd scope ce fp) [] (wipe z (own.map (·.2))) H' s'∧tn i s'.heap∧∀b∈fp,H' b=none)∧W i m H':=fun {s' H'} I' nx=>
   have ⟨m',less,w'⟩:=hNx H' nx
   ⟨m',less,i+1,H',Turn.next (X:=X.blk start Hd scope ce fp) T st7 I' (wiped same).1 (wiped same).2,w'⟩
  refine thnF (gT.run _ s8 z8 H8 _ I8 q8) fun b s9 ⟨H9,I9,q9⟩=>?_
  cases b with
  | false=>rw[if_neg Bool.false_ne_true] at q9⊢;exact fin I9 q9
  | true=>
   rw[if_pos rfl] at q9⊢
   refine thnF (gE.run _ s9 z8 H9 _ I9 q9) fun v s10 ⟨y,H10,I10,r10,acc,hD,hz,nx⟩=>?_
   exact app_ok (X:=X.blk start Hd scope ce fp) I10 hD hz r10 fun s11 I11=>fin I11 nx
theorem out_val {pins:List (Addr×Obj)} {z:L2.St} {Q:VK} {D C:Addr} {s':Shared} {m:Str→Option Value} {H':Hp} (I:Inv X pins z H' s') (q:Q (.ref D) H') (hn:s'.heap.Ns C m) (f:FpOk X pins H' C) :
  compPost (model X.prog X.w) X.A X.xe none (EP X pins z Q) (.ref D) C (.ok .next) s':=
 ⟨m,hn,fun h'' sb=>⟨.ref D,H',I.turned (t':=s'.toks) (fun b o hb e=>(sb.2 b hb).trans e) f.1 f.2.1 f.2.2.2.1 f.2.2.2.2.1 f.2.2.2.2.2,rfl,q⟩⟩
theorem out_set {pins:List (Addr×Obj)} {z:L2.St} {E:Ends} {i:Nat} {y:Str} {py:Pos} {D C:Addr} {s':Shared} {m:Str→Option Value} {H':Hp} (nd:X.N.Nodup) (hy:X.N[i]?=some y) (hyl:X.env.scope.names.lookup y=some .local)
  (I:Inv X pins z H' s') (q:gName i (.ref D) z H' E.nx) (hn:s'.heap.Ns C m) (f:FpOk X pins H' C):compPost (model X.prog X.w) X.A X.xe (some (assign (.Name y py) X.env)) (fun _ s'=>SP X pins E .next s') (.ref D) C (.ok .next) s':=by
 refine wpAny_assign_Name (store_ok2 (v:=V.ref D) I nd hy (.inl hyl) rfl (fun s2 I2 ⟨a,sb,ha⟩=>?_) (.inr hyl))
 have ne:C≠a:=ha.elim (fun e=>e▸f.2.1) fun e=>fun e'=>f.2.2.2.2.1 y a e e'.symm
 exact⟨m,hn.sameBut sb ne,fun h3 sb3=>⟨_,H',I2.turned (t':=s2.toks) (fun b o hb e=>(sb3.2 b hb).trans e) f.1 f.2.1 f.2.2.2.1 f.2.2.2.2.1 f.2.2.2.2.2,q⟩⟩
section
variable {elt tg iter tg1 iter1:Expr} {ifs ifs1:List Expr} {scope:Scope} {own:List (Str×Nat)} {vs1:List Nat} {pos pos' spos py:Pos} {wi wi1:TI} {g g1:TG} {tt tt1:TT} {te:TE} {i:Nat} {y:Str}
theorem pe_lc (c:Cool X) (nd:X.N.Nodup) (hi:PI X tg iter wi) (ok:BlkOk X.N X.env.scope scope own) (hg:InBlk X scope fun Y=>PG Y tg g) (ht:InBlk X scope fun Y=>PTs Y ifs tt) (he:InBlk X scope fun Y=>PE Y elt te)
  (hs:∀x,foldedSetIterable iter X.env x=pure x:=by intro _;rfl):PE X (.ListComp elt [⟨tg,iter,ifs,0⟩] scope pos) (tLc wi g tt te (own.map (·.2))):=
 ⟨fun pins s z H Q I h=>by
  rw[eval_ListComp]
  exact lc_core c nd I hi ok hg ht he hs h fun D C s' m H' I' q hn f=>out_val I' q hn f⟩
theorem ps_setLc (c:Cool X) (nd:X.N.Nodup) (hy:X.N[i]?=some y) (hyl:X.env.scope.names.lookup y=some .local) (hsw:swapsWith (.ListComp elt [⟨tg,iter,ifs,0⟩] scope pos) (some (.Name y py)) spos.line X.env=pure true)
  (hi:PI X tg iter wi) (ok:BlkOk X.N X.env.scope scope own) (hg:InBlk X scope fun Y=>PG Y tg g) (ht:InBlk X scope fun Y=>PTs Y ifs tt) (he:InBlk X scope fun Y=>PE Y elt te) (hs:∀x,foldedSetIterable iter X.env x=pure x:=by intro _;rfl) :
  PS X (.Assign [.Name y py] (.ListComp elt [⟨tg,iter,ifs,0⟩] scope pos) spos) (tAsg (tLc wi g tt te (own.map (·.2))) (gName i)):=
 ⟨fun pins s z H E I h=>by
  rw[exec_Assign_Name_used _ _ _ _ hsw]
  have h:tLc wi g tt te (own.map (·.2)) z H (fun x H1=>gName i x z H1 E.nx):=h
  exact wpAny_bind (wpAny_standAt (wpAny_bind (wpAny_bind (thn (lc_core (Qf:=fun _ s'=>SP X pins E .next s') c nd I hi ok hg ht he hs h fun D C s' m H' I' q hn f=>out_set nd hy hyl I' q hn f) fun _ s' hq=>wpAny_pure (wpAny_pure hq)))))⟩
end
end
end M3
namespace M3
open PySem PySem.Spec PyProof.Rows L2
abbrev CXH:=Option Value→CXT
def CXq (P:Program) (w:World):CXH:=fun hd outer H s E u s'=>(hd=none∧L2N.CX P w outer H s E u s')∨(hd≠none∧L2.CX P w outer H s E u s')
theorem noCX {P:Program} {w:World} {hd:Option Value} {outer:List Env} {H:Hp} {s:Shared} {u:Value} {s':Shared} (c:CXq P w hd outer H s (fun _ _ _=>False) u s'):False:=by
 rcases c with⟨_,a,B,H',cls,d,e,fl,hok,ub,na,os,ag,q⟩ | ⟨_,a,B,H',cls,d,e,fl,hok,ub,na,os,ag,q⟩
 ·exact q
 ·exact q
structure Takes (X:Cx) (W:WX):Prop where
 calm:X.A.handled=none→L2N.Takes X W
 hot:X.A.handled≠none→L2.Takes X W
section
variable {X:Cx} {W W':WX}
theorem Takes.imp (t:Takes X W) (h:∀c d z H,W' c d z H→W c d z H):Takes X W':=⟨fun n=>(t.calm n).imp h,fun n=>(t.hot n).imp h⟩
theorem Takes.call {E:XK} (tk:Takes X W) {z:L2.St} (hW:∀cls d H,E cls d H→W cls d z H):PassesAt (CXq X.prog X.w X.A.handled) X z E:=fun pins H s e s' I c=>by
 rcases c with⟨n,c⟩ | ⟨n,c⟩
 ·exact tk.calm n e s' (L2N.XE.of_call I hW c)
 ·exact tk.hot n e s' (L2.XE.of_call I hW c)
theorem passAt (tk:Takes X W) (z:L2.St):PassesAt (CXq X.prog X.w X.A.handled) X z (WE W z):=tk.call fun _ _ _ h=>h
theorem passes_call {E:XK} (tk:Takes X W) (hW:∀cls d z H,E cls d H→W cls d z H):Passes (CXq X.prog X.w X.A.handled) X E:=fun pins z H s e s' I c=>tk.call (fun cls d H' h=>hW cls d z H' h) pins H s e s' I c
theorem takes_of {hd:Option Value} {E:XK} (hs:X.stack=X.env :: X.outer) (hf:X.env.frame=some X.env.locals) (hex:X.ex=[]) {E1:Value→Shared→Prop}
  (hx:X.xe=fun e s'=>wpAny (model X.prog X.w) X.A (leaving X.env e) (fun _ s''=>CXq X.prog X.w hd X.outer X.H_0 X.s_0 E e s'') E1 s') (eh:X.A.handled=hd:=by rfl):Takes X (fun cls d _ H=>E cls d H):=by
 refine⟨fun n u s' x=>?_,fun n u s' x=>?_⟩
 ·rw[hx]
  exact wpAny_mono (L2N.XE.leave (W:=fun cls d _ H=>E cls d H) (E:=E) hs hf hex (fun _ _ _ _ h=>h) x) (fun _ _ c=>.inl ⟨eh▸n,c⟩) fun _ _ e=>e
 ·rw[hx]
  exact wpAny_mono (L2.XE.leave (W:=fun cls d _ H=>E cls d H) (E:=E) hs hf hex (fun _ _ _ _ h=>h) x) (fun _ _ c=>.inr ⟨eh▸n,c⟩) fun _ _ e=>e
theorem takes0:Takes X (fun _ _ _ _=>False):=⟨fun _ _ _ x=>by obtain⟨_,_,_,_,_,_,_,_,_,_,_,_,_,_,_,_,z⟩:=x;exact z.elim,fun _ _ _ x=>by obtain⟨_,_,_,_,_,_,_,_,_,_,_,_,_,_,_,_,z⟩:=x;exact z.elim⟩
theorem ps_raise {e:Expr} {t:L2.St→Hp→XK→Prop} {pos:Pos} (c:Cool X) (tk:Takes X W) (he:L2N.PMk X e t):PS X (.Raise (some e) none pos) (fun _ z H=>t z H fun cls d H'=>W cls d z H'):=by
 refine⟨fun pins s z H D I h=>?_⟩
 refine(show wpAny _ _ (do standAt pos;raiseStmt X.env (some (do let v ← eval e X.env;standAt pos;pure v)) none) _ _ _ from wpAny_bind (wpAny_standAt ?_))
 have made:=he pins s z H _ I h
 rcases c with c | ⟨p,⟨hh,v1,e1,c1⟩,hp⟩
 ·refine raise_made c (wpAny_bind (wpAny_mono made (fun u s1 hu=>wpAny_bind (wpAny_standAt (wpAny_pure ?_))) fun _ _ x=>x))
  obtain⟨a,oe,vs,sI,H',cls,d,rfl,J,k,hne,ha,hz,hd,h1,na,os,ag,r,q⟩:=hu
  obtain⟨r1,r2⟩:=r (model X.prog X.w) s1.heap (J.kIn.keeps k)
  exact⟨a,oe,vs,cls,rfl,ha,hz.1,hd,h1,r1,r2,tk.calm c _ _ (L2N.XE.new J k hne ha hz hd h1 na os ag q)⟩
 ·refine HotX.raise_made_hot (x1:=p.1) (wpAny_bind (wpAny_mono made (fun u s1 hu=>wpAny_bind (wpAny_standAt (wpAny_pure ?_))) fun _ _ x=>x))
  obtain⟨a,oe,vs,sI,H',cls,d,rfl,J,k,hne,ha,hz,hd,h1,na,os,ag,r,q⟩:=hu
  obtain⟨r1,r2⟩:=r (model X.prog X.w) s1.heap (J.kIn.keeps k)
  have g:=(now_of J hp).get
  have ne:p.1≠a:=fun y=>by rw[y,hne] at g;cases g
  have lt:2<vs.size:=(Array.getElem?_eq_some_iff.mp (hz.2.2 vs hd)).1
  have first:(vs.setIfInBounds 2 (Value.ref p.1))[1]?=some Value.none:=by
   rw[show (vs.setIfInBounds 2 (Value.ref p.1))[1]?=vs[1]? from by first | exact Array.getElem?_setIfInBounds_ne (by decide) | simp[Array.getElem?_setIfInBounds]]
   exact h1
  have kept:∀b u,sI.heap.get? b=some u→(s1.heap.update a (Obj.mapFields (·.setIfInBounds 2 (.ref p.1)))).get? b=some u:=fun b u y=>by
   rw[Heap.get?_update_other _ _ fun w=>by rw[←w,hne] at y;cases y]
   exact k b u y
  exact⟨a,oe,vs,cls,rfl,ha,hz.1,hd,h1,lt,ne,⟨hh,p.2,v1,k _ _ g,e1,c1⟩,r1,r2,
   tk.hot (by rw[hh];exact fun y=>nomatch y) _ _ (L2.XE.new J kept hne (Heap.get?_update_self _ ha (Obj.isFreed_of_fields (Obj.data_mapFields hd _))) ⟨(Obj.cls_mapFields ..).trans hz.1,(HandSPX.dict_mapFields ..).trans hz.2.1⟩ (Obj.data_mapFields hd _) first na os ag q)⟩
end
def Zq (X:Cx) (cls:Value) (d:Option Addr) (o:Obj):Prop:=Zc cls d o∧(X.A.handled=none→PXN.CtxN o)
theorem Zq.hot {X:Cx} {a:Addr} {o:Obj} {cls:Value} {d:Option Addr} {pn:List (Addr×Obj)} (h:Zq X cls d o) (c:X.A.handled=none) (hf:∃vs,o.data=.fields vs):L2H.HotC (X.suite a ((a,o) :: pn)):=by
 obtain⟨vs,e⟩:=hf
 exact⟨(a,o),⟨rfl,vs,e,h.2 c vs e⟩,List.mem_cons_self⟩
section
variable {X:Cx} {x n:Str} {c:Value} {i:Nat} {body suite:List Stmt} {b0:Stmt} {np pos pos':Pos} {tb:WX→TS} {ts:Addr→Value→Option Addr→TS} {Wout:WX}
inductive HdsOk (X:Cx):List ExceptHandler→List (Value×(Addr→Value→Option Addr→TS))→Prop
 | nil:HdsOk X [] []
 | cons {x:Str} {c:Value} {ts:Addr→Value→Option Addr→TS} {b0:Stmt} {suite:List Stmt} {np pos':Pos} {hds:List ExceptHandler} {l:List (Value×(Addr→Value→Option Addr→TS))} (hc:Names X x c)
   (hsu:∀(a:Addr) (oe:Obj) (cls:Value) (d:Option Addr) (pn:List (Addr×Obj)),Zq X cls d oe→(∃vs,oe.data=.fields vs)→PSs (X.suite a ((a,oe) :: pn)) (b0 :: suite) (ts a cls d)) (r:HdsOk X hds l) :
   HdsOk X (.ExceptHandler (some (.Name x np)) none (b0 :: suite) pos' :: hds) ((c,ts) :: l)
theorem HdsOk.calm {hds:List ExceptHandler} {l:List (Value×(Addr→Value→Option Addr→TS))} (h:HdsOk X hds l):L2N.HdsOk X hds l:=by
 induction h with
 | nil=>exact .nil
 | cons hc hsu _ ih=>exact .cons hc (fun a oe cls d pn hz hv=>hsu a oe cls d pn ⟨hz.zc,fun _=>hz.2.2⟩ hv) ih
theorem HdsOk.hot {hds:List ExceptHandler} {l:List (Value×(Addr→Value→Option Addr→TS))} (n:X.A.handled≠none) (h:HdsOk X hds l):L2.HdsOk X hds l:=by
 induction h with
 | nil=>exact .nil
 | cons hc hsu _ ih=>exact .cons hc (fun a oe cls d pn hz hv=>hsu a oe cls d pn ⟨hz,fun e=>absurd e n⟩ hv) ih
end
end M3
namespace M3
open PySem PySem.Spec PyProof.Rows L2
structure RoomS (k:Nat) (A:Around) (s0:Shared) (H0:Hp) (fs ex:List Addr):Prop where
 dp:A.depth+3 * k+5<recursionLimit
 un:A.units+16 * k+200<cLine
 cools:CoolS A s0 H0 fs ex
abbrev Room (k:Nat) (X:Cx):Prop:=RoomS k X.A X.s_0 X.H_0 X.fs X.ex
def HotO (A:Around) (outer:List Env) (H:Hp) (s:Shared):Prop:=A.handled=none∨∃p,L2H.Hot1 A p∧L2H.PinOk outer H s p
structure RoomC (k:Nat) (A:Around) (outer:List Env) (H:Hp) (s:Shared):Prop where
 dp:A.depth+3 * k+5<recursionLimit
 un:A.units+16 * k+200<cLine
 hot:HotO A outer H s
section
variable {j k:Nat} {A:Around} {outer:List Env} {H:Hp} {s:Shared} {X:Cx} {pins:List (Addr×Obj)} {z:L2.St}
theorem RoomS.mono {A:Around} {s0:Shared} {H0:Hp} {fs ex:List Addr} (r:RoomS k A s0 H0 fs ex) (h:j≤k):RoomS j A s0 H0 fs ex:=⟨by have:=r.dp;omega,by have:=r.un;omega,r.cools⟩
theorem RoomS.cool (r:Room k X):Cool X:=r.cools.cool
theorem RoomS.depth {A:Around} {s0:Shared} {H0:Hp} {fs ex:List Addr} (r:RoomS k A s0 H0 fs ex):A.depth<recursionLimit:=by have:=r.dp;omega
theorem RoomS.blk {A:Around} {s0 s1:Shared} {H0 H1:Hp} {fs ex fs1 ex1:List Addr} (r:RoomS k A s0 H0 fs ex) (c:CoolS A s1 H1 fs1 ex1):RoomS k A s1 H1 fs1 ex1:=⟨r.dp,r.un,c⟩
theorem RoomC.mono (r:RoomC k A outer H s) (h:j≤k):RoomC j A outer H s:=⟨by have:=r.dp;omega,by have:=r.un;omega,r.hot⟩
theorem RoomC.depth (r:RoomC k A outer H s):A.depth<recursionLimit:=by have:=r.dp;omega
theorem RoomC.of (r:L2.Room k A):RoomC k A outer H s:=⟨r.dp,r.un,.inl r.hd⟩
theorem RoomS.call (r:Room k X) (I:Inv X pins z H s):RoomC k X.A X.stack H s:=by
 refine⟨r.dp,r.un,?_⟩
 rcases r.cool with c | ⟨p,h1,h⟩
 ·exact .inl c
 ·have n:=now_of I h
  exact .inr ⟨p,h1,n.get,n.free,n.nofr,n.nocell⟩
theorem RoomC.in1 (r:RoomC (k+1) A outer H s):RoomC k A.in1 outer H s:=⟨by have:=r.dp;show A.depth+3 * k+5<_;omega,by have:=r.un;show A.units+1+16 * k+200<_;omega,r.hot⟩
theorem handled_make {C:Addr} {us:List Value} {kw:List (Str×Value)}:(A.under (.builtin "type.__call__" ⟨.ref C :: us,kw⟩)).handled=A.handled:=by
 first | rfl | simp[Around.under]
theorem RoomC.make (r:RoomC (k+1) A outer H s) (C:Addr) (us:List Value) (kw:List (Str×Value)):RoomC k (A.under (.builtin "type.__call__" ⟨.ref C :: us,kw⟩)) outer H s:=by
 refine⟨by have:=r.dp;rw[make_depth];omega,by have:=r.un;rw[make_units];omega,?_⟩
 rcases r.hot with c | ⟨p,⟨h1,h2⟩,h3⟩
 ·exact .inl (handled_make.trans c)
 ·exact .inr ⟨p,⟨handled_make.trans h1,h2⟩,h3⟩
theorem RoomC.tok (r:RoomC k A outer H s) (t:Nat):RoomC k A outer H { s with toks:=t }:=⟨r.dp,r.un,r.hot.imp id fun ⟨p,h,q⟩=>⟨p,h,q.get,q.free,q.nofs,q.nocell⟩⟩
end
structure FnOk (P:Program) (w:World) (K:PySem.W.Frag) (mg:Str→Option Value) (base:Heap) (CX:CXH) (k:Nat) (f:Addr) (fd:FuncData) (ps:List Str) (sp:Sp):Prop where
 len:∀vs H Q E,sp vs H Q E→vs.length=ps.length
 run:∀(A:Around) (outer:List Env) (s:Shared) (H:Hp) (args:Args) (us:List Value) (vs:List V) (Q:VK) (E:XK),RoomC k A outer H s→Env0 P w K mg base A outer s H→BindsTo s fd args (ps.zip us)→Vals vs us→sp vs H Q E→
  codeAny (model P w) A (.call (.ref f) args) (CR (CX A.handled) outer P w H s Q E) s
section
variable {P:Program} {w:World} {K:PySem.W.Frag} {mg:Str→Option Value} {base:Heap} {CX:CXH} {j k:Nat} {f:Addr} {fd:FuncData} {ps:List Str} {sp sp':Sp}
theorem FnOk.mono (F:FnOk P w K mg base CX j f fd ps sp) (h:j≤k):FnOk P w K mg base CX k f fd ps sp:=⟨F.len,fun A outer s H args us vs Q E hr=>F.run A outer s H args us vs Q E (hr.mono h)⟩
theorem FnOk.imp (F:FnOk P w K mg base CX k f fd ps sp) (h:∀vs H Q E,sp' vs H Q E→sp vs H Q E):FnOk P w K mg base CX k f fd ps sp':=
 ⟨fun vs H Q E q=>F.len vs H Q E (h _ _ _ _ q),fun A outer s H args us vs Q E hr e b r q=>F.run A outer s H args us vs Q E hr e b r (h _ _ _ _ q)⟩
theorem FnOk.calm (F:FnOk P w K mg base CX k f fd ps sp):L2.FnOk P w K mg base (CX none) k f fd ps sp:=⟨F.len,fun A outer s H args us vs Q E hr e b r q=>by
 have h:=F.run A outer s H args us vs Q E (.of hr) e b r q
 rw[hr.hd] at h
 exact h⟩
theorem CXq.zc {hd:Option Value} {outer:List Env} {H:Hp} {s:Shared} {E:XK} {u:Value} {s':Shared} (c:CXq P w hd outer H s E u s'):L2.CX P w outer H s E u s':=by
 rcases c with⟨_,a,B,H',cls,d,e,⟨f1,f2,f3,oe,vs,T,oT,ts,g,z,r⟩,q⟩ | ⟨_,c⟩
 ·exact⟨a,B,H',cls,d,e,⟨f1,f2,f3,oe,vs,T,oT,ts,g,L2N.Zn.zc z,r⟩,q⟩
 ·exact c
theorem FnOk.low (F:FnOk P w K mg base (CXq P w) k f fd ps sp):L2.FnOk P w K mg base (L2.CX P w) k f fd ps sp:=⟨F.len,fun A outer s H args us vs Q E hr e b r q=>codeAny_mono (F.run A outer s H args us vs Q E (.of hr) e b r q) fun r s' h=>match r,h with
 | .ok (.ret _),h=>h
 | .error _,h=>h.zc⟩
end
abbrev Cx.low (X:Cx):Cx:={ X with calm:=false,pn:=[] }
def cxOf (CX:CXH) (P:Program) (w:World) (K:PySem.W.Frag) (mg:Str→Option Value) (base:Heap) (N:List Str) (qual:Str) (scope:Scope) (f:Addr) (cd:Value) (A:Around) (outer:List Env) (s:Shared) (H:Hp) (E:XK):Cx:=
 { L2.cxOf (CX A.handled) P w K mg base N qual scope f cd A outer s H E with calm:=false }
theorem inv_low {X:Cx} {pins:List (Addr×Obj)} {z:L2.St} {H:Hp} {s:Shared} (I:Inv X pins z H s):Inv (Cx.low X) pins z H s:=
 ⟨⟨I.ok.mod,I.ok.kind,I.ok.glob,I.ok.blt,I.ok.above,I.ok.inj,I.ok.has,I.ok.cab,(fun e=>by cases e),I.ok.frames,I.ok.stk,I.ok.exf,I.ok.bs,I.ok.bsz,I.ok.noex,I.ok.exfs,I.ok.funs,I.ok.frf⟩,
  I.os,I.bare,I.base,I.loc,I.cell,I.free,I.freeC,fun p hp=>I.pin p (List.mem_append_right _ hp),I.hok,I.len⟩
section
variable {CX:CXH} {P:Program} {w:World} {K:PySem.W.Frag} {mg:Str→Option Value} {base:Heap} {N ps:List Str} {qual:Str} {scope:Scope} {f:Addr} {cd:Value} {A:Around} {outer:List Env} {s s1:Shared} {H:Hp} {E:XK} {us:List Value} {vs:List V}
theorem inv_start (S:FnScope N ps scope) (hd:HotO A outer H s) (e0:Env0 P w K mg base A outer s H) (hl:vs.length=ps.length) (r:Vals vs us)
  (x:InCallC s s.heap.objs.size (bindL (envOfC qual scope s.heap.objs.size f cd).kindOf (ps.zip us) fun _=>none) (cellsFrom (s.heap.objs.size+1) scope.names []) (bindC (envOfC qual scope s.heap.objs.size f cd).kindOf (ps.zip us) fun _=>none) s1) :
  Inv (cxOf CX P w K mg base N qual scope f cd A outer s H E) [] (L2.start N vs) H s1:=by
 rcases hd with c | ⟨p,_,hp⟩
 ·exact inv_low (L2.inv_start (CX:=CX A.handled) (E:=E) S c e0 hl r x)
 ·exact inv_low (X:=L2H.cxH (CX A.handled) P w K mg base N qual scope f cd A outer s H E p) (L2H.inv_startH S hp e0 hl r x)
theorem HotO.cools (hd:HotO A outer H s):CoolS A s H (frs outer) []:=hd.imp id fun ⟨p,h,hp⟩=>⟨p,h,hp.get,hp.free,hp.nofs,by simp,hp.nocell⟩
theorem RoomC.inside {k:Nat} (r:RoomC (k+1) A outer H s):Room k (cxOf CX P w K mg base N qual scope f cd A outer s H E):=
 ⟨by have:=r.dp;show A.depth+1+3 * k+5<_;omega,by have:=r.un;show A.units+3+16 * k+200<_;omega,r.hot.cools⟩
end
theorem body_end {CX:CXT} {X:Cx} {outer:List Env} {s s0:Shared} {H:Hp} {Q:VK} {E:XK} {body:List Stmt} {t:TS} {z:L2.St} (ht:PSs X body t) (I:Inv X [] z X.H_0 s) (e1:frs outer=X.fs) (e2:X.ex=[]) (os:X.s_0.os=s0.os) (un:Un (frs outer) [] H X.H_0 s0.heap X.s_0.heap)
  (q:t { nx:=fun _ H'=>Q .non H',rt:=Q } z X.H_0) (hx:∀e s',X.xe e s'→wpAny (model X.prog X.w) X.A (leaving X.env e) (fun _ s''=>CX outer H s0 E e s'') (fun e' s''=>CX outer H s0 E e' s'') s') :
  wpAny (model X.prog X.w) X.A (execs body X.env) (fun fl s'=>CR CX outer X.prog X.w H s0 Q E (.ok (.ret (match fl with | .ret u=>u | _=>.none))) s') (fun e s'=>wpAny (model X.prog X.w) X.A (leaving X.env e) (fun _ s''=>CX outer H s0 E e s'') (fun e' s''=>CX outer H s0 E e' s'') s') s:=by
 have fin:∀{z':L2.St} {H':Hp} {v:V} {u:Value} {s':Shared},Inv X [] z' H' s'→RelV v u→Q v H'→CE outer X.prog X.w H s0 Q u s':=fun {z' H' v u s'} J rv y=>⟨v,H',J.os.trans os,J.bare,un.trans (by have b:=J.base;rw[e2,←e1] at b;exact b),J.hok,rv,y⟩
 refine wpAny_mono (ht.run [] s z X.H_0 _ I q) (fun fl s' hs=>?_) fun e s' hs=>hx e s' hs
 cases fl with
 | ret u=>obtain⟨v,z',H',J,rv,y⟩:=hs;exact fin J rv y
 | next=>obtain⟨z',H',J,y⟩:=hs;exact fin (v:=V.non) (u:=Value.none) J rfl y
 | brk=>obtain⟨_,_,_,y⟩:=hs;exact y.elim
 | cont=>obtain⟨_,_,_,y⟩:=hs;exact y.elim
end M3
namespace M3
open PySem PySem.Spec PyProof.Rows L2
section
variable {CX:CXH} {P:Program} {w:World} {K:PySem.W.Frag} {mg:Str→Option Value} {base:Heap} {k:Nat} {f:Addr} {name qual:Str} {params:Arguments} {body:List Stmt} {scope:Scope} {dV kV doc pm cdv ct oc:Value} {an od:Option Addr}
 {osl:Array (Option Value)} {N ps:List Str} {sp:Sp}
theorem fn_of (lk:K.lookup f=some ⟨oc,od,.func (PySem.W.fnOf name qual params body scope dV kV doc pm an cdv ct),osl⟩) (hcd:PySem.W.codeIn K cdv qual=true) (S:FnScope N ps scope) (len:∀vs H Q E,sp vs H Q E→vs.length=ps.length)
  (hbody:∀(A:Around) (outer:List Env) (s:Shared) (H:Hp) (vs:List V) (Q:VK) (E:XK),Room k (cxOf CX P w K mg base N qual scope f cdv A outer s H E)→sp vs H Q E→
   ∃t,PSs (cxOf CX P w K mg base N qual scope f cdv A outer s H E) body t∧t { nx:=fun _ H'=>Q .non H',rt:=Q } (L2.start N vs) H) :
  FnOk P w K mg base CX (k+1) f (PySem.W.fnOf name qual params body scope dV kV doc pm an cdv ct) ps sp:=by
 refine⟨len,fun A outer s H args us vs Q E hr e0 hb r hsp=>?_⟩
 have KX:K.In s.heap:=e0.mod.kin.keeps fun b o e=>(e0.bs b o e).1
 have slots:∀y∈ps.zip us,scope.names.lookup y.1=some .local∨(scope.names.lookup y.1=some .cell∧((cellsFrom (s.heap.objs.size+1) scope.names []).lookup y.1).isSome=true):=fun y hy=>
  (S.par y.1 (List.of_mem_zip hy).1).imp id fun q=>⟨q,PySem.W.cellsFrom_some _ _ _ (.inl q)⟩
 refine codeAny_call_function hr.depth (KX _ _ lk) rfl S.co S.gen rfl (PySem.W.codeRec_of KX hcd) (hb _ _ _ _ (wpAny_newFunctionEnv_cells S.kind slots ?_))
 rintro env rfl s1 x
 refine⟨(e0.mod.nolimit.keeps fun b o e=>(e0.bs b o e).1).keeps x.toInCall.keep,codeAny_func ?_⟩
 obtain⟨t,ht,q⟩:=hbody A outer s H vs Q E hr.inside hsp
 exact body_end (CX:=CX A.handled) (X:=cxOf CX P w K mg base N qual scope f cdv A outer s H E) (s0:=s) ht (inv_start S hr.hot e0 (len _ _ _ _ hsp) r x) rfl rfl rfl (Un.kept fun _ _ e=>e) q fun e s' h=>h
theorem okX {P:Program} {w:World} {K:PySem.W.Frag} {mg:Str→Option Value} {base:Heap} {x qual:Str} {st:Stmt} {f:Addr} {fd:FuncData} {N ps:List Str} {k:Nat} {sp:Sp} (F:Fun K x qual st f fd) (S:FnScope N ps (defScope st)) (len:∀vs H Q E,sp vs H Q E→vs.length=ps.length)
  (hbody:∀(cdv:Value) (A:Around) (outer:List Env) (s:Shared) (H:Hp) (vs:List V) (Q:VK) (E:XK),Room k (cxOf (CXq P w) P w K mg base N qual (defScope st) f cdv A outer s H E)→sp vs H Q E→
   ∃t,PSs (cxOf (CXq P w) P w K mg base N qual (defScope st) f cdv A outer s H E) (defBody st) t∧t { nx:=fun _ H'=>Q .non H',rt:=Q } (L2.start N vs) H):FnOk P w K mg base (CXq P w) (k+1) f fd ps sp:=by
 obtain⟨oc,od,kV,doc,pm,an,cdv,ct,osl,rfl,lk,hcd⟩:=F.ex
 exact fn_of lk hcd S len (hbody cdv)
end
def FnR (P:Program) (w:World) (K:PySem.W.Frag) (mg:Str→Option Value) (base:Heap) (CX:CXH) (k:Nat) (f:Addr) (sp:Sp):Prop:=
 ∀(A:Around) (outer:List Env) (s:Shared) (H:Hp) (us:List Value) (vs:List V) (Q:VK) (E:XK),RoomC k A outer H s→Env0 P w K mg base A outer s H→Vals vs us→sp vs H Q E→codeAny (model P w) A (.call (.ref f) ⟨us,[]⟩) (CR (CX A.handled) outer P w H s Q E) s
section
variable {P:Program} {w:World} {K:PySem.W.Frag} {mg:Str→Option Value} {base:Heap} {CX:CXH} {j k:Nat} {f:Addr} {sp sp':Sp}
theorem FnR.mono (F:FnR P w K mg base CX j f sp) (h:j≤k):FnR P w K mg base CX k f sp:=fun A outer s H us vs Q E hr=>F A outer s H us vs Q E (hr.mono h)
theorem FnR.imp (F:FnR P w K mg base CX k f sp) (h:∀vs H Q E,sp' vs H Q E→sp vs H Q E):FnR P w K mg base CX k f sp':=fun A outer s H us vs Q E hr e r q=>F A outer s H us vs Q E hr e r (h _ _ _ _ q)
end
section
variable {X:Cx} {CX:CXH} {k:Nat} {f C:Addr} {fd:FuncData} {ps:List Str} {sp:Sp} {dvs:List V} {ds:List Value} {x m:Str} {p pos apos:Pos} {e o:Expr} {es:List Expr} {ta:TE} {t:TA} {pins:List (Addr×Obj)} {z:L2.St} {H:Hp} {s:Shared} {Q:VK} {us:List Value} {vs:List V}
theorem came_call {CX:CXT} {Ez:XK} {a:Value} (hx:PassesAt CX X z Ez) (I:Inv X pins z H s) (h:codeAny (model X.prog X.w) X.A (.call a ⟨us,[]⟩) (CR CX X.stack X.prog X.w H s Q Ez) s):wpAny (model X.prog X.w) X.A (call a us) (EP X pins z Q) X.xe s:=by
 refine wpAny_call (codeAny_mono h fun r s' hq=>?_)
 match r,hq with
 | .error e,h=>exact hx pins H s e s' I h
 | .ok (.ret u),h=>exact I.after h
 | .ok .next,h=>exact h.elim
 | .ok .brk,h=>exact h.elim
 | .ok .cont,h=>exact h.elim
theorem run_fnSD {E:L2.St→XK} (F:FnOk X.prog X.w X.K X.mg X.base CX k f fd ps sp) (hr:Room k X) (hb:Binds X.K fd ps ds) (hd:Vals dvs ds) (hx:PassesAt (CX X.A.handled) X z (E z)) (I:Inv X pins z H s) (r:Vals vs us) (h:sp (vs++dvs) H Q (E z)) :
  wpAny (model X.prog X.w) X.A (call (.ref f) us) (EP X pins z Q) X.xe s:=by
 have r2:=r.append hd
 exact came_call hx I (F.run X.A X.stack s H ⟨us,[]⟩ (us++ds) (vs++dvs) Q (E z) (hr.call I) I.env0 (hb s us I.kIn (by rw[←r2.length];exact F.len _ _ _ _ h)) r2 h)
theorem run_fnS {E:L2.St→XK} (F:FnOk X.prog X.w X.K X.mg X.base CX k f fd ps sp) (hr:Room k X) (hb:Binds X.K fd ps []) (hx:PassesAt (CX X.A.handled) X z (E z)) (I:Inv X pins z H s) (r:Vals vs us) (h:sp vs H Q (E z)) :
  wpAny (model X.prog X.w) X.A (call (.ref f) us) (EP X pins z Q) X.xe s:=run_fnSD (dvs:=[]) F hr hb .nil hx I r (by rw[List.append_nil];exact h)
variable {E:L2.St→XK}
theorem pe_callS (F:FnOk X.prog X.w X.K X.mg X.base CX k f fd ps sp) (hr:Room k X) (hg:Gl X x) (hm:X.mg x=some (.ref f)) (hk:PySem.W.keepIn X.K (.ref f)=true) (hb:Binds X.K fd ps []) (hx:∀z,PassesAt (CX X.A.handled) X z (E z))
  (ha:PA X (e :: es) t) (hdb:(x == ("__debug__" : Str))=false:=by decide) (he:starEach (e :: es) X.env=(false,eval e X.env) :: starEach es X.env:=by rfl) (hpl:(backTo pos (starEach es X.env)).any (·.1)=false:=by rfl):PE X (.Call (.Name x p) (e :: es) [] pos) (tCallS sp E t):=
 ⟨fun pins s z H Q I h=>wpAny_Call_Name_kw (ld_glob I hg hm (PySem.W.callWith_K (h₀:=X.base) I.ok.mod.kin hk (thn (ha.run pos pins s z H _ I h) fun us s1 ⟨vs,H1,I1,r,q⟩=>⟨I1.kIn,run_fnS F hr hb (hx z) I1 r q⟩) he hpl) hdb)⟩
theorem pe_prop {g:Addr} {f:Str} {p:Addr} {E:XK} (he:PE X e ta) (c:Cls X.K C) (hp:PropOf X.K C f p g) (F:FnOk X.prog X.w X.K X.mg X.base CX k g fd ps sp) (hr:Room (k+1) X) (hb:Binds X.K fd ps ds) (hd:Vals dvs ds) (hx:Passes (CX X.A.handled) X.nox E)
  (hab:attributeBase e f X.env (eval e X.env)=eval e X.env):PE X (.Attribute e f pos) (tProp C sp dvs E ta):=by
 refine⟨fun pins s z H Q I h=>attr_of hab (thn (he.run pins s z H _ I h) ?_)⟩
 rintro u s1 ⟨x,H1,I1,rx,a,dx,fs,rfl,ea,q⟩
 obtain rfl:u=Value.ref a:=rx
 obtain⟨_,O,_,_,_,_⟩:=ins_get I1.hok ea
 obtain⟨od,J,_⟩:=O.look
 obtain⟨rest,rec⟩:=hp.rec_
 have I2:=I1.tok (s1.toks+1)
 have hl:([Value.ref a]++ds).length=ps.length:=by
  rw[←F.len _ _ _ _ q]
  exact(congrArg Nat.succ hd.length.symm)
 have hc:(PySem.W.clsIn X.K C).isSome=true:=by
  obtain⟨cd,e,_⟩:=PySem.W.any_some c.hd
  rw[e];rfl
 refine PySem.W.get_bind I1.kIn J (PySem.W.plainGet_of (c.get f)).1 (PySem.W.findObj_data hc hp.at_ hp.get hp.tak) (PySem.W.plainGet_of (c.get f)).2 (wpAny_call (PySem.W.prop_get (s:={ s1 with toks:=s1.toks+1 }) I1.kIn rec ?_))
 refine codeAny_mono (F.run X.A.in1 X.stack { s1 with toks:=s1.toks+1 } H1 ⟨[.ref a],[]⟩ (.ref a :: ds) (.ref a :: dvs) Q E (hr.call I2).in1 I2.env0.in1 (hb _ [.ref a] I2.kIn hl) (.cons rfl hd) q) fun r s' hq=>?_
 match r,hq with
 | .error er,hq=>exact(hx pins z H1 { s1 with toks:=s1.toks+1 } er s' (I2.wish _) hq).elim
 | .ok (.ret u),hq=>
  obtain⟨v,H',I3,rv,y⟩:=I2.after hq
  refine(show wpAny _ _ (handedOut u) _ _ _ from ?_)
  rw[PySem.W.handedOut_of (handed_of rv)]
  exact wpAny_pure ⟨v,H',I3,rv,y⟩
 | .ok .next,hq=>exact hq.elim
 | .ok .brk,hq=>exact hq.elim
 | .ok .cont,hq=>exact hq.elim
end
end M3
namespace M3
open PySem PySem.Spec PyProof.Rows L2
section
variable {prog:Program} {w:World} {A:Around}
theorem hotAt_keep {x:Addr} {h h':Heap} (c:HotX.HotAt A x h) (k:∀o,h.get? x=some o→h'.get? x=some o):HotX.HotAt A x h':=let ⟨a,o,vs,g,r⟩:=c;⟨a,o,vs,k o g,r⟩
theorem walks_cool {I:Addr} {fp wr:List Addr} {n:Nat} {P:Nat→Value→Prop} {St:Nat→Heap→Prop} {h0:Heap} (c:CoolBut A h0 I) (hw:∀b∈wr,b=I) (st0:St 0 h0) (sub:∀b∈wr,b∈fp)
  (frame:∀i h h',St i h→(∀b∈fp,∀o,h.get? b=some o→h'.get? b=some o)→St i h')
  (item:∀i (s:Shared) (Q:Option Value→Shared→Prop) (E:Value→Shared→Prop),i<n→St i s.heap→(∀v h' tk,P i v→St (i+1) h'→(∀b o,b∉wr→s.heap.get? b=some o→h'.get? b=some o)→Q (some v) { s with heap:=h',toks:=tk })→wpAny (model prog w) A (pyNext (.ref I)) Q E s)
  (done:∀(s:Shared) (Q:Option Value→Shared→Prop) (E:Value→Shared→Prop),CoolBut A s.heap I→St n s.heap→(∀h' tk,(∀b o,b∉wr→s.heap.get? b=some o→h'.get? b=some o)→Q none { s with heap:=h',toks:=tk })→wpAny (model prog w) A (pyNext (.ref I)) Q E s)
  (self:∀i (s:Shared) (Q:Value→Shared→Prop) (E:Value→Shared→Prop),St i s.heap→Q (.ref I) s→wpAny (model prog w) A (pyIter (.ref I)) Q E s) :
  ∃fp' St',Walks prog w A I fp' wr n P St'∧St' 0 h0∧∀b∈fp',b∈fp∨∃o,h0.get? b=some o:=by
 rcases c with c | ⟨x,ne,c⟩
 ·exact⟨fp,St,⟨sub,frame,item,fun s Q E=>done s Q E (.inl c),self⟩,st0,fun b hb=>.inl hb⟩
 ·refine⟨x :: fp,fun i h=>St i h∧HotX.HotAt A x h,⟨fun b hb=>List.mem_cons_of_mem _ (sub b hb),fun i h h' st k=>⟨frame i h h' st.1 fun b hb=>k b (List.mem_cons_of_mem _ hb),hotAt_keep st.2 (k x List.mem_cons_self)⟩,fun i s Q E hi st q=>?_,fun s Q E st=>done s Q E (.inr ⟨x,ne,st.2⟩) st.1,fun i s Q E st=>self i s Q E st.1⟩,⟨st0,c⟩,fun b hb=>?_⟩
  ·exact item i s Q E hi st.1 fun v h' tk p st' k=>q v h' tk p ⟨st',hotAt_keep st.2 fun o e=>k x o (fun m=>ne (hw x m)) e⟩ k
  ·rcases List.mem_cons.mp hb with rfl | hb
   ·obtain⟨_,o,_,g,_⟩:=c
    exact .inr ⟨o,g⟩
   ·exact .inl hb
theorem walks_list {h0:Heap} {I ax:Addr} {items:Array Value} (c:CoolBut A h0 I) (ne:ax≠I) (st:h0.IsListIter I ax 0∧h0.IsList ax items):∃fp St,Walks prog w A I fp [I] items.size (fun i v=>items[i]?=some v) St∧St 0 h0∧∀b∈fp,∃o,h0.get? b=some o:=by
 obtain⟨fp,St,W,s0,f⟩:=walks_cool (prog:=prog) (w:=w) (fp:=[I,ax]) (wr:=[I]) (n:=items.size) (P:=fun i v=>items[i]?=some v) (St:=fun i h=>h.IsListIter I ax i∧h.IsList ax items) c (fun b hb=>List.mem_singleton.mp hb) st
  (fun b hb=>by rw[List.mem_singleton.mp hb];exact List.mem_cons_self) (fun i h h' st k=>⟨st.1.at fun o e=>k I List.mem_cons_self o e,st.2.at fun o e=>k ax (List.mem_cons_of_mem _ List.mem_cons_self) o e⟩)
  (fun i s Q E hi st q=>wpAny_pyNext_list_item st.1 st.2 (x:=items[i]) (by simp[hi]) fun h' it' sb=>q _ h' s.toks (by simp[hi]) ⟨it',st.2.extBut sb.extBut ne⟩ fun b o hb e=>sb.extBut b o (fun z=>hb (List.mem_singleton.mpr z)) e)
  (fun s Q E c st q=>listStop c st.1 st.2 (by simp) fun h' k=>q h' s.toks fun b o hb e=>k b o (fun z=>hb (List.mem_singleton.mpr z)) e) (fun i s Q E st q=>wpAny_pyIter_listiter st.1 q)
 refine⟨fp,St,W,s0,fun b hb=>?_⟩
 rcases f b hb with hb | h
 ·rcases List.mem_cons.mp hb with rfl | hb
  ·exact let ⟨o,e,_⟩:=st.1;⟨o,e⟩
  ·rw[List.mem_singleton.mp hb]
   exact let ⟨o,e,_⟩:=st.2;⟨o,e⟩
 ·exact h
end
theorem CoolAt.fresh {A:Around} {h h':Heap} (c:CoolAt A h) (k:∀b o,h.get? b=some o→h'.get? b=some o):CoolBut A h' h.objs.size:=c.imp id fun ⟨x,hc⟩=>⟨x,let ⟨_,o,_,g,_⟩:=hc;Nat.ne_of_lt (Heap.lt_size g),hotAt_keep hc (k x)⟩
def CoolBut2 (A:Around) (h:Heap) (I S:Addr):Prop:=A.handled=none∨∃x,(x≠I∧x≠S)∧HotX.HotAt A x h
section
variable {A A':Around} {h h':Heap} {I S:Addr}
theorem CoolBut2.but (c:CoolBut2 A h I S):CoolBut A h I:=c.imp id fun ⟨x,n,q⟩=>⟨x,n.1,q⟩
theorem CoolBut2.keep (c:CoolBut2 A h I S) (k:∀b o,b≠I→b≠S→h.get? b=some o→h'.get? b=some o):CoolBut2 A h' I S:=c.imp id fun ⟨x,n,q⟩=>⟨x,n,hotAt_keep q fun o=>k x o n.1 n.2⟩
theorem CoolBut2.around (c:CoolBut2 A h I S) (e:A'.handled=A.handled):CoolBut2 A' h I S:=c.imp e.trans fun ⟨x,n,q⟩=>⟨x,n,e.trans q.1,q.2⟩
theorem CoolAt.but2 (c:CoolAt A h) (hI:h.objs.size≤I) (hS:h.objs.size≤S) (k:∀b o,h.get? b=some o→h'.get? b=some o):CoolBut2 A h' I S:=c.imp id fun ⟨x,q⟩=>
 ⟨x,let ⟨_,o,_,g,_⟩:=q;⟨Nat.ne_of_lt (Nat.lt_of_lt_of_le (Heap.lt_size g) hI),Nat.ne_of_lt (Nat.lt_of_lt_of_le (Heap.lt_size g) hS)⟩,hotAt_keep q (k x)⟩
end
section
variable {X:Cx}
theorem cr_any (hc:Cool X):CallR X (.builtin "any") (rAny X.K):=by
 rintro pins s z H _ us Q I r ⟨a,bs,rfl,hs,q⟩
 obtain⟨its,rv,hl,_⟩:=I.list hs
 rw[Vals.ref1 r]
 have hb:=rv.bls
 refine call_any_walk (iter_any hl.isList ?_)
 rintro _ rfl st ne
 obtain⟨fp,St,W,s0,_⟩:=walks_list (A:=X.A.in1) (prog:=X.prog) (w:=X.w) ((hc.at I).fresh fun b o e=>Heap.get?_push_of_some _ e) ne st
 refine⟨_,_,_,_,_,_,_,rfl,W,s0,truth_bools hb,fun h' tk hk=>⟨.bl _,H,I.kept fun b o eo=>hk b o (fun m=>Nat.lt_irrefl _ (List.mem_singleton.mp m▸Heap.lt_size eo)) (Heap.get?_push_of_some _ eo),?_,q⟩⟩
 show Value.bool _=Value.bool _
 rw[←L2.any_range,hb,List.size_toArray,List.length_map]
theorem cr_all (hc:Cool X):CallR X (.builtin "all") (rAll X.K):=by
 rintro pins s z H _ us Q I r ⟨a,bs,rfl,hs,q⟩
 obtain⟨its,rv,hl,_⟩:=I.list hs
 rw[Vals.ref1 r]
 have hb:=rv.bls
 refine call_all_walk (iter_any hl.isList ?_)
 rintro _ rfl st ne
 obtain⟨fp,St,W,s0,_⟩:=walks_list (A:=X.A.in1) (prog:=X.prog) (w:=X.w) ((hc.at I).fresh fun b o e=>Heap.get?_push_of_some _ e) ne st
 refine⟨_,_,_,_,_,_,_,rfl,W,s0,truth_bools hb,fun h' tk hk=>⟨.bl _,H,I.kept fun b o eo=>hk b o (fun m=>Nat.lt_irrefl _ (List.mem_singleton.mp m▸Heap.lt_size eo)) (Heap.get?_push_of_some _ eo),?_,q⟩⟩
 show Value.bool _=Value.bool _
 rw[←L2.all_range,hb,List.size_toArray,List.length_map]
end
end M3
set_option maxHeartbeats 2000000
namespace M3
open PySem PySem.Spec PyProof.Rows L2
theorem pmk_oex {X:Cx} {CX:CXH} {x:Str} {C fI:Addr} {k:Nat} {fd:FuncData} {ps:List Str} {sp:Sp} {e:Expr} {es:List Expr} {ta:TA} {p pos:Pos} (T:OexC X.K C) (iC:PySem.W.findIn X.K (.ref C) "__init__" = some (some (.ref fI))) (tI:PySem.W.typeIn X.K (.ref fI)=some (.type "function"))
  (F1:FnOk X.prog X.w X.K X.mg X.base CX k fI fd ps sp) (hr:Room (k+1) X) (hb:Binds X.K fd ps []) (hx:Passes (CX X.A.handled) X (fun _ _ _=>False)) (hg:Gl X x) (hm:X.mg x=some (.ref C)) (ha:PA X (e :: es) ta)
  (hdb:(x == ("__debug__" : Str))=false:=by decide) (he:starEach (e :: es) X.env=(false,eval e X.env) :: starEach es X.env:=by rfl) (hpl:(backTo pos (starEach es X.env)).any (·.1)=false:=by rfl) :
  L2N.PMk X (.Call (.Name x p) (e :: es) [] pos) (tMkO C sp [] ta):=by
 intro pins s z H Q I h
 obtain⟨nm,q,N,bs,bm,sn,sub,ab,col,dd,k0,k1,k2,k3,k5,hC,hbm⟩:=T.cls
 refine wpAny_Call_Name_kw (ld_glob I hg hm (PySem.W.callWith_K (h₀:=X.base) I.ok.mod.kin T.kC (thn (ha.run pos pins s z H _ I h) ?_) he hpl) hdb)
 rintro us ⟨hp,g,dr,tk,os⟩ ⟨vs,H1,I1,r1,hz,q1⟩
 refine⟨I1.kIn,(show wpAny _ _ (call (.ref C) us) _ _ _ from ?_)⟩
 have up:=Nat.le_succ hp.objs.size
 have free:H1 (hp.objs.size+1)=none:=I1.hok.fresh up
 have want:=q1 (hp.objs.size+1) free
 rw[List.append_nil] at want
 have keep:∀b o,hp.get? b=some o→((hp.push (PySem.W.kdv_tup us)).push (PySem.HandSPX.excO C hp.objs.size)).get? b=some o:=fun b o e=>Heap.get?_push_of_some _ (Heap.get?_push_of_some _ e)
 have there:((hp.push (PySem.W.kdv_tup us)).push (PySem.HandSPX.excO C hp.objs.size)).get? (hp.objs.size+1)=some (PySem.HandSPX.excO C hp.objs.size):=by heap_get
 have I2:Inv X pins z (upd H1 (hp.objs.size+1) (exo (hp.objs.size+1) C none)) ⟨(hp.push (PySem.W.kdv_tup us)).push (PySem.HandSPX.excO C hp.objs.size),g,dr,tk,os⟩:=
  I1.laid (t':=tk) (a:=hp.objs.size+1) (o:=exo (hp.objs.size+1) C none) (h':=(hp.push (PySem.W.kdv_tup us)).push (PySem.HandSPX.excO C hp.objs.size)) keep up (exo_ok there)
 have rv:Vals (V.ref (hp.objs.size+1) :: vs) (Value.ref (hp.objs.size+1) :: us):=.cons rfl r1
 have len:(Value.ref (hp.objs.size+1) :: us++[]).length=ps.length:=by rw[List.append_nil,←F1.len _ _ _ _ want,rv.length]
 have few:us.length≤sizeLine:=by rw[←Paired.length r1,sizeLine_eq];omega
 have bound:=hb _ (Value.ref (hp.objs.size+1) :: us) I2.kIn len
 rw[List.append_nil] at bound
 have eh:(X.A.under (.builtin "type.__call__" ⟨.ref C :: us,[]⟩)).handled=X.A.handled:=handled_make
 have ran:=F1.run (X.A.under (.builtin "type.__call__" ⟨.ref C :: us,[]⟩)) X.stack _ _ ⟨Value.ref (hp.objs.size+1) :: us,[]⟩ _ _ _ (fun _ _ _=>False) ((hr.call I2).make C us []) (I2.env0.make C us []) bound rv want
 rw[eh] at ran
 refine wpAny_call (PySem.HandSPX.call_own F.excBase_ValueError (fun Y=>PySem.HandSPX.refsVE_contains Y bm hbm) (I1.kIn _ _ hC) (PySem.W.looks_findIn I1.kIn iC) (fun self=>PySem.W.bind_fn I1.kIn self tI) few (codeAny_mono ran fun r s' got=>?_))
 match r,got with
 | .error er,got=>exact hx pins z _ _ er s' I2 got
 | .ok (.ret u),got=>
  obtain⟨v,H2,os2,bare2,un2,hok2,ru,ev,d,fs,ea,ed,hd1,q2⟩:=got
  subst ev
  obtain⟨h2,g2,d2,t2,os'⟩:=s'
  obtain⟨t0,G,J,kG,ge,ho,na⟩:=mk_end0 (d2:=d2) (t2:=t2) I1 up keep un2 hok2 os2 bare2 ea ed hd1
  exact⟨ru,hp.objs.size+1,_,_,⟨G,g2,d2,t2,os'⟩,_,.ref C,some d,rfl,J,kG,ge,ho,⟨rfl,rfl,fun vs hv=>by cases hv;rfl⟩,rfl,rfl,na,rfl,bare2,raises_own T.exC T.tyC,q2⟩
 | .ok .next,got=>exact got.elim
 | .ok .brk,got=>exact got.elim
 | .ok .cont,got=>exact got.elim
end M3
namespace M3
open PySem PySem.Spec PyProof.Rows L2
structure Alt (X Y:Cx):Prop where
 eq:∃b l,Y={ X with calm:=b,pn:=l }
 fwd:∀{pins:List (Addr×Obj)} {z:L2.St} {H:Hp} {s:Shared},Inv X pins z H s→Inv Y pins z H s
 bwd:∀{pins:List (Addr×Obj)} {z:L2.St} {H:Hp} {s:Shared},Inv Y pins z H s→Inv X pins z H s
section
variable {X Y:Cx}
theorem Alt.pa (a:Alt X Y) {es:List Expr} {t:TA} (h:PA X es t):PA Y es t:=by
 obtain⟨b,l,rfl⟩:=a.eq
 exact⟨fun pos pins s z H Q I q=>thn (h.run pos pins s z H Q (a.bwd I) q) fun us s1 ⟨vs,H1,I1,r⟩=>⟨vs,H1,a.fwd I1,r⟩⟩
theorem Alt.ps (a:Alt X Y) {st:Stmt} {t:TS} (h:PS Y st t):PS X st t:=by
 obtain⟨b,l,rfl⟩:=a.eq
 refine⟨fun pins s z H D I q=>wpAny_mono (h.run pins s z H D (a.fwd I) q) (fun f s1 hs=>?_) fun _ _ e=>e⟩
 cases f with
 | next=>obtain⟨z1,H1,I1,r⟩:=hs;exact⟨z1,H1,a.bwd I1,r⟩
 | cont=>obtain⟨z1,H1,I1,r⟩:=hs;exact⟨z1,H1,a.bwd I1,r⟩
 | brk=>obtain⟨z1,H1,I1,r⟩:=hs;exact⟨z1,H1,a.bwd I1,r⟩
 | ret v=>obtain⟨x,z1,H1,I1,r⟩:=hs;exact⟨x,z1,H1,a.bwd I1,r⟩
theorem Alt.pe (a:Alt X Y) {e:Expr} {t:TE} (h:PE Y e t):PE X e t:=by
 obtain⟨b,l,rfl⟩:=a.eq
 exact⟨fun pins s z H Q I q=>thn (h.run pins s z H Q (a.fwd I) q) fun u s1 ⟨v,H1,I1,r⟩=>⟨v,H1,a.bwd I1,r⟩⟩
end
end M3
namespace M3
open PySem PySem.Spec PyProof.Rows L2
theorem HotO.to {A:Around} {outer:List Env} {H H':Hp} {s s':Shared} (h:HotO A outer H s) (k:∀b o,s.heap.get? b=some o→H b=none→b∉frs outer→s'.heap.get? b=some o∧H' b=none):HotO A outer H' s':=
 h.imp id fun ⟨p,h1,q⟩=>⟨p,h1,(k _ _ q.get q.free q.nofs).1,(k _ _ q.get q.free q.nofs).2,q.nofs,q.nocell⟩
theorem RoomC.to {k:Nat} {A:Around} {outer:List Env} {H H':Hp} {s s':Shared} (r:RoomC k A outer H s) (h:∀b o,s.heap.get? b=some o→H b=none→b∉frs outer→s'.heap.get? b=some o∧H' b=none):RoomC k A outer H' s':=⟨r.dp,r.un,r.hot.to h⟩
def ncx (CX:CXH) (P:Program) (w:World) (K:PySem.W.Frag) (mg:Str→Option Value) (base:Heap) (N:List Str) (F:NdefX.NF) (f:Addr) (A:Around) (outer:List Env) (s:Shared) (H:Hp) (E:XK):Cx:=
 { NdefX.ncx (CX A.handled) P w K mg base N F f A outer s H E with calm:=false }
section
variable {CX:CXH} {P:Program} {w:World} {K:PySem.W.Frag} {mg:Str→Option Value} {base:Heap} {N ps fr:List Str} {F:NdefX.NF} {f:Addr} {A:Around} {outer:List Env} {s:Shared} {H:Hp} {E:XK} {us:List Value} {vs:List V} {ws:List (Option V)} {k:Nat}
theorem inv_startN {h1:Heap} {tk:Nat} (S:NdefX.NScope N ps fr F.scope) (hd:HotO A outer H s) (e0:Env0 P w K mg base A outer s H) (hl:vs.length=ps.length) (r:Vals vs us) (C:NdefX.CellsAt F.cl fr ws s.heap H) (hns:h1.Ns s.heap.objs.size fun y=>(ps.zip us).reverse.lookup y)
  (kp:∀b o,s.heap.get? b=some o→h1.get? b=some o):Inv (ncx CX P w K mg base N F f A outer s H E) [] (NdefX.startF N vs ws) H { s with heap:=h1,toks:=tk }:=by
 rcases hd with c | ⟨p,_,hp⟩
 ·exact inv_low (X:=NdefX.ncx (CX A.handled) P w K mg base N F f A outer s H E) (NdefX.inv_startN S c e0 hl r C hns kp)
 ·exact inv_low (X:=NdefX.ncxH (CX A.handled) P w K mg base N F f A outer s H E p) (NdefX.inv_startNH S hp e0 hl r C hns kp)
end
structure NOk (P:Program) (w:World) (K:PySem.W.Frag) (mg:Str→Option Value) (base:Heap) (CX:CXH) (k:Nat) (f:Addr) (F:NdefX.NF) (ps fr:List Str) (sp:List (Option V)→Sp):Prop where
 len:∀ws vs H Q E,sp ws vs H Q E→vs.length=ps.length
 run:∀(A:Around) (outer:List Env) (s:Shared) (H:Hp) (us:List Value) (vs:List V) (ws:List (Option V)) (Q:VK) (E:XK),RoomC k A outer H s→Env0 P w K mg base A outer s H→H f=some (NdefX.FnO f F)→H F.c=some (LamX.CodeO F.c F.qual)→
  NdefX.CellsAt F.cl fr ws s.heap H→Vals vs us→sp ws vs H Q E→codeAny (model P w) A (.call (.ref f) ⟨us,[]⟩) (CR (CX A.handled) outer P w H s Q E) s
section
variable {CX:CXH} {P:Program} {w:World} {K:PySem.W.Frag} {mg:Str→Option Value} {base:Heap} {N ps fr:List Str} {F:NdefX.NF} {f:Addr} {k j:Nat} {sp sp':List (Option V)→Sp}
theorem NOk.mono (o:NOk P w K mg base CX j f F ps fr sp) (h:j≤k):NOk P w K mg base CX k f F ps fr sp:=⟨o.len,fun A outer s H us vs ws Q E hr=>o.run A outer s H us vs ws Q E (hr.mono h)⟩
theorem NOk.imp (o:NOk P w K mg base CX k f F ps fr sp) (h:∀ws vs H Q E,sp' ws vs H Q E→sp ws vs H Q E):NOk P w K mg base CX k f F ps fr sp':=
 ⟨fun ws vs H Q E q=>o.len ws vs H Q E (h _ _ _ _ _ q),fun A outer s H us vs ws Q E hr e0 hf hc C r q=>o.run A outer s H us vs ws Q E hr e0 hf hc C r (h _ _ _ _ _ q)⟩
end
end M3
namespace M3
open PySem PySem.Spec PyProof.Rows L2
abbrev GM:=D→Sl3→Option Sl3
abbrev GMs:=List D→Sl3→Option Sl3
structure But (gs:List Nat) (z z':L2.St):Prop where
 len:z'.length=z.length
 out:∀j,j∉gs→z'[j]?=z[j]?
theorem But.refl {gs:List Nat} (z:L2.St):But gs z z:=⟨rfl,fun _ _=>rfl⟩
theorem But.trans {gs gs':List Nat} {a b c:L2.St} (h:But gs a b) (h':But gs' b c):But (gs++gs') a c:=
 ⟨h'.len.trans h.len,fun j hj=>(h'.out j fun m=>hj (List.mem_append_right _ m)).trans (h.out j fun m=>hj (List.mem_append_left _ m))⟩
theorem wipe_in {z:L2.St} {i:Nat}:∀{vs:List Nat},i∈vs→i<z.length→(wipe z vs)[i]?=some none
 | v :: vs,h,hl=>by
  unfold wipe
  by_cases e:v=i
  ·subst e;rw[List.getElem?_set_self (by rw[wipe_length];exact hl)]
  ·rw[List.getElem?_set_ne e]
   rcases List.mem_cons.mp h with q | q
   ·exact absurd q.symm e
   ·exact wipe_in q hl
theorem But.wipe {gs vs:List Nat} {z z':L2.St} (h:But gs z z') (hs:∀i∈gs,i∈vs):L2.wipe z' vs=L2.wipe z vs:=by
 apply List.ext_getElem?
 intro i
 by_cases hi:i∈vs
 ·by_cases hl:i<z.length
  ·rw[wipe_in hi (by rw[h.len];exact hl),wipe_in hi hl]
  ·rw[List.getElem?_eq_none (by rw[wipe_length,h.len];omega),List.getElem?_eq_none (by rw[wipe_length];omega)]
 ·rw[wipe_out hi,wipe_out hi]
  exact h.out i fun m=>hi (hs i m)
def tG (G:G3) (hx:Hex) (g:GM) (gs:List Nat):TG:=fun v z H Q=>∃(B0 B:Addr→Prop) (s:S3) (st:Store) (u:Sl3) (d:D) (u':Sl3),s.H=H∧Wd G B st s∧Slo G hx B0 B s u z∧Rep G.R s.F s.io d v∧g d u=some u'∧
 ∀z',Slo G hx B0 B s u' z'→But gs z z'→Q z' H
def tGs (G:G3) (hx:Hex) (g:GMs) (gs:List Nat):TGs:=fun vs z H Q=>∃(B0 B:Addr→Prop) (s:S3) (st:Store) (u:Sl3) (ds:List D) (u':Sl3),s.H=H∧Wd G B st s∧Slo G hx B0 B s u z∧RepL G.R s.F s.io ds vs∧g ds u=some u'∧
 ∀z',Slo G hx B0 B s u' z'→But gs z z'→Q z' H
structure MG (P:P3) (tg:Expr) (g:GM) (gs:List Nat):Prop where
 pg:PG P.X tg (tG P.G P.hx g gs)
structure MGs (P:P3) (tg:List Expr) (g:GMs) (gs:List Nat):Prop where
 pgs:PGs P.X tg (tGs P.G P.hx g gs)
def gName3 (i:Nat):GM:=fun d u=>some (u.set i (some (.val d)))
def gNil3:GMs:=fun ds u=>match ds with
 | []=>some u
 | _=>none
def gCons3 (g:GM) (gs:GMs):GMs:=fun ds u=>match ds with
 | d :: ds=>(g d u).bind (gs ds)
 | []=>none
def gTup3 (n:Nat) (gs:GMs):GM:=fun d u=>match d with
 | .tup ds=>if ds.length=n then gs ds u else none
 | _=>none
section
variable {P:P3} {pos:Pos}
theorem mg_name (i:Nat) {x:Str} (hN:P.X.N.Nodup) (hi:P.X.N[i]?=some x:=by rfl) (hx:Loc P.X.env.scope x:=by first | exact Or.inl rfl | exact Or.inr rfl)
  (hf:P.X.fn x=true∨P.X.env.scope.names.lookup x=some .local:=by first | exact .inl rfl | exact .inr rfl | assumption):MG P (.Name x pos) (gName3 i) [i]:=by
 refine⟨⟨fun pins s0 z H v w Q I r ⟨B0,B,s,st,u,d,u',e,wd,sl,rd,eg,k⟩=>?_⟩⟩
 cases eg
 refine(pg_name hN hi hx hf).run pins s0 z H v w Q I r (k _ (sl.set rd i) ⟨by simp,fun j hj=>?_⟩)
 rw[List.getElem?_set_ne (fun q=>hj (by simp[q]))]
theorem mgs_nil:MGs P [] gNil3 []:=by
 refine⟨⟨fun pins s0 z H vs us Q I r ⟨B0,B,s,st,u,ds,u',e,wd,sl,rd,eg,k⟩=>?_⟩⟩
 cases rd with
 | nil=>cases eg;exact pgs_nil.run pins s0 z H [] us Q I r ⟨rfl,k z sl (But.refl z)⟩
 | cons _ _=>cases eg
theorem mgs_cons {e:Expr} {es:List Expr} {g:GM} {gs:GMs} {is js:List Nat} (h1:MG P e g is) (h2:MGs P es gs js)
  (hs:(assignEach (e :: es) P.X.env).map (·.2)=assign e P.X.env :: (assignEach es P.X.env).map (·.2):=by rfl):MGs P (e :: es) (gCons3 g gs) (is++js):=by
 refine⟨⟨fun pins s0 z H vs us Q I r ⟨B0,B,s,st,u,ds,u',e,wd,sl,rd,eg,k⟩=>?_⟩⟩
 cases rd with
 | nil=>cases eg
 | @cons d ds v vs rd rds=>
  have eg:(g d u).bind (gs ds)=some u':=eg
  cases e1:g d u with
  | none=>rw[e1] at eg;cases eg
  | some u1=>
   rw[e1] at eg
   refine(pgs_cons h1.pg h2.pgs hs).run pins s0 z H _ us Q I r ⟨v,vs,rfl,B0,B,s,st,u,d,u1,e,wd,sl,rd,e1,fun z1 sl1 b1=>?_⟩
   exact⟨B0,B,s,st,u1,ds,u',e,wd,sl1,rds,eg,fun z2 sl2 b2=>k z2 sl2 (b1.trans b2)⟩
theorem mg_tup {es:List Expr} {k:Nat} {gs:GMs} {is:List Nat} {n:Nat} (hc:Cool P.X) (h:MGs P es gs is)
  (hn:(assignEach es P.X.env).length=n:=by rfl) (hst:(assignEach es P.X.env).findIdx? (·.1)=none:=by rfl):MG P (.Tuple es k pos) (gTup3 n gs) is:=by
 refine⟨⟨fun pins s0 z H v w Q I r ⟨B0,B,s,st,u,d,u',e,wd,sl,rd,eg,k⟩=>?_⟩⟩
 subst e
 unfold gTup3 at eg
 split at eg
 ·rename_i ds
  split at eg
  ·rename_i hl
   cases rd with
   | tup hq rl=>
    refine(pg_tup hc h.pgs hn hst).run pins s0 z s.H _ w Q I r ⟨_,_,rfl,(hq.mono wd.sub).sq,by rw[←rl.length];exact hl,?_⟩
    exact⟨B0,B,s,st,u,_,u',rfl,wd,sl,rl,eg,k⟩
  ·cases eg
 ·cases eg
end
structure Itm (G:G3) (s:S3) (ds:List D) (J:It):Prop where
 go:∀(s':S3),IoLe s.io s'.io→Same s.F s'.F→Same s'.F s'.H→∀i,i<ds.length→J.go i s'.H
 yld:∀(s':S3),IoLe s.io s'.io→Same s.F s'.F→Same s'.F s'.H→∀i x H',i<ds.length→J.yld i s'.H x H'→H'=s'.H∧∃d,ds[i]?=some d∧Rep G.R s'.F s'.io d x
 stop:∀(s':S3),IoLe s.io s'.io→Same s.F s'.F→Same s'.F s'.H→∀i,ds.length≤i→J.stop i s'.H
def tI (G:G3) (hx:Hex) (wx:WX) (m:FM):TI:=fun z H R=>∃(B0 B:Addr→Prop) (s:S3) (st:Store) (u:Sl3),s.H=H∧Wd G B st s∧Slo G hx B0 B s u z∧Post G B (fun s ds J=>Itm G s ds J) (fun c d H=>wx c d z H) s R (m u st)
structure MI (P:P3) (tg iter:Expr) (m:FM):Prop where
 pi:PI P.X tg iter (tI P.G P.hx P.wx m)
theorem MI.mk' {P:P3} {tg iter:Expr} {m:FM} {t:TI} (h:PI P.X tg iter t) (k:∀(B0 B:Addr→Prop) (s:S3) (st:Store) (u:Sl3) (z:L2.St) (R:It→Hp→Prop),Wd P.G B st s→Slo P.G P.hx B0 B s u z→
  Post P.G B (fun s ds J=>Itm P.G s ds J) (fun c d H=>P.wx c d z H) s R (m u st)→t z s.H R):MI P tg iter m:=
 ⟨⟨fun pins s0 z H R I ⟨B0,B,s,st,u,e,wd,sl,p⟩=>by subst e;exact h.run pins s0 z _ R I (k B0 B s st u z R wd sl p)⟩⟩
theorem MI.out {P:P3} {tg iter:Expr} {m:FM} (h:MI P tg iter m):∃t,PI P.X tg iter t∧∀(B0 B:Addr→Prop) (s:S3) (st:Store) (u:Sl3) (z:L2.St) (R:It→Hp→Prop),Wd P.G B st s→Slo P.G P.hx B0 B s u z→
  Post P.G B (fun s ds J=>Itm P.G s ds J) (fun c d H=>P.wx c d z H) s R (m u st)→t z s.H R:=⟨_,h.pi,fun B0 B s st u z R wd sl p=>⟨B0,B,s,st,u,rfl,wd,sl,p⟩⟩
def D.walk:D→Option (List D)
 | .str x=>some (x.cps.toList.map fun c=>.str ⟨#[c]⟩)
 | d=>d.items
def iSeq (m:EM):FM:=fun u=>M.bind (m u) fun w=>match w with
 | .val d=>M.of d.walk
 | _=>M.bad
def iSeqT (K:PySem.W.Frag) (tl:TE):TI:=fun z H R=>tl z H fun x H1=>(∃y,x=.str y∧R (Its y) H1)∨∃a,x=.ref a∧((∃xs,SqL K H1 a xs)∧R (Itl K a) H1∨(∃xs,SqT K H1 a xs)∧R (Itt K a) H1)
section
variable {P:P3} {pos p:Pos} {tg l:Expr} {m:EM}
theorem pi_seq3 {X:Cx} {tl:TE} (hl:PE X l tl):PI X tg l (iSeqT X.K tl):=by
 constructor
 intro pins s z H R I h
 refine thn (hl.run pins s z H _ I h) ?_
 rintro v s1 ⟨x,H1,I1,r1,⟨y,rfl,q⟩ | ⟨a,rfl,q⟩⟩
 ·obtain⟨t,rfl⟩:=r1
  cases ha:y.cps.all (· < 128)
  ·exact wpAny_pyIter_wide ha (pi_one (tk:=s1.toks) I1 _ (turn_str _ y t "str_iterator" (.inr rfl)) ⟨_,Heap.get?_push_size _ rfl,rfl,rfl⟩ q)
  ·exact wpAny_pyIter_ascii ha (pi_one (tk:=s1.toks) I1 _ (turn_str _ y t "str_ascii_iterator" (.inl rfl)) ⟨_,Heap.get?_push_size _ rfl,rfl,rfl⟩ q)
 obtain rfl:v=Value.ref a:=r1
 have nfp:∀b∈[s1.heap.objs.size],FpOk X pins H1 b:=fun b hb=>by
  rw[List.mem_singleton.mp hb]
  exact I1.fpOk (Nat.le_refl _) I1.fresh
 rcases q with⟨⟨xs,hq⟩,q⟩ | ⟨⟨xs,hq⟩,q⟩
 ·obtain⟨its,_,pl,_⟩:=I1.list hq
  exact wpAny_pyIter_list pl.isList ⟨_,[s1.heap.objs.size],_,_,H1,rfl,I1.kept (t':=s1.toks) (fun b o e=>Heap.get?_push_of_some _ e),turn_list a _,⟨_,Heap.get?_push_size _ rfl,rfl,rfl⟩,nfp,q⟩
 ·obtain⟨its,_,pl,_⟩:=I1.tuple hq
  exact wpAny_pyIter_tuple (show s1.heap.IsTuple a its.toArray from pl) ⟨_,[s1.heap.objs.size],_,_,H1,rfl,I1.kept (t':=s1.toks) (fun b o e=>Heap.get?_push_of_some _ e),turn_tuple a _,⟨_,Heap.get?_push_size _ rfl,rfl,rfl⟩,nfp,q⟩
theorem itm_list {G:G3} {s:S3} {xs:List D} {vs:List V} {a:Addr} (h:SqL G.K s.F a vs) (r:RepL G.R s.F s.io xs vs):Itm G s xs (Itl G.K a):=by
 have up:∀(s':S3),Same s.F s'.F→Same s'.F s'.H→SqL G.K s'.H a vs:=fun s' h1 h2=>same_sqL h2 (same_sqL h1 h)
 refine⟨fun s' h1 h2 h3 i hi=>?_,fun s' h1 h2 h3 i x H' hi y=>?_,fun s' h1 h2 h3 i hi=>⟨vs,up s' h2 h3,by rw[←r.length];exact hi⟩⟩
 ·obtain⟨v,e,_⟩:=r.get (List.getElem?_eq_getElem hi)
  exact⟨vs,v,up s' h2 h3,e⟩
 ·obtain⟨e,y⟩:=y
  obtain⟨d,e2,rd⟩:=r.get' (y vs (up s' h2 h3))
  exact⟨e,d,e2,rd.mono h2 h1⟩
theorem itm_tup {G:G3} {s:S3} {xs:List D} {vs:List V} {a:Addr} (h:SqT G.K s.F a vs) (r:RepL G.R s.F s.io xs vs):Itm G s xs (Itt G.K a):=by
 have up:∀(s':S3),Same s.F s'.F→Same s'.F s'.H→SqT G.K s'.H a vs:=fun s' h1 h2=>same_sqT h2 (same_sqT h1 h)
 refine⟨fun s' h1 h2 h3 i hi=>?_,fun s' h1 h2 h3 i x H' hi y=>?_,fun s' h1 h2 h3 i hi=>⟨vs,up s' h2 h3,by rw[←r.length];exact hi⟩⟩
 ·obtain⟨v,e,_⟩:=r.get (List.getElem?_eq_getElem hi)
  exact⟨vs,v,up s' h2 h3,e⟩
 ·obtain⟨e,y⟩:=y
  obtain⟨d,e2,rd⟩:=r.get' (y vs (up s' h2 h3))
  exact⟨e,d,e2,rd.mono h2 h1⟩
theorem itm_str {G:G3} {s:S3} (y:Str):Itm G s (y.cps.toList.map fun c=>.str ⟨#[c]⟩) (Its y):=by
 have hl:(y.cps.toList.map fun c=>D.str ⟨#[c]⟩).length=y.cps.size:=by simp
 refine⟨fun s' h1 h2 h3 i hi=>by rw[hl] at hi;exact hi,fun s' h1 h2 h3 i x H' hi y'=>?_,fun s' h1 h2 h3 i hi=>by rw[hl] at hi;exact hi⟩
 obtain⟨e,c,ec,rfl⟩:=y'
 exact⟨e,.str ⟨#[c]⟩,by rw[List.getElem?_map,Array.getElem?_toList,ec];rfl,.str⟩
theorem mi_seq (h:ME P l m):MI P tg l (iSeq m):=by
 obtain⟨t,pt,ht⟩:=h.out
 refine MI.mk' (pi_seq3 pt) fun B0 B s st u z R wd sl hp=>ht B0 B s st u z _ wd sl (Post.bind hp fun w st1 s1 v l1 wd1 r1 h1=>?_)
 cases w with
 | val d=>
  obtain⟨xs,e,h1⟩:=of_eq h1
  rw[P.hK]
  cases r1 with
  | str=>cases e;exact .inl ⟨_,rfl,h1.pure wd1 (itm_str _)⟩
  | tup hq rl=>cases e;exact .inr ⟨_,rfl,.inr ⟨⟨_,(hq.mono wd1.sub).sq⟩,h1.pure wd1 (itm_tup hq.sq rl)⟩⟩
  | lst hq rl=>cases e;exact .inr ⟨_,rfl,.inl ⟨⟨_,.inl (.inl (wd1.sub _ _ hq))⟩,h1.pure wd1 (itm_list (.inl (.inl hq)) rl)⟩⟩
  | ctup hq rl=>cases e;exact .inr ⟨_,rfl,.inr ⟨⟨_,same_sqT wd1.sub hq⟩,h1.pure wd1 (itm_tup hq rl)⟩⟩
  | ro hq rl=>cases e;exact .inr ⟨_,rfl,.inl ⟨⟨_,same_sqL wd1.sub hq⟩,h1.pure wd1 (itm_list hq rl)⟩⟩
  | _=>cases e
 | _=>exact h1.elim
def rangeD (lo:Int) (n:Nat):List D:=(List.range n).map fun (i:Nat)=>D.int (lo+(i:Int))
def rng1 (ws:List W):Option (List D):=match ws with
 | [.val (.int j)]=>if -1000000≤j∧j≤1000000 then some (rangeD 0 j.toNat) else none
 | _=>none
def rng2 (ws:List W):Option (List D):=match ws with
 | [.val (.int i),.val (.int j)]=>if -1000000≤i∧i≤1000000∧-1000000≤j∧j≤1000000 then some (rangeD i (j - i).toNat) else none
 | _=>none
def iRange1 (m:AM):FM:=fun u=>M.bind (m u) fun ws=>M.of (rng1 ws)
def iRange2 (m:AM):FM:=fun u=>M.bind (m u) fun ws=>M.of (rng2 ws)
theorem itm_range {G:G3} {s:S3} (lo:Int) (n:Nat):Itm G s (rangeD lo n) (Itr lo n):=by
 have hl:(rangeD lo n).length=n:=by simp[rangeD]
 refine⟨fun s' h1 h2 h3 i hi=>by rw[hl] at hi;exact hi,fun s' h1 h2 h3 i x H' hi y=>?_,fun s' h1 h2 h3 i hi=>by rw[hl] at hi;exact hi⟩
 obtain⟨e,rfl⟩:=y
 rw[hl] at hi
 exact⟨e,_,by simp[rangeD,hi],.int⟩
theorem mi_range1 {a:Expr} {ma:AM} (hg:Gl P.X "range") (hm:P.X.mg "range" = none) (ha:MA P [a] ma) (hs:starEach [a] P.X.env=[(false,eval a P.X.env)]:=by rfl):MI P tg (.Call (.Name "range" p) [a] [] pos) (iRange1 ma):=by
 obtain⟨t,pt,ht⟩:=ha.out
 refine MI.mk' (pi_range1 hg hm pt hs) fun B0 B s st u z R wd sl hp=>ht B0 B s st u z _ wd sl (Post.bind hp fun ws st1 s1 v l1 wd1 r1 h1=>?_)
 obtain⟨xs,e,h1⟩:=of_eq h1
 unfold rng1 at e
 split at e
 ·rename_i j
  cases r1 with
  | cons r rr=>
   cases rr
   cases r
   split at e
   ·rename_i hc
    cases e
    exact⟨j,rfl,by omega,by omega,h1.pure wd1 (itm_range 0 _)⟩
   ·cases e
 ·cases e
end
def forL (g:GM) (b:SM):List D→SM
 | [],u,st=>.nx u st
 | d :: ds,u,st=>match g d u with
  | none=>.bad
  | some u1=>match b u1 st with
   | .nx u2 st2=>forL g b ds u2 st2
   | .ct u2 st2=>forL g b ds u2 st2
   | .bk u2 st2=>.nx u2 st2
   | r=>r
def sFor (m:FM) (g:GM) (b:SM):SM:=fun u st=>match m u st with
 | .ok ds st'=>forL g b ds u st'
 | .err c x st'=>.err c x u st'
 | .bad=>.bad
def whileL (c:TM) (b:SM):Nat→SM
 | 0,_,_=>.bad
 | n+1,u,st=>match c u st with
  | .ok true st1=>match b u st1 with
   | .nx u2 st2=>whileL c b n u2 st2
   | .ct u2 st2=>whileL c b n u2 st2
   | .bk u2 st2=>.nx u2 st2
   | r=>r
  | .ok false st1=>.nx u st1
  | .err c x st1=>.err c x u st1
  | .bad=>.bad
section
variable {P:P3} {pos:Pos}
theorem ms_for {tg iter:Expr} {body:List Stmt} {mi:FM} {g:GM} {gs:List Nat} {mb:SM} (hp:PassesOwn (model P.X.prog P.X.w) P.X.A P.X.env P.X.xe) (hc:Cool P.X) (hi:MI P tg iter mi) (hg:MG P tg g gs) (hb:MSs P body mb)
  (hs:∀x,foldedSetIterable iter P.X.env x=pure x:=by intro _;rfl):MS P (.For tg iter body [] pos) (sFor mi g mb):=by
 obtain⟨ti,pi,hti⟩:=hi.out
 obtain⟨tb,pb,htb⟩:=hb.out
 refine MS.mk' (ps_for hp hc pi hg.pg pb hs) fun B0 B s o u z D b0 wd sl h=>hti B0 B s o u z _ wd sl ?_
 unfold sFor at h
 cases e:mi u o with
 | bad=>rw[e] at h;exact h
 | err c x st'=>rw[e] at h;exact fun s' cv dd l w q=>h B s' z cv dd b0 (l.less b0) w (sl.mono' l) q
 | ok ds st'=>
  rw[e] at h
  intro s1 J l1 w1 im
  have h:=PostS.mono (l1.less b0) h
  refine⟨fun i n z' H'=>n=ds.length - i∧i≤ds.length∧∃(B':Addr→Prop) (s':S3) (o':Store) (u':Sl3),s'.H=H'∧(∀a,B0 a→B' a)∧Le B0 s1 s'∧Wd P.G B' o' s'∧Slo P.G P.hx B0 B' s' u' z'∧PostS P.G P.hx P.wx B0 s' D (forL g mb (ds.drop i) u' o'),
   ⟨_,rfl,Nat.zero_le _,B,s1,st',u,rfl,b0,Le.refl _,w1,sl.mono' l1,h⟩,?_⟩
  rintro i n z' H' ⟨rfl,hi,B',s',o',u',rfl,b0',l',w',sl',p⟩
  rcases Nat.lt_or_ge i ds.length with hlt | hge
  ·right
   refine⟨im.go s' l'.io l'.fr w'.sub i hlt,fun z2 H2=>i+1≤ds.length∧∃(B':Addr→Prop) (s':S3) (o':Store) (u':Sl3),s'.H=H2∧(∀a,B0 a→B' a)∧Le B0 s1 s'∧Wd P.G B' o' s'∧Slo P.G P.hx B0 B' s' u' z2∧PostS P.G P.hx P.wx B0 s' D (forL g mb (ds.drop (i+1)) u' o'),
    fun z2 H2 q=>⟨_,by omega,rfl,q.1,q.2⟩,fun x H2 y=>?_⟩
   obtain⟨rfl,d,ed,rd⟩:=im.yld s' l'.io l'.fr w'.sub i x _ hlt y
   rw[List.drop_eq_getElem_cons hlt] at p
   have ed':ds[i]=d:=by rw[List.getElem?_eq_getElem hlt] at ed;cases ed;rfl
   rw[ed'] at p
   unfold forL at p
   cases eg:g d u' with
   | none=>rw[eg] at p;exact p.elim
   | some u1=>
    rw[eg] at p
    refine⟨B0,B',s',o',u',d,u1,rfl,w',sl',rd,eg,fun z2 sl2 _=>?_⟩
    refine htb B0 B' s' o' u1 z2 _ b0' w' sl2 ?_
    dsimp only at p
    cases eb:mb u1 o' with
    | nx u2 st2=>rw[eb] at p;exact fun B2 s2 z3 hb2 l2 w2 sl3=>⟨hlt,B2,s2,st2,u2,rfl,hb2,l'.trans l2,w2,sl3,PostS.mono l2 p⟩
    | ct u2 st2=>rw[eb] at p;exact fun B2 s2 z3 hb2 l2 w2 sl3=>⟨hlt,B2,s2,st2,u2,rfl,hb2,l'.trans l2,w2,sl3,PostS.mono l2 p⟩
    | bk u2 st2=>rw[eb] at p;exact p
    | rt w st2=>rw[eb] at p;exact p
    | err c x u2 st2=>rw[eb] at p;exact p
    | bad=>rw[eb] at p;exact p
  ·left
   have e0:ds.drop i=[]:=List.drop_eq_nil_of_le hge
   rw[e0] at p
   exact⟨im.stop s' l'.io l'.fr w'.sub i hge,p B' s' z' b0' (Le.refl _) w' sl'⟩
theorem ms_while (n:Nat) {c:Expr} {body:List Stmt} {mc:TM} {mb:SM} (hp:PassesOwn (model P.X.prog P.X.w) P.X.A P.X.env P.X.xe) (hc:MT P c mc) (hb:MSs P body mb):MS P (.While c body [] pos) (whileL mc mb n):=by
 obtain⟨tc,pc,htc⟩:=hc.out
 obtain⟨tb,pb,htb⟩:=hb.out
 refine MS.mk' (ps_while hp pc pb) fun B0 B s o u z D b0 wd sl h=>?_
 refine⟨fun m z' H'=>∃(B':Addr→Prop) (s':S3) (o':Store) (u':Sl3),s'.H=H'∧(∀a,B0 a→B' a)∧Wd P.G B' o' s'∧Slo P.G P.hx B0 B' s' u' z'∧PostS P.G P.hx P.wx B0 s' D (whileL mc mb m u' o'),⟨n,B,s,o,u,rfl,b0,wd,sl,h⟩,?_⟩
 rintro m z' H' ⟨B',s',o',u',rfl,b0',w',sl',p⟩
 refine htc B0 B' s' o' u' z' _ w' sl' ?_
 cases m with
 | zero=>exact p.elim
 | succ m=>
  unfold whileL at p
  cases ec:mc u' o' with
  | bad=>rw[ec] at p;exact p
  | err c x st'=>rw[ec] at p;exact fun s2 cv dd l w q=>p B' s2 z' cv dd b0' (l.less b0') w (sl'.mono' l) q
  | ok k st'=>
   rw[ec] at p
   intro s2 k' l2 w2 r
   subst r
   cases k with
   | false=>exact p B' s2 z' b0' (l2.less b0') w2 (sl'.mono' l2)
   | true=>
    have p:=PostS.mono (l2.less b0') p
    rw[if_pos rfl]
    refine⟨fun z3 H3=>∃(B':Addr→Prop) (s':S3) (o':Store) (u':Sl3),s'.H=H3∧(∀a,B0 a→B' a)∧Wd P.G B' o' s'∧Slo P.G P.hx B0 B' s' u' z3∧PostS P.G P.hx P.wx B0 s' D (whileL mc mb m u' o'),fun z3 H3 q=>⟨m,Nat.lt_succ_self _,q⟩,?_⟩
    refine htb B0 B' s2 st' u' z' _ b0' w2 (sl'.mono' l2) ?_
    dsimp only at p
    cases eb:mb u' st' with
    | nx u3 st3=>rw[eb] at p;exact fun B3 s3 z3 hb3 l3 w3 sl3=>⟨B3,s3,st3,u3,rfl,hb3,w3,sl3,PostS.mono l3 p⟩
    | ct u3 st3=>rw[eb] at p;exact fun B3 s3 z3 hb3 l3 w3 sl3=>⟨B3,s3,st3,u3,rfl,hb3,w3,sl3,PostS.mono l3 p⟩
    | bk u3 st3=>rw[eb] at p;exact p
    | rt w st3=>rw[eb] at p;exact p
    | err c x u3 st3=>rw[eb] at p;exact p
    | bad=>rw[eb] at p;exact p
end
end M3
namespace M3
open PySem PySem.Spec PyProof.Rows L2
def wipe3 (u:Sl3):List Nat→Sl3
 | []=>u
 | v :: vs=>(wipe3 u vs).set v none
theorem Slo.wipe {G:G3} {X:Hex} {B0 B:Addr→Prop} {s:S3} {u:Sl3} {z:L2.St} (h:Slo G X B0 B s u z):∀vs:List Nat,Slo G X B0 B s (wipe3 u vs) (L2.wipe z vs)
 | []=>h
 | v :: vs=>(Slo.wipe h vs).del v none
abbrev noW:WX:=fun _ _ _ _=>False
abbrev P3.blk (P:P3) (s:Shared) (H:Hp) (scope:Scope) (C:Addr) (cl:List (Str×Addr)) (fp:List Addr):P3:=⟨P.X.blk s H scope (compEnvC scope cl C P.X.env) fp,P.G,P.hx,noW,P.hK,P.hw⟩
structure MIfs (P:P3) (ifs:List Expr) (m:TM):Prop where
 pts:PTs P.X ifs (tT P.G P.hx P.wx m)
def tYes3:TM:=fun _=>M.pure true
theorem mifs_nil {P:P3}:MIfs P [] tYes3:=
 ⟨⟨fun pins s0 z H Q I ⟨B0,B,s,st,u,e,wd,sl,p⟩=>by subst e;exact pts_nil.run pins s0 z _ Q I (p.pure wd rfl)⟩⟩
theorem mifs_one {P:P3} {c:Expr} {m:TM} (h:MT P c m):MIfs P [c] m:=⟨pts_one h.pt⟩
def lcL (g:GM) (c:TM) (e:EM) (u0:Sl3):List D→List D→M (List D)
 | [],acc=>M.pure acc
 | d :: ds,acc=>M.bind (M.of (g d u0)) fun u1=>M.bind (M.quiet (c u1)) fun k=>
  if k=true then M.bind (M.quiet (e u1)) fun w=>M.bind (M.of w.d) fun x=>M.bind (M.chk (acc.length<1000000)) fun _=>lcL g c e u0 ds (acc++[x])
  else lcL g c e u0 ds acc
def fLc (mi:FM) (g:GM) (c:TM) (e:EM) (own:List Nat):FM:=fun u=>M.bind (mi u) fun ds=>lcL g c e (wipe3 u own) ds []
section
variable {P:P3} {pos:Pos}
theorem of_quiet {α:Type} {m:M α} {f:α→M (List D)} {st:Store} {G:G3} {B:Addr→Prop} {E:XK} {s:S3} {Q:VK} (h:PostF G B E s Q (M.bind (M.quiet m) f st)):∃a st',m st=.ok a st'∧PostF G B E s Q (f a st'):=by
 unfold M.bind M.quiet at h
 cases e:m st with
 | ok a st'=>rw[e] at h;exact⟨a,st',rfl,h⟩
 | err c x st'=>rw[e] at h;exact h.elim
 | bad=>rw[e] at h;exact h.elim
theorem plus_le {B:Addr→Prop} {p:Addr} {s s':S3} (l:Le (plus B p) s s'):Le B s s':=l.less fun a b=>.inl b
theorem grow_wd {G:G3} {B:Addr→Prop} {st:Store} {s:S3} {p:Addr} {vs:List V} {xs:List D} {d:D} {v:V} (w:Wd G (plus B p) st s) (nb:¬B p) (h:s.H p=some (.lst vs)) (o:HO) (nt:OwnH o:=by exact⟨fun _ q=>(by cases q),fun _ _ q=>(by first | exact dkO_code q | exact cellO_code q | (unfold LamX.CodeO at q;cases q))⟩) :
  Wd G (plus B p) st ⟨s.io,s.F,upd s.H p o⟩∧Le B s ⟨s.io,s.F,upd s.H p o⟩:=by
 have hF:=(w.hid p (.inr rfl)).1
 refine⟨⟨fun b u e=>?_,fun a b=>?_,w.ftb,w.dom,w.inj,fun k u e t=>?_,w.untM (IoLe.refl _) (Same.refl _),w.tabM (Same.refl _) (upd_tbl (w.ntbl (.inr rfl)))⟩,IoLe.refl _,Same.refl _,fun a b=>upd_ne fun z=>by subst z;exact nb b⟩
 ·show upd s.H p o b=some u
  rw[upd_ne (fun z=>by subst z;have e:s.F b=some u:=e;rw[hF] at e;cases e)]
  exact w.sub b u e
 ·by_cases q:a=p
  ·subst q;exact⟨hF,o,upd_same,nt⟩
  ·obtain⟨h1,u,h2,h3⟩:=w.hid a b
   exact⟨h1,u,by show upd s.H p o a=some u;rw[upd_ne q];exact h2,h3⟩
 ·obtain⟨a,e1,b1,f1,o1⟩:=w.obj k u e t
  have na:a≠p:=fun z=>b1 (.inr z)
  exact⟨a,e1,b1,f1,ObjR.mono (s:=s) (s':=⟨s.io,s.F,upd s.H p o⟩) (IoLe.refl _) (Same.refl _) (upd_ne na) o1⟩
theorem Slo.more {G:G3} {X:Hex} {B0 B B':Addr→Prop} {s:S3} {u:Sl3} {z:L2.St} (h:Slo G X B0 B s u z) (hb:∀a,B a→B' a):Slo G X B0 B' s u z:=by
 obtain⟨hl,ow,h1,h2⟩:=h
 exact⟨hl,ow,fun i w e=>let ⟨v,e1,r,q⟩:=h1 i w e;⟨v,e1,r.wider hb,q⟩,h2⟩
theorem lc_ok {tgt iter elt:Expr} {ifs:List Expr} {mi:FM} {g:GM} {gs:List Nat} {c:TM} {e:EM} {own:List Nat} {ti:TI} (hgs:∀i∈gs,i∈own)
  (hti:∀(B0 B:Addr→Prop) (s:S3) (st:Store) (u:Sl3) (z:L2.St) (R:It→Hp→Prop),Wd P.G B st s→Slo P.G P.hx B0 B s u z→Post P.G B (fun s ds J=>Itm P.G s ds J) (fun c d H=>P.wx c d z H) s R (mi u st)→ti z s.H R)
  {B0 B:Addr→Prop} {s:S3} {st:Store} {u:Sl3} {z:L2.St} {Q:VK} (wd:Wd P.G B st s) (sl:Slo P.G P.hx B0 B s u z) (h:PostF P.G B (fun c d H=>P.wx c d z H) s Q (fLc mi g c e own u st)) :
  tLc ti (tG P.G P.hx g gs) (tT P.G P.hx noW c) (tE P.G P.hx noW e) own z s.H Q:=by
 refine hti B0 B s st u z _ wd sl (PostF.bind h fun ds st1 s1 J l1 wd1 im h1=>?_)
 intro p hp
 obtain⟨wd2,l2⟩:=own_wd (ho:=.lst []) wd1 hp
 have nb:¬B p:=wd1.freshB hp
 refine⟨fun i n H'=>n=ds.length - i∧i≤ds.length∧∃(s':S3) (st':Store) (acc:List D) (vs:List V),s'.H=H'∧Le B s1 s'∧Wd P.G (plus B p) st' s'∧s'.H p=some (.lst vs)∧RepL P.G.R s'.F s'.io acc vs∧
   PostF P.G B (fun c d H=>P.wx c d z H) s' Q (lcL g c e (wipe3 u own) (ds.drop i) acc st'),
  ⟨_,rfl,Nat.zero_le _,_,st1,[],[],rfl,l2,wd2,upd_same,.nil,PostF.mono l2 h1⟩,?_⟩
 rintro i n H' ⟨rfl,hi,s',st',acc,vs,rfl,l',w',hq,rl,pf⟩
 rcases Nat.lt_or_ge i ds.length with hlt | hge
 ·right
  refine⟨im.go s' l'.io l'.fr w'.sub i hlt,fun H2=>i+1≤ds.length∧∃(s':S3) (st':Store) (acc:List D) (vs:List V),s'.H=H2∧Le B s1 s'∧Wd P.G (plus B p) st' s'∧s'.H p=some (.lst vs)∧RepL P.G.R s'.F s'.io acc vs∧
   PostF P.G B (fun c d H=>P.wx c d z H) s' Q (lcL g c e (wipe3 u own) (ds.drop (i+1)) acc st'),fun H2 q=>⟨_,by omega,rfl,q.1,q.2⟩,fun x H2 y=>?_⟩
  obtain⟨rfl,d,ed,rd⟩:=im.yld s' l'.io l'.fr w'.sub i x _ hlt y
  rw[List.drop_eq_getElem_cons hlt] at pf
  have ed':ds[i]=d:=by rw[List.getElem?_eq_getElem hlt] at ed;cases ed;rfl
  rw[ed'] at pf
  unfold lcL at pf
  obtain⟨u1,eg,pf⟩:=PostF.of_of pf
  have slw:Slo P.G P.hx B0 (plus B p) s' (wipe3 u own) (L2.wipe z own):=((sl.mono' (l1.trans l')).more fun a b=>.inl b).wipe own
  refine⟨B0,plus B p,s',st',wipe3 u own,d,u1,rfl,w',slw,rd,eg,fun z2 sl2 b2=>⟨?_,?_⟩⟩
  ·rw[b2.wipe hgs,wipe_wipe]
  ·obtain⟨k,st3,ek,pf⟩:=of_quiet pf
   refine⟨B0,plus B p,s',st',u1,rfl,w',sl2,?_⟩
   rw[ek]
   intro s3 k' l3 w3 rk
   subst rk
   have hq3:s3.H p=some (.lst vs):=(l3.hid p (.inr rfl)).trans hq
   have rl3:=rl.mono l3.fr l3.io
   have pf:=PostF.mono (plus_le l3) pf
   cases k with
   | false=>exact⟨hlt,s3,st3,acc,vs,rfl,l'.trans (plus_le l3),w3,hq3,rl3,pf⟩
   | true=>
    rw[if_pos rfl] at pf
    obtain⟨w,st4,ew,pf⟩:=of_quiet pf
    rw[if_pos rfl]
    refine⟨B0,plus B p,s3,st3,u1,rfl,w3,sl2.mono' l3,?_⟩
    rw[ew]
    intro s4 v4 l4 w4 r4
    obtain⟨x4,ex,pf⟩:=PostF.of_of pf
    obtain⟨hz,pf⟩:=PostF.of_chk pf
    have hq4:s4.H p=some (.lst vs):=(l4.hid p (.inr rfl)).trans hq3
    have rl4:=rl3.mono l4.fr l4.io
    have rx:Rep P.G.R s4.F s4.io x4 v4:=by
     cases w with
     | val d=>cases ex;exact r4
     | _=>cases ex
    obtain⟨w5,l5⟩:=grow_wd (xs:=[]) (d:=.non) (v:=.non) w4 nb hq4 (.lst (vs++[v4]))
    exact⟨vs,hq4,by rw[←rl4.length];exact szl hz,hlt,_,st4,acc++[x4],vs++[v4],rfl,((l'.trans (plus_le l3)).trans (plus_le l4)).trans l5,w5,upd_same,rl4.append (.cons rx .nil),PostF.mono ((plus_le l4).trans l5) pf⟩
 ·left
  have e0:ds.drop i=[]:=List.drop_eq_nil_of_le hge
  rw[e0] at pf
  exact⟨im.stop s' l'.io l'.fr w'.sub i hge,pf s' p vs (Le.refl _) w' nb hq rl⟩
where
 wipe_wipe {z:L2.St} {vs:List Nat}:L2.wipe (L2.wipe z vs) vs=L2.wipe z vs:=by
  apply List.ext_getElem?
  intro i
  by_cases hi:i∈vs
  ·by_cases hl:i<z.length
   ·rw[wipe_in hi (by rw[wipe_length];exact hl),wipe_in hi hl]
   ·rw[List.getElem?_eq_none (by rw[wipe_length,wipe_length];omega),List.getElem?_eq_none (by rw[wipe_length];omega)]
  ·rw[wipe_out hi]
theorem mf_lc {elt tg iter:Expr} {ifs:List Expr} {scope:Scope} {own:List (Str×Nat)} {mi:FM} {g:GM} {gs:List Nat} {c:TM} {m:EM} (hc:Cool P.X) (hN:P.X.N.Nodup) (hi:MI P tg iter mi) (ok:BlkOk P.X.N P.X.env.scope scope own)
  (hg:∀(s:Shared) (H:Hp) (C:Addr) (cl:List (Str×Addr)) (fp:List Addr),CoolS P.X.A s H (frs P.X.stack) fp→MG (P.blk s H scope C cl fp) tg g gs) (ht:∀(s:Shared) (H:Hp) (C:Addr) (cl:List (Str×Addr)) (fp:List Addr),CoolS P.X.A s H (frs P.X.stack) fp→MIfs (P.blk s H scope C cl fp) ifs c)
  (he:∀(s:Shared) (H:Hp) (C:Addr) (cl:List (Str×Addr)) (fp:List Addr),CoolS P.X.A s H (frs P.X.stack) fp→ME (P.blk s H scope C cl fp) elt m) (hgs:∀i∈gs,i∈own.map (·.2):=by decide) (hs:∀x,foldedSetIterable iter P.X.env x=pure x:=by intro _;rfl) :
  MF P (.ListComp elt [⟨tg,iter,ifs,0⟩] scope pos) (fLc mi g c m (own.map (·.2))):=by
 obtain⟨ti,pi,hti⟩:=hi.out
 refine MF.mk' (pe_lc (own:=own) (g:=tG P.G P.hx g gs) (tt:=tT P.G P.hx noW c) (te:=tE P.G P.hx noW m) hc hN pi ok (fun s H C cl fp co=>(hg s H C cl fp co).pg) (fun s H C cl fp co=>(ht s H C cl fp co).pts) (fun s H C cl fp co=>(he s H C cl fp co).pe) hs) fun B0 B s st u z Q wd sl h=>?_
 exact lc_ok (tgt:=tg) (iter:=iter) (elt:=elt) (ifs:=ifs) hgs hti wd sl h
theorem ms_setLc {i:Nat} {y:Str} {py spos:Pos} {elt tg iter:Expr} {ifs:List Expr} {scope:Scope} {own:List (Str×Nat)} {mi:FM} {g:GM} {gs:List Nat} {c:TM} {m:EM} (hc:Cool P.X) (hN:P.X.N.Nodup) (hi:MI P tg iter mi) (ok:BlkOk P.X.N P.X.env.scope scope own)
  (hg:∀(s:Shared) (H:Hp) (C:Addr) (cl:List (Str×Addr)) (fp:List Addr),CoolS P.X.A s H (frs P.X.stack) fp→MG (P.blk s H scope C cl fp) tg g gs) (ht:∀(s:Shared) (H:Hp) (C:Addr) (cl:List (Str×Addr)) (fp:List Addr),CoolS P.X.A s H (frs P.X.stack) fp→MIfs (P.blk s H scope C cl fp) ifs c)
  (he:∀(s:Shared) (H:Hp) (C:Addr) (cl:List (Str×Addr)) (fp:List Addr),CoolS P.X.A s H (frs P.X.stack) fp→ME (P.blk s H scope C cl fp) elt m)
  (hsw:swapsWith (.ListComp elt [⟨tg,iter,ifs,0⟩] scope pos) (some (.Name y py)) spos.line P.X.env=pure true) (hy:P.X.N[i]?=some y:=by rfl) (hyl:P.X.env.scope.names.lookup y=some .local:=by rfl)
  (hgs:∀i∈gs,i∈own.map (·.2):=by decide) (hs:∀x,foldedSetIterable iter P.X.env x=pure x:=by intro _;rfl) :
  MS P (.Assign [.Name y py] (.ListComp elt [⟨tg,iter,ifs,0⟩] scope pos) spos) (sSet i (eF (fLc mi g c m (own.map (·.2))))):=by
 obtain⟨ti,pi,hti⟩:=hi.out
 refine MS.mk' (ps_setLc (own:=own) (g:=tG P.G P.hx g gs) (tt:=tT P.G P.hx noW c) (te:=tE P.G P.hx noW m) hc hN hy hyl hsw pi ok (fun s H C cl fp co=>(hg s H C cl fp co).pg) (fun s H C cl fp co=>(ht s H C cl fp co).pts) (fun s H C cl fp co=>(he s H C cl fp co).pe) hs) fun B0 B s o u z D b0 wd sl h=>?_
 refine lc_ok (tgt:=tg) (iter:=iter) (elt:=elt) (ifs:=ifs) hgs hti wd sl ?_
 unfold sSet eF M.bind at h
 cases e:fLc mi g c m (own.map (·.2)) u o with
 | ok xs st'=>
  rw[e] at h
  dsimp only[M.pure] at h
  exact fun s' p vs l w nb hp r=>h B ⟨s'.io,upd s'.F p (.lst vs),s'.H⟩ _ b0 ((l.trans (freeze_le w)).less b0) (freeze_wd w nb hp) ((sl.mono' (l.trans (freeze_le w))).set (.lst upd_same (r.mono (freeze_le w).fr (freeze_le w).io)) i)
 | err c x st'=>rw[e] at h;exact fun s' cv dd l w q=>h B s' z cv dd b0 (l.less b0) w (sl.mono' l) q
 | bad=>rw[e] at h;exact h
end
end M3
namespace M3
open PySem PySem.Spec PyProof.Rows L2
def mfn (N:Nat) (mb:SM):List D→M D:=fun ds st=>match mb (ds.map (fun d=>some (.val d))++List.replicate (N - ds.length) none) st with
 | .nx _ st'=>.ok .non st'
 | .rt (.val d) st'=>.ok d st'
 | .rt (.bor xs) st'=>.ok (.lst xs) st'
 | .err c x _ st'=>.err c x st'
 | _=>.bad
def spM (G:G3) (n:Nat) (m:List D→M D):Sp:=fun vs H Q E=>vs.length=n∧∃(B:Addr→Prop) (s:S3) (st:Store) (ds:List D),s.H=H∧Wd G B st s∧RepL G.R s.F s.io ds vs∧
 Post G B (fun s d v=>Rep G.R s.F s.io d v) E s Q (m ds st)
theorem slo_start {G:G3} {X:Hex} {B0 B:Addr→Prop} {s:S3} {N:List Str} {ds:List D} {vs:List V} (r:RepL G.R s.F s.io ds vs) :
  Slo G X B0 B s (ds.map (fun d=>some (.val d))++List.replicate (N.length - ds.length) none) (L2.start N vs):=by
 have hl:=r.length
 have none_:∀{i:Nat} {w:M3.W},(ds.map (fun d=>some (M3.W.val d))++List.replicate (N.length - ds.length) none)[i]?=some (some w)→∃d,ds[i]?=some d∧w=.val d:=fun {i w} e=>by
  by_cases hi:i<ds.length
  ·rw[List.getElem?_append_left (by simpa using hi),List.getElem?_map] at e
   cases h:ds[i]? with
   | none=>rw[h] at e;cases e
   | some d=>rw[h] at e;cases e;exact⟨d,rfl,rfl⟩
  ·rw[List.getElem?_append_right (by simpa using hi),List.getElem?_replicate] at e
   split at e <;> cases e
 refine⟨by unfold L2.start;simp[hl],fun _=>0,fun i w e=>?_,fun i j w w' o1 o2 e1 e2 _=>?_⟩
 ·obtain⟨d,e1,rfl⟩:=none_ e
  obtain⟨v,e2,rv⟩:=r.get e1
  refine⟨v,?_,rv,fun q=>by cases q⟩
  unfold L2.start
  have hi:i<vs.length:=(List.getElem?_eq_some_iff.mp e2).1
  rw[List.getElem?_append_left (by simpa using hi),List.getElem?_map,e2]
  rfl
 ·obtain⟨d,_,q⟩:=none_ e1
  subst q;cases o1
section
variable {P:Program} {w:World} {K:PySem.W.Frag} {mg:Str→Option Value} {base:Heap}
theorem fn_ok {G:G3} (hK:K=G.K) (hw:w=G.w) {x qual:Str} {st:Stmt} {f:Addr} {fd:FuncData} {N ps:List Str} {k:Nat} {mb:SM} (F:Fun K x qual st f fd) (S:FnScope N ps (defScope st))
  (h:∀(cdv:Value) (A:Around) (outer:List Env) (s:Shared) (H:Hp) (E:XK),Room k (cxOf (CXq P w) P w K mg base N qual (defScope st) f cdv A outer s H E)→
   MSs ⟨cxOf (CXq P w) P w K mg base N qual (defScope st) f cdv A outer s H E,G,none,fun cls d _ H=>E cls d H,hK,hw⟩ (defBody st) mb) :
  FnOk P w K mg base (CXq P w) (k+1) f fd ps (spM G ps.length (mfn N.length mb)):=by
 refine okX F S (fun vs H Q E h=>h.1) fun cdv A outer s0 H vs Q E hr ⟨hl,B,s,o,ds,e,wd,rl,hp⟩=>?_
 subst e
 obtain⟨t,pt,ht⟩:=(h cdv A outer s0 s.H E hr).out
 refine⟨t,pt,ht B B s o _ _ _ (fun _ b=>b) wd (slo_start (N:=N) rl) ?_⟩
 unfold mfn at hp
 have hlen:ds.map (fun d=>some (M3.W.val d))++List.replicate (N.length - ds.length) none=ds.map (fun d=>some (M3.W.val d))++List.replicate (N.length - ds.length) none:=rfl
 cases em:mb (ds.map (fun d=>some (.val d))++List.replicate (N.length - ds.length) none) o with
 | nx u' st'=>rw[em] at hp;exact fun B' s' z' b l w sl=>hp s' .non l (w.less b) .non
 | rt w st'=>
  rw[em] at hp
  cases w with
  | val d=>exact fun B' s' v b l w r=>hp s' v l (w.less b) r
  | bor xs=>
   rintro B' s' v b l w ⟨p,vs',rfl,bp,nb,hq,r⟩
   have w':Wd G (plus B p) st' s':=w.less fun a q=>q.elim (b a) fun z=>z▸bp
   exact hp ⟨s'.io,upd s'.F p (.lst vs'),s'.H⟩ (.ref p) (l.trans (freeze_le w')) (freeze_wd w' nb hq) (.lst upd_same (r.mono (freeze_le w').fr (freeze_le w').io))
  | bod ks us=>exact hp.elim
  | bdd ks us=>exact hp.elim
  | exn c x=>exact hp.elim
  | len xs=>exact hp.elim
 | bk u' st'=>rw[em] at hp;exact hp.elim
 | ct u' st'=>rw[em] at hp;exact hp.elim
 | err c x u' st'=>rw[em] at hp;exact fun B' s' z' cv dd b l w sl q=>hp s' cv dd l (w.less b) q
 | bad=>rw[em] at hp;exact hp.elim
end
def eCall (n:Nat) (m:List D→M D) (ma:AM):EM:=fun u=>M.bind (ma u) fun ws=>M.bind (M.of (asDs ws)) fun ds=>M.bind (M.chk (ds.length=n)) fun _=>M.bind (m ds) fun d=>M.pure (.val d)
section
variable {P:P3} {pos p:Pos} {x:Str} {e:Expr} {es:List Expr} {ma:AM} {m:List D→M D} {k j n:Nat} {f:Addr} {fd:FuncData} {ps:List Str}
structure Cal (Pg:Program) (w:World) (K:PySem.W.Frag) (mg:Str→Option Value) (base:Heap) (G:G3) (k:Nat) (x:Str) (n:Nat) (m:List D→M D):Prop where
 ex:∃f fd ps,mg x=some (.ref f)∧PySem.W.keepIn K (.ref f)=true∧Binds K fd ps []∧ps.length=n∧FnOk Pg w K mg base (CXq Pg w) k f fd ps (spM G n m)
theorem me_call (c:Cal P.X.prog P.X.w P.X.K P.X.mg P.X.base P.G k x n m) (hr:Room j P.X) (hk:k≤j) (tk:Takes P.X P.wx) (hg:Gl P.X x) (ha:MA P (e :: es) ma)
  (hdb:(x == ("__debug__" : Str))=false:=by decide) (he:starEach (e :: es) P.X.env=(false,eval e P.X.env) :: starEach es P.X.env:=by rfl) (hpl:(backTo pos (starEach es P.X.env)).any (·.1)=false:=by rfl) :
  ME P (.Call (.Name x p) (e :: es) [] pos) (eCall n m ma):=by
 obtain⟨f,fd,ps,hm,hkp,hb,hn,F⟩:=c.ex
 obtain⟨t,pt,ht⟩:=ha.out
 refine ME.mk' (pe_callS F (hr.mono hk) hg hm hkp hb (fun σ=>passAt tk σ) pt hdb he hpl) fun B0 B s st u z Q wd sl h=>ht B0 B s st u z _ wd sl (Post.bind h fun ws st1 s1 vs l1 wd1 r1 h1=>?_)
 obtain⟨ds,e,h1⟩:=Post.of_of h1
 obtain⟨hl,h1⟩:=Post.of_chk h1
 have rl:=asDs_ok r1 e
 refine⟨by rw[←rl.length];exact hl,B,s1,st1,ds,rfl,wd1,rl,?_⟩
 unfold M.bind at h1
 cases em:m ds st1 with
 | ok d st'=>rw[em] at h1;exact fun s' v l w r=>h1 s' v l w r
 | err c x st'=>rw[em] at h1;exact h1
 | bad=>rw[em] at h1;exact h1
end
def CallM (P:P3) (f:Value) (g:List W→Option W):Prop:=∃r,CallR P.X f r∧∀(B:Addr→Prop) (s:S3) (st:Store) (ws:List W) (w:W) (vs:List V) (Q:VK),Wd P.G B st s→RepWs P.G P.hx B s ws vs→
 g ws=some w→(∀(s':S3) (v:V),Le B s s'→Wd P.G B st s'→RepW P.G P.hx B s' w v→Q v s'.H)→r vs s.H Q
def CallF (P:P3) (f:Value) (g:List W→Option (List D)):Prop:=∃r,CallR P.X f r∧∀(B:Addr→Prop) (s:S3) (st:Store) (ws:List W) (xs:List D) (vs:List V) (Q:VK),Wd P.G B st s→RepWs P.G P.hx B s ws vs→
 g ws=some xs→(∀(us:List V) (p:Addr),RepL P.G.R s.F s.io xs us→s.H p=none→Q (.ref p) (upd s.H p (.lst us)))→r vs s.H Q
def eB (g:List W→Option W) (ma:AM):EM:=fun u=>M.bind (ma u) fun ws=>M.of (g ws)
def fB (g:List W→Option (List D)) (ma:AM):FM:=fun u=>M.bind (ma u) fun ws=>M.of (g ws)
section
variable {P:P3} {pos p:Pos} {x:Str} {e:Expr} {es:List Expr} {ma:AM} {id T:String} {g:List W→Option W} {gf:List W→Option (List D)}
theorem me_callB (hc:CallM P (.builtin id) g) (hg:Gl P.X x) (hm:P.X.mg x=none) (hv:bootBuiltins x=some (.builtin id)) (ha:MA P (e :: es) ma) (hn:x≠"__name__":=by decide) (hdb:(x == ("__debug__" : Str))=false:=by decide)
  (he:starEach (e :: es) P.X.env=(false,eval e P.X.env) :: starEach es P.X.env:=by rfl) (hpl:(backTo pos (starEach es P.X.env)).any (·.1)=false:=by rfl):ME P (.Call (.Name x p) (e :: es) [] pos) (eB g ma):=by
 obtain⟨t,pt,ht⟩:=ha.out
 obtain⟨r,hr,hq⟩:=hc
 refine ME.mk' (pe_callB hr hg hm hv pt hn hdb he hpl) fun B0 B s st u z Q wd sl h=>ht B0 B s st u z _ wd sl (Post.bind h fun ws st1 s1 vs l1 wd1 r1 h1=>?_)
 obtain⟨w,e,h1⟩:=of_eq h1
 exact hq B s1 st1 ws w vs Q wd1 r1 e fun s' v l w' r=>h1 s' v l w' r
theorem me_callTy (hc:CallM P (.type T) g) (hg:Gl P.X x) (hm:P.X.mg x=none) (hv:bootBuiltins x=some (.type T)) (ha:MA P (e :: es) ma) (hn:x≠"__name__":=by decide) (hdb:(x == ("__debug__" : Str))=false:=by decide)
  (he:starEach (e :: es) P.X.env=(false,eval e P.X.env) :: starEach es P.X.env:=by rfl) (hpl:(backTo pos (starEach es P.X.env)).any (·.1)=false:=by rfl):ME P (.Call (.Name x p) (e :: es) [] pos) (eB g ma):=by
 obtain⟨t,pt,ht⟩:=ha.out
 obtain⟨r,hr,hq⟩:=hc
 refine ME.mk' (pe_callTy hr hg hm hv pt hn hdb he hpl) fun B0 B s st u z Q wd sl h=>ht B0 B s st u z _ wd sl (Post.bind h fun ws st1 s1 vs l1 wd1 r1 h1=>?_)
 obtain⟨w,e,h1⟩:=of_eq h1
 exact hq B s1 st1 ws w vs Q wd1 r1 e fun s' v l w' r=>h1 s' v l w' r
theorem mf_callTy (hc:CallF P (.type T) gf) (hg:Gl P.X x) (hm:P.X.mg x=none) (hv:bootBuiltins x=some (.type T)) (ha:MA P (e :: es) ma) (hn:x≠"__name__":=by decide) (hdb:(x == ("__debug__" : Str))=false:=by decide)
  (he:starEach (e :: es) P.X.env=(false,eval e P.X.env) :: starEach es P.X.env:=by rfl) (hpl:(backTo pos (starEach es P.X.env)).any (·.1)=false:=by rfl):MF P (.Call (.Name x p) (e :: es) [] pos) (fB gf ma):=by
 obtain⟨t,pt,ht⟩:=ha.out
 obtain⟨r,hr,hq⟩:=hc
 refine MF.mk' (pe_callTy hr hg hm hv pt hn hdb he hpl) fun B0 B s st u z Q wd sl h=>ht B0 B s st u z _ wd sl (PostF.bind h fun ws st1 s1 vs l1 wd1 r1 h1=>?_)
 cases e:gf ws with
 | none=>rw[e] at h1;exact h1.elim
 | some xs=>rw[e] at h1;exact hq B s1 st1 ws xs vs Q wd1 r1 e fun us p rl hp=>PostF.fresh h1 wd1 rl hp
def lenF:List W→Option W
 | [.val (.str z)]=>if z.length≤1000000 then some (.val (.int z.length)) else none
 | [w]=>(w.rd.bind D.items).map fun xs=>.val (.int xs.length)
 | _=>none
theorem cm_len:CallM P (.builtin "len") lenF:=by
 have hS:CallR P.X (.builtin "len") _:=call_len_str
 have hQ:CallR P.X (.builtin "len") _:=call_len_seq
 refine⟨fun xs H Q=>(∃z,xs=[.str z]∧z.length≤sizeLine∧Q (.int z.length) H)∨∃p ys,xs=[.ref p]∧(SqL P.X.K H p ys∨SqT P.X.K H p ys)∧Q (.int ys.length) H,?_,fun B s st ws w vs Q wd r e k=>?_⟩
 ·intro pins s z H xs us Q I r h
  rcases h with h | h
  ·exact hS pins s z H xs us Q I r h
  ·exact hQ pins s z H xs us Q I r h
 ·unfold lenF at e
  split at e
  ·split at e
   ·rename_i hz
    cases e
    cases r with
    | cons r rr=>cases rr;cases r;exact .inl ⟨_,rfl,szL hz,k s _ (Le.refl _) wd .int⟩
   ·cases e
  ·rename_i w0 _
   cases r with
   | cons r rr=>
    cases rr
    cases h1:w0.rd with
    | none=>rw[h1] at e;cases e
    | some d=>
     rw[h1,Option.bind_some] at e
     cases h2:d.items with
     | none=>rw[h2] at e;cases e
     | some xs=>
      rw[h2] at e
      cases e
      obtain⟨p,us,rfl,hq,rl⟩:=items_ok wd r h1 h2
      exact .inr ⟨p,us,rfl,hq,by rw[←rl.length];exact k s _ (Le.refl _) wd .int⟩
  ·cases e
def intCF:List W→Option W
 | [.val (.int i)]=>some (.val (.int i))
 | [.val (.bl b)]=>some (.val (.int (if b then 1 else 0)))
 | [.val (.str x)]=>if x.length≤640 then (PySem.intText? x).map fun i=>.val (.int i) else none
 | _=>none
theorem cr_int:CallR P.X (.type "int") (fun xs H Q=>((∃i,xs=[.int i]∧Q (.int i) H)∨∃k,xs=[.bl k]∧Q (.int (if k then 1 else 0)) H)∨∃x i,xs=[.str x]∧x.length≤640∧PySem.intText? x=some i∧Q (.int i) H):=by
 have old:CallR P.X (.type "int") _:=call_int1
 intro pins s σ H xs us Q I r h
 rcases h with h | ⟨x,i,rfl,hl,hn,q⟩
 ·exact old pins s σ H xs us Q I r h
 ·obtain⟨u,rfl,t,rfl⟩:=vals1 r
  exact PySem.W.KIN.call_text hn hl ⟨.int i,H,I.tok _,⟨_,rfl⟩,q⟩
theorem cm_int:CallM P (.type "int") intCF:=by
 refine⟨_,cr_int,fun B s st ws w vs Q wd r e k=>?_⟩
 unfold intCF at e
 split at e
 ·cases e
  cases r with
  | cons r rr=>cases rr;cases r;exact .inl (.inl ⟨_,rfl,k s _ (Le.refl _) wd .int⟩)
 ·cases e
  cases r with
  | cons r rr=>cases rr;cases r;exact .inl (.inr ⟨_,rfl,k s _ (Le.refl _) wd .int⟩)
 ·rename_i x
  split at e
  ·rename_i hl
   cases hn:PySem.intText? x with
   | none=>rw[hn] at e;cases e
   | some i=>
    rw[hn] at e
    cases e
    cases r with
    | cons r rr=>cases rr;cases r;exact .inr ⟨x,i,rfl,hl,hn,k s _ (Le.refl _) wd .int⟩
  ·cases e
 ·cases e
def tupCF:List W→Option W
 | [.val (.ctup xs)]=>some (.val (.ctup xs))
 | [w]=>(w.rd.bind D.items).map fun xs=>.val (.tup xs)
 | _=>none
theorem cm_tuple:CallM P (.type "tuple") tupCF:=by
 refine⟨_,call_tupleZ,fun B s st ws w vs Q wd r e k=>?_⟩
 unfold tupCF at e
 split at e
 ·cases e
  cases r with
  | cons r rr=>
   cases rr
   cases r with
   | ctup hq rl=>exact⟨_,_,rfl,.inr ⟨by rw[P.hK];exact same_sqT wd.sub hq,k s _ (Le.refl _) wd (.ctup hq rl)⟩⟩
 ·rename_i w0 nc
  cases r with
  | cons r rr=>
   cases rr
   cases h1:w0.rd with
   | none=>rw[h1] at e;cases e
   | some d=>
    rw[h1,Option.bind_some] at e
    cases h2:d.items with
    | none=>rw[h2] at e;cases e
    | some xs=>
     rw[h2] at e
     cases e
     have fresh:∀{us:List V},RepL P.G.R s.F s.io xs us→NewT us s.H Q:=fun {us} rl=>wd.newT rl fun s' v l w r=>k s' v l w r
     cases w0 with
     | val d'=>
      cases h1
      cases r with
      | tup hq rl=>cases h2;exact⟨_,_,rfl,.inr ⟨(hq.mono wd.sub).sq,k s _ (Le.refl _) wd (.tup hq rl)⟩⟩
      | ctup hq rl=>exact absurd rfl (nc _)
      | lst hq rl=>cases h2;exact⟨_,_,rfl,.inl ⟨.inl (.inl (wd.sub _ _ hq)),fresh rl⟩⟩
      | ro hq rl=>cases h2;exact⟨_,_,rfl,.inl ⟨by rw[P.hK];exact same_sqL wd.sub hq,fresh rl⟩⟩
      | _=>cases h2
     | bor ys=>
      cases h1
      cases h2
      obtain⟨p,us,rfl,_,hq,rl⟩:=r
      exact⟨p,us,rfl,.inl ⟨.inl (.inl hq),fresh rl⟩⟩
     | bod ks us=>cases h1
     | bdd ks us=>cases h1
     | exn c x=>cases h1
     | len ys=>
      cases h1
      cases h2
      obtain⟨p,us,o,rfl,_,hq,rl⟩:=r
      exact⟨p,us,rfl,.inl ⟨.inl (.inr ⟨o,hq⟩),fresh rl⟩⟩
 ·cases e
def lstCF:List W→Option (List D)
 | [w]=>w.rd.bind D.items
 | _=>none
theorem cf_list:CallF P (.type "list") lstCF:=by
 refine⟨_,call_list_of,fun B s st ws xs vs Q wd r e k=>?_⟩
 unfold lstCF at e
 split at e
 ·rename_i w0
  cases r with
  | cons r rr=>
   cases rr
   cases h1:w0.rd with
   | none=>rw[h1] at e;cases e
   | some d=>
    rw[h1,Option.bind_some] at e
    obtain⟨p,us,rfl,hq,rl⟩:=items_ok wd r h1 e
    exact⟨p,us,rfl,hq,fun l hl=>k us l rl hl⟩
 ·cases e
def D.tyn:D→Option String
 | .non=>some "NoneType"
 | .bl _=>some "bool"
 | .int _=>some "int"
 | .str _=>some "str"
 | .tup _=>some "tuple"
 | .ctup _=>some "tuple"
 | .lst _=>some "list"
 | .dict _ _=>some "dict"
 | _=>none
def isiF:List W→Option W
 | [x,.val (.ty T)]=>(x.rd.bind D.tyn).bind fun t=>(kitB t T).map fun b=>.val (.bl b)
 | _=>none
theorem tyn_ok {d:D} {v:V} {t:String} {F:Hp} {io:Io} (r:Rep P.G.R F io d v) (e:d.tyn=some t):TyX P.X.K F v (.type t):=by
 rw[P.hK]
 cases r with
 | non=>cases e;exact .base .non
 | bl=>cases e;exact .base (.bl _)
 | int=>cases e;exact .base (.int _)
 | str=>cases e;exact .base (.str _)
 | tup hq rl=>cases e;obtain⟨o,hq,_⟩:=hq;exact .fTuple hq
 | dict hq _ _=>cases e;exact .fDict hq
 | ctup hq rl=>
  cases e
  rcases hq with (hq | ⟨o,hq⟩) | ⟨o,its,n,h1,h2,_⟩
  ·exact .base (.tup hq)
  ·exact .fTuple hq
  ·exact .kTuple h1 h2
 | lst hq rl=>cases e;exact .base (.lst hq)
 | _=>cases e
theorem cm_isi:CallM P (.builtin "isinstance") isiF:=by
 refine⟨_,call_isi,fun B s st ws w vs Q wd r e k=>?_⟩
 unfold isiF at e
 split at e
 ·rename_i x0 T
  cases r with
  | cons r rr=>
   cases rr with
   | cons r2 rr=>
    cases rr
    cases r2
    cases h1:x0.rd with
    | none=>rw[h1] at e;cases e
    | some d=>
     rw[h1,Option.bind_some] at e
     cases h2:d.tyn with
     | none=>rw[h2] at e;cases e
     | some t=>
      rw[h2,Option.bind_some] at e
      cases h3:kitB t T with
      | none=>rw[h3] at e;cases e
      | some b=>
       rw[h3] at e
       cases e
       exact⟨_,_,.type t,.type T,b,rfl,.ty T,tyn_ok (rd_ok wd r h1) h2,kit_ty h3,k s _ (Le.refl _) wd .bl⟩
 ·cases e
end
end M3
namespace M3
open PySem PySem.Spec PyProof.Rows L2
abbrev PM:=Sl3→M (Option Int)
def pNone:PM:=fun _=>M.pure none
def pSome (m:EM):PM:=fun u=>M.bind (m u) fun w=>match w with
 | .val (.int i)=>M.pure (some i)
 | _=>M.bad
structure MP (P:P3) (e:Option Expr) (m:PM):Prop where
 out:∃t,PO P.X e t∧∀(B0 B:Addr→Prop) (s:S3) (st:Store) (u:Sl3) (z:L2.St) (Q:Option Int→Hp→Prop),Wd P.G B st s→Slo P.G P.hx B0 B s u z→
  Post P.G B (fun _ a b=>a=b) (fun c d H=>P.wx c d z H) s Q (m u st)→t z s.H Q
section
variable {P:P3} {pos p2:Pos} {e:Expr} {m:EM} {lo hi:Option Expr} {ml mh:PM}
theorem mp_none:MP P none pNone:=⟨_,po_none,fun B0 B s st u z Q wd sl h=>h.pure wd rfl⟩
theorem mp_some (he:ME P e m):MP P (some e) (pSome m):=by
 obtain⟨t,pt,ht⟩:=he.out
 refine⟨_,po_some pt,fun B0 B s st u z Q wd sl h=>ht B0 B s st u z _ wd sl (Post.bind h fun w st1 s1 v l1 wd1 r1 h1=>?_)⟩
 split at h1
 ·cases r1;exact⟨_,rfl,h1.pure wd1 rfl⟩
 ·exact h1.elim
def cutD {α:Type} (xs:List α) (lo hi:Option Int):List α:=(xs.drop (HT.sIx xs.length 0 lo)).take (HT.sIx xs.length xs.length hi - HT.sIx xs.length 0 lo)
theorem cut_rep {K:KW} {F:Hp} {io:Io} {xs:List D} {vs:List V} (r:RepL K F io xs vs) (lo hi:Option Int):RepL K F io (cutD xs lo hi) (cutV vs lo hi):=by
 unfold cutD cutV
 rw[r.length]
 exact(r.drop _).take _
def slF (x:W) (lo hi:Option Int):Option W:=match x with
 | .val (.str z)=>if z.length≤1000000 then some (.val (.str (cutS z lo hi))) else none
 | .val (.tup xs)=>some (.val (.tup (cutD xs lo hi)))
 | _=>none
def eSlA (m:EM) (l h:PM):EM:=fun u=>M.bind (m u) fun x=>M.bind (l u) fun a=>M.bind (h u) fun b=>match x.ls with
 | some xs=>M.pure (.val (.lst (cutD xs a b)))
 | none=>M.of (slF x a b)
theorem cut_all {α:Type} {xs:List α} {lo hi:Option Int} (h:HT.sIx xs.length 0 lo=0∧HT.sIx xs.length xs.length hi=xs.length):cutD xs lo hi=xs:=by
 unfold cutD
 rw[h.1,h.2]
 simp
theorem me_sl (he:ME P e m) (hl:MP P lo ml) (hh:MP P hi mh):ME P (.Subscript e (.Slice lo hi none p2) pos) (eSlA m ml mh):=by
 obtain⟨t,pt,ht⟩:=he.out
 obtain⟨tl,pl,htl⟩:=hl.out
 obtain⟨th,ph,hth⟩:=hh.out
 refine ME.mk' (pe_slice (sl_str.or (sl_tupZ.or sl_list)) pt pl ph) fun B0 B s st u z Q wd sl h=>ht B0 B s st u z _ wd sl (Post.bind h fun w st1 s1 v l1 wd1 r1 h1=>?_)
 refine htl B0 B s1 st1 u z _ wd1 (sl.mono' l1) (Post.bind h1 fun a st2 s2 a' l2 wd2 ra h2=>?_)
 subst ra
 refine hth B0 B s2 st2 u z _ wd2 (sl.mono' (l1.trans l2)) (Post.bind h2 fun b st3 s3 b' l3 wd3 rb h3=>?_)
 subst rb
 have r3:=r1.mono (l2.trans l3)
 cases e1:w.ls with
 | some xs=>
  rw[e1] at h3
  obtain⟨p,vs,rfl,hp,rl⟩:=ls_ok wd3 r3 e1
  refine .inr (.inr ⟨p,vs,rfl,.inl (.inl hp),fun q hq=>?_⟩)
  obtain⟨wd4,l4⟩:=wd3.froz hq (.lst (cutV vs a b))
  exact h3 (s3.froz q (.lst (cutV vs a b))) (.ref q) l4 wd4 (.lst upd_same ((cut_rep rl a b).mono l4.fr l4.io))
 | none=>
  rw[e1] at h3
  clear e1
  obtain⟨w',e1,h3⟩:=of_eq h3
  unfold slF at e1
  split at e1
  ·split at e1
   ·rename_i hz
    cases e1
    cases r3
    exact .inl ⟨_,rfl,szL hz,h3.pure wd3 .str⟩
   ·cases e1
  ·rename_i xs _
   cases e1
   cases r3 with
   | tup hq rl=>
    refine .inr (.inl ⟨_,_,rfl,(hq.mono wd3.sub).sq,fun hw=>?_,fun hw=>?_⟩)
    ·rw[←rl.length] at hw
     have h3:=h3
     rw[cut_all hw] at h3
     exact h3.pure wd3 (.tup hq rl)
    ·exact wd3.newT (cut_rep rl a b) fun s' v l w r=>h3 s' v l w r
  ·cases e1
def sApp (i:Nat) (m:EM):SM:=fun u st=>match u[i]? with
 | some (some (.bor xs))=>match m u st with
  | .ok (.val d) st'=>if xs.length<1000000 then .nx (u.set i (some (.bor (xs++[d])))) st' else .bad
  | .ok _ _=>.bad
  | .err c x st'=>.err c x u st'
  | .bad=>.bad
 | _=>.bad
theorem own_unlocked {G:G3} {X:Hex} {B:Addr→Prop} {s:S3} {w:M3.W} {p q:Addr} {o:Obj} {vs:List V} (ow:w.own=true) (r:RepW G X B s w (.ref p)) (h:s.H q=some (.frz o (.lst vs))):q≠p:=fun e=>by
 subst e
 cases w with
 | bor xs=>obtain⟨p',vs',e,b,h',_⟩:=r;cases e;rw[h] at h';cases h'
 | bod ks us=>obtain⟨p',vs',e,b,h',_⟩:=r;cases e;rw[h] at h';cases h'
 | bdd ks us=>obtain⟨p',vs',e,b,h',_⟩:=r;cases e;rw[h] at h';cases h'
 | _=>cases ow
theorem Slo.changeW {G:G3} {X:Hex} {B0 B:Addr→Prop} {s:S3} {u:Sl3} {z:L2.St} {i:Nat} {w0:W} {st:Store} (h:Slo G X B0 B s u z) (wd:Wd G B st s) (e:u[i]?=some (some w0)) (o0:w0.own=true) :
  ∃p,z[i]?=some (some (.ref p))∧B p∧¬B0 p∧RepW G X B s w0 (.ref p)∧∀(w':W) (ho:HO),w'.own=true→RepW G X B ⟨s.io,s.F,upd s.H p ho⟩ w' (.ref p)→
   Slo G X B0 B ⟨s.io,s.F,upd s.H p ho⟩ (u.set i (some w')) z∧Wd G B st ⟨s.io,s.F,upd s.H p ho⟩∧Le B0 s ⟨s.io,s.F,upd s.H p ho⟩:=by
 obtain⟨hl,ow,h1,h2⟩:=h
 obtain⟨v,e1,rw0,q⟩:=h1 i _ e
 obtain⟨e3,nb⟩:=q o0
 subst e3
 obtain⟨p,e3,bp⟩:=own_ref o0 rw0
 injection e3 with e3
 have hF:=(wd.hid p bp).1
 refine⟨p,by rw[←e3];exact e1,bp,by rw[←e3];exact nb,by rw[←e3];exact rw0,fun w' ho o' ru=>⟨⟨by simpa using hl,ow,fun j w ej=>?_,fun j k wj wk oj ok q1 q2 q3=>?_⟩,⟨fun b o eb=>?_,fun a ba=>?_,wd.ftb,wd.dom,wd.inj,fun k o ek t=>?_,wd.untM (IoLe.refl _) (Same.refl _),wd.tabM (Same.refl _) (upd_tbl (wd.ntbl bp))⟩,IoLe.refl _,Same.refl _,fun a ba=>?_⟩⟩
 ·rcases get_set ej with⟨rfl,rfl⟩ | ⟨ne,ej⟩
  ·exact⟨.ref p,by rw[←e3];exact e1,ru,fun q'=>⟨by rw[e3],nb⟩⟩
  ·obtain⟨v,ev,rv,qv⟩:=h1 j w ej
   refine⟨v,ev,?_,qv⟩
   have away:w.own=true→∀p',v=.ref p'→p'≠p:=fun ow' p' e' z=>by
    obtain⟨e4,_⟩:=qv ow'
    rw[e'] at e4
    injection e4 with e4
    exact ne (h2 i j w0 w o0 ow' e ej (by rw[e3,←e4,z]))
   cases w with
   | val d=>exact rv
   | exn c x=>exact rv
   | bor xs'=>
    obtain⟨p',vs',rfl,b',hp',rl'⟩:=rv
    exact⟨p',vs',rfl,b',(upd_ne (away rfl p' rfl)).trans hp',rl'⟩
   | bod ks us=>
    obtain⟨p',vs',rfl,b',hp',rl'⟩:=rv
    exact⟨p',vs',rfl,b',(upd_ne (away rfl p' rfl)).trans hp',rl'⟩
   | bdd ks us=>
    obtain⟨p',vs',rfl,b',hp',rl'⟩:=rv
    exact⟨p',vs',rfl,b',(upd_ne (away rfl p' rfl)).trans hp',rl'⟩
   | len ys=>
    obtain⟨p',vs',o,rfl,b',hp',rl'⟩:=rv
    exact⟨p',vs',o,rfl,b',(upd_ne (by rw[←e3];exact own_unlocked o0 rw0 hp')).trans hp',rl'⟩
 ·have old:∀{j:Nat} {w1:M3.W},w1.own=true→(u.set i (some w'))[j]?=some (some w1)→∃w2:M3.W,w2.own=true∧u[j]?=some (some w2):=fun {j w1} o1 q=>by
   rcases get_set q with⟨rfl,_⟩ | ⟨_,q⟩
   ·exact⟨w0,o0,e⟩
   ·exact⟨w1,o1,q⟩
  obtain⟨a1,oa1,q1⟩:=old oj q1
  obtain⟨a2,oa2,q2⟩:=old ok q2
  exact h2 j k a1 a2 oa1 oa2 q1 q2 q3
 ·show upd s.H p _ b=some o
  rw[upd_ne (fun z=>by subst z;have eb:s.F b=some o:=eb;rw[hF] at eb;cases eb)]
  exact wd.sub b o eb
 ·obtain⟨a1,o,a2,a3⟩:=wd.hid a ba
  by_cases q:a=p
  ·subst q
   have hh:upd s.H a ho a=some ho:=upd_same
   refine⟨a1,_,upd_same,?_⟩
   cases w' with
   | bor xs=>obtain⟨p',vs,e',_,h',_⟩:=ru;cases e';have h':upd s.H a ho a=_:=h';rw[hh] at h';cases h';exact⟨fun _ q=>(by cases q),fun _ _ q=>(by first | exact dkO_code q | exact cellO_code q | (unfold LamX.CodeO at q;cases q))⟩
   | bod ks us=>obtain⟨p',vs,e',_,h',_⟩:=ru;cases e';have h':upd s.H a ho a=_:=h';rw[hh] at h';cases h';exact⟨fun _ q=>(by cases q),fun _ _ q=>(by first | exact dkO_code q | exact cellO_code q | (unfold LamX.CodeO at q;cases q))⟩
   | bdd ks us=>obtain⟨p',vs,e',_,h',_⟩:=ru;cases e';have h':upd s.H a ho a=_:=h';rw[hh] at h';cases h';exact⟨fun _ q=>(by cases q),fun _ _ q=>(by first | exact dkO_code q | exact cellO_code q | (unfold LamX.CodeO at q;cases q))⟩
   | _=>cases o'
  ·exact⟨a1,o,(upd_ne q).trans a2,a3⟩
 ·obtain⟨a,a1,a2,a3,a4⟩:=wd.obj k o ek t
  have na:a≠p:=fun z=>a2 (z▸bp)
  exact⟨a,a1,a2,a3,ObjR.mono (s:=s) (s':=⟨s.io,s.F,upd s.H p ho⟩) (IoLe.refl _) (Same.refl _) (upd_ne na) a4⟩
 ·exact upd_ne fun z=>nb (by rw[e3,←z];exact ba)
theorem Slo.change {G:G3} {X:Hex} {B0 B:Addr→Prop} {s:S3} {u:Sl3} {z:L2.St} {i:Nat} {xs ys:List D} {st:Store} (h:Slo G X B0 B s u z) (wd:Wd G B st s) (e:u[i]?=some (some (.bor xs))) :
  ∃p vs,z[i]?=some (some (.ref p))∧B p∧¬B0 p∧s.H p=some (.lst vs)∧RepL G.R s.F s.io xs vs∧∀us,RepL G.R s.F s.io ys us→
   Slo G X B0 B ⟨s.io,s.F,upd s.H p (.lst us)⟩ (u.set i (some (.bor ys))) z∧Wd G B st ⟨s.io,s.F,upd s.H p (.lst us)⟩∧Le B0 s ⟨s.io,s.F,upd s.H p (.lst us)⟩:=by
 obtain⟨p,ez,bp,nb,⟨p',vs,e',b',hp,rl⟩,ch⟩:=h.changeW wd e rfl
 cases e'
 exact⟨p,vs,ez,bp,nb,hp,rl,fun us ru=>ch (.bor ys) (.lst us) rfl ⟨p,us,rfl,bp,upd_same,ru⟩⟩
theorem ms_app (i:Nat) {x:Str} {px apos cpos:Pos} (he:ME P e m) (hN:P.X.N[i]?=some x:=by rfl) (hv:Vis P.X.env.scope x:=by first | exact Or.inl rfl | exact Or.inr (Or.inl rfl) | exact Or.inr (Or.inr rfl)) (hd:(x == ("__debug__" : Str))=false:=by decide)
  (hcd:(x == ("__classdict__" : Str))=false:=by decide) (hst:starEach [e] P.X.env=(false,eval e P.X.env) :: starEach [] P.X.env:=by rfl)
  (hbase:attributeBase (.Name x px) "append" P.X.env (eval (.Name x px) P.X.env)=eval (.Name x px) P.X.env:=by rfl)
  (hfew:((backTo cpos (starEach [e] P.X.env)).all (fun x=>!x.1) && (backToKw cpos (keywordEach [] P.X.env)).all (fun x=>x.1.isSome) && decide (([e]:List Expr).length+([]:List Keyword).length+(if ([]:List Keyword).isEmpty then 0 else 1)<30))=true:=by rfl)
  (hline:(apos.endLine == cpos.line)=true:=by rfl) (hplain:(backTo cpos (starEach [] P.X.env)).any (·.1)=false:=by rfl)
  (hs:swapsWith (.Call (.Attribute (.Name x px) "append" apos) [e] [] cpos) none pos.line P.X.env=pure false:=by rfl) :
  MS P (.Expr (.Call (.Attribute (.Name x px) "append" apos) [e] [] cpos) pos) (sApp i m):=by
 obtain⟨t,pt,ht⟩:=he.out
 refine MS.mk' (ps_expr (pe_bm PySem.F.plainAttrs_list PySem.F.slot_list_append PySem.F.type_list_append mt_append (pe_var hN hv hd hcd) (pa_cons pt pa_nil hst) hbase hfew hline hst hplain) hs) fun B0 B s o u z D b0 wd sl h=>?_
 unfold sApp at h
 split at h
 ·rename_i xs e1
  obtain⟨p,vs,e2,bp,nb,hp,rl,_⟩:=sl.change (ys:=[]) wd e1
  refine⟨.ref p,e2,.inl ⟨rfl,vs,.inl (.inl hp)⟩,ht B0 B s o u z _ wd sl ?_⟩
  cases em:m u o with
  | bad=>rw[em] at h;exact h
  | err c x st'=>rw[em] at h;exact fun s' cv dd l w q=>h B s' z cv dd b0 (l.less b0) w (sl.mono' l) q
  | ok w st'=>
   rw[em] at h
   cases w with
   | bor xs=>exact h.elim
   | bod ks us=>exact h.elim
   | bdd ks us=>exact h.elim
   | exn c x=>exact h.elim
   | len xs=>exact h.elim
   | val d=>
    dsimp only at h
    split at h
    ·rename_i hz
     intro s' v l w r
     obtain⟨p',vs',e2',bp',nb',hp',rl',ch⟩:=(sl.mono' l).change (ys:=xs++[d]) w e1
     rw[e2] at e2';cases e2'
     obtain⟨sl2,w2,l2⟩:=ch (vs'++[v]) (rl'.append (.cons r .nil))
     exact⟨p,vs',v,rfl,rfl,hp',by rw[←rl'.length];exact szl hz,h B _ z b0 ((l.less b0).trans l2) w2 sl2⟩
    ·exact h.elim
 ·exact h.elim
end
end M3
namespace M3
open PySem PySem.Spec PyProof.Rows L2
def rInT (K:PySem.W.Frag):R2:=fun x y H Q=>∃d ds,Dp K H x d∧Dp K H y (.tuple ds)∧SeqAt.shaped d=true∧SeqAt.shaped (.tuple ds)=true∧Q (.bl (ds.any fun z=>PyData.eqv z d)) H
def rNotInT (K:PySem.W.Frag):R2:=fun x y H Q=>∃d ds,Dp K H x d∧Dp K H y (.tuple ds)∧SeqAt.shaped d=true∧SeqAt.shaped (.tuple ds)=true∧Q (.bl (!ds.any fun z=>PyData.eqv z d)) H
section
variable {X:Cx}
theorem op_inT (hu:X.A.units+65<cLine):OpR X (compareOp .In) (rInT X.K):=by
 rintro pins now σ H x y v u Q inv rx ry ⟨d,ds,dx,dy,shx,shy,q⟩
 obtain⟨_,readsx⟩:=Dp.reads inv d x v dx rx
 obtain⟨_,readsy⟩:=Dp.reads inv _ y u dy ry
 exact SeqAt.in_tuple_reads readsy readsx (SeqAt.canLay_of_shaped shy) (SeqAt.canLay_of_shaped shx) (room_in_shaped shx hu) ⟨V.bl _,H,inv,rfl,q⟩
theorem op_notInT (hu:X.A.units+65<cLine):OpR X (compareOp .NotIn) (rNotInT X.K):=by
 rintro pins now σ H x y v u Q inv rx ry ⟨d,ds,dx,dy,shx,shy,q⟩
 obtain⟨_,readsx⟩:=Dp.reads inv d x v dx rx
 obtain⟨_,readsy⟩:=Dp.reads inv _ y u dy ry
 exact SeqAt.notIn_tuple_reads readsy readsx (SeqAt.canLay_of_shaped shy) (SeqAt.canLay_of_shaped shx) (room_in_shaped shx hu) ⟨V.bl _,H,inv,rfl,q⟩
theorem op_dinV (hu:X.A.units+1<cLine):OpR X (compareOp .In) (fun y x H Q=>∃a o,x=.ref a∧DGet H a y o∧Q (.bl o.isSome) H):=by
 intro pins s σ H y x u v Q I ry rx h
 obtain⟨a,o,rfl,g,q⟩:=h
 cases rx
 exact d_in hu I g ry fun s' I'=>⟨.bl _,H,I',rfl,q⟩
theorem op_dnotInV (hu:X.A.units+1<cLine):OpR X (compareOp .NotIn) (fun y x H Q=>∃a o,x=.ref a∧DGet H a y o∧Q (.bl (!o.isSome)) H):=by
 intro pins s σ H y x u v Q I ry rx h
 obtain⟨a,o,rfl,g,q⟩:=h
 cases rx
 exact d_notIn hu I g ry fun s' I'=>⟨.bl _,H,I',rfl,q⟩
end
def D.key:D→Option Key
 | .int i=>some (.inl i)
 | .str x=>some (.inr x)
 | _=>none
def D.keys:List D→Option (List Key)
 | []=>some []
 | d :: ds=>match d.key,D.keys ds with
  | some k,some ks=>some (k :: ks)
  | _,_=>none
def atK {κ:Type} [DecidableEq κ]:List κ→List D→κ→Option D
 | k :: ks,d :: ds,x=>if k=x then some d else atK ks ds x
 | _,_,_=>none
def setK3 {κ:Type} [DecidableEq κ]:List κ→List D→κ→D→List D
 | k :: ks,d :: ds,x,y=>(if k=x then y else d) :: setK3 ks ds x y
 | _,ds,_,_=>ds
def putK3 {κ:Type} [DecidableEq κ] (ks:List κ) (ds:List D) (x:κ) (y:D):List κ×List D:=if x∈ks then (ks,setK3 ks ds x y) else (ks++[x],ds++[y])
def dgetF (d k:D):Option (Option D):=match d,k with
 | .dict ks us,k=>k.key.map fun x=>atK ks us x
 | _,_=>none
inductive DAt (K:KW) (io:Io) (F H:Hp) (a:Addr):D→Prop where
 | k {kvs:List (Key×V)} {us:List D}:Rd H a (.dK kvs)→RepL K F io us (kvs.map (·.2))→DAt K io F H a (.dict (kvs.map (·.1)) us)
section
variable {K:KW} {F H:Hp} {io:Io}
theorem atK_ok {κ:Type} [DecidableEq κ] (x:κ):∀{kvs:List (κ×V)} {us:List D},RepL K F io us (kvs.map (·.2))→(∀d,atK (kvs.map (·.1)) us x=some d→∃v,valV kvs x=some v∧Rep K F io d v)∧(atK (kvs.map (·.1)) us x=none→valV kvs x=none)
 | [],_,rl=>by
  cases rl
  exact⟨fun d h=>(by cases h),fun _=>rfl⟩
 | (k,v) :: kvs,[],rl=>by cases rl
 | (k,v) :: kvs,d :: us,rl=>by
  obtain⟨r,t⟩:Rep K F io d v∧RepL K F io us (kvs.map (·.2)):=by
   cases rl with
   | cons r t=>exact⟨r,t⟩
  have ih:=atK_ok x t
  have e1:valV ((k,v) :: kvs) x=if k=x then some v else valV kvs x:=by
   unfold valV
   by_cases h:k=x
   ·simp[h]
   ·simp[h]
  show (∀d',(if k=x then some d else atK (kvs.map (·.1)) us x)=some d'→_)∧_
  rw[e1]
  refine⟨fun d' h=>?_,fun h=>?_⟩
  ·by_cases q:k=x
   ·rw[if_pos q] at h⊢;cases h;exact⟨v,rfl,r⟩
   ·rw[if_neg q] at h⊢;exact ih.1 d' h
  ·have h:(if k=x then some d else atK (kvs.map (·.1)) us x)=none:=h
   by_cases q:k=x
   ·rw[if_pos q] at h;cases h
   ·rw[if_neg q] at h⊢;exact ih.2 h
theorem key_ok {d:D} {v:V} {k:Key} (r:Rep K F io d v) (e:d.key=some k):v=kV k:=by
 unfold D.key at e
 split at e
 ·cases e;cases r;rfl
 ·cases e;cases r;rfl
 ·cases e
theorem dget_ok {a:Addr} {d k:D} {y:V} {o:Option D} (at_:DAt K io F H a d) (hs:Same F H) (r:Rep K F io k y) (e:dgetF d k=some o) :
  ∃ov,DGet H a y ov∧ov.isSome=o.isSome∧∀d',o=some d'→∃v,ov=some v∧Rep K F io d' v:=by
 have fin:∀{κ:Type} [DecidableEq κ] {kvs:List (κ×V)} {us:List D} {x:κ},RepL K F io us (kvs.map (·.2))→o=atK (kvs.map (·.1)) us x→
   (valV kvs x).isSome=o.isSome∧∀d',o=some d'→∃v,valV kvs x=some v∧Rep K F io d' v:=fun {κ _ kvs us x} rl eo=>by
  obtain⟨h1,h2⟩:=atK_ok x rl
  cases q:atK (kvs.map (·.1)) us x with
  | none=>rw[q] at eo;subst eo;rw[h2 q];exact⟨rfl,fun d' z=>by cases z⟩
  | some d'=>
   rw[q] at eo
   subst eo
   obtain⟨v,hv,rv⟩:=h1 d' q
   rw[hv]
   exact⟨rfl,fun d2 z=>by cases z;exact⟨v,rfl,rv⟩⟩
 cases at_ with
 | @k kvs us ha rl=>
  have e:(k.key.map fun x=>atK (kvs.map (·.1)) us x)=some o:=e
  cases hk:k.key with
  | none=>rw[hk] at e;cases e
  | some x=>
   rw[hk] at e
   cases e
   obtain rfl:=key_ok r hk
   exact⟨_,.inl ⟨kvs,x,ha,rfl,rfl⟩,fin rl rfl⟩
end
def W.dic:W→Option D
 | .val (.dict ks us)=>some (.dict ks us)
 | .bod ks us=>some (.dict ks us)
 | _=>none
theorem dic_ok {G:G3} {X:Hex} {B:Addr→Prop} {s:S3} {st:Store} {w:W} {v:V} {d:D} (wd:Wd G B st s) (r:RepW G X B s w v) (e:w.dic=some d):∃a,v=.ref a∧DAt G.R s.io s.F s.H a d:=by
 unfold W.dic at e
 split at e
 ·cases e;cases r with | dict h q rl=>subst q;exact⟨_,rfl,.k (.inr ⟨_,wd.sub _ _ h⟩) rl⟩
 ·cases e;obtain⟨p,kvs,rfl,_,h,q,rl⟩:=r;subst q;exact⟨_,rfl,.k (.inl h) rl⟩
 ·cases e
def inF (neg:Bool) (x y:W):Option W:=match x,y with
 | .val (.str a),.val (.str b)=>match a.cps.toList with
  | [c]=>some (.val (.bl (if neg then !decide (c∈b.cps.toList) else decide (c∈b.cps.toList))))
  | _=>none
 | x,y=>match y.dic with
  | some d=>match x with
   | .val k=>(dgetF d k).map fun o=>.val (.bl (if neg then !o.isSome else o.isSome))
   | _=>none
  | none=>match x.rd,y.rd with
   | some a,some b=>match a.py,b.py with
    | some p,some (.list ps)=>if SeqAt.shaped p=true∧SeqAt.shaped (.list ps)=true then some (.val (.bl (if neg then !ps.any fun z=>PyData.eqv z p else ps.any fun z=>PyData.eqv z p))) else none
    | some p,some (.tuple ps)=>if SeqAt.shaped p=true∧SeqAt.shaped (.tuple ps)=true then some (.val (.bl (if neg then !ps.any fun z=>PyData.eqv z p else ps.any fun z=>PyData.eqv z p))) else none
    | _,_=>none
   | _,_=>none
section
variable {P:P3}
theorem in_ok {op:CmpOp} (neg:Bool) {R1 R2' R3 R4:R2} (h1:OpR P.X (compareOp op) R1) (h2:OpR P.X (compareOp op) R2') (h3:OpR P.X (compareOp op) R3) (h4:OpR P.X (compareOp op) R4)
  (g1:∀(c:Nat) (z:Str) H Q,Q (.bl (if neg then !decide (c∈z.cps.toList) else decide (c∈z.cps.toList))) H→R1 (.str ⟨#[c]⟩) (.str z) H Q)
  (g2:∀a o y H Q,DGet H a y o→Q (.bl (if neg then !o.isSome else o.isSome)) H→R2' y (.ref a) H Q)
  (g3:∀d ds x y H Q,Dp P.X.K H x d→Dp P.X.K H y (.list ds)→SeqAt.shaped d=true→SeqAt.shaped (.list ds)=true→Q (.bl (if neg then !ds.any fun z=>PyData.eqv z d else ds.any fun z=>PyData.eqv z d)) H→R3 x y H Q)
  (g4:∀d ds x y H Q,Dp P.X.K H x d→Dp P.X.K H y (.tuple ds)→SeqAt.shaped d=true→SeqAt.shaped (.tuple ds)=true→Q (.bl (if neg then !ds.any fun z=>PyData.eqv z d else ds.any fun z=>PyData.eqv z d)) H→R4 x y H Q) :
  OpM P (compareOp op) (inF neg):=by
 refine⟨_,h1.or (h2.or (h3.or h4)),fun B s st w1 w2 w v1 v2 Q wd r1 r2 e k=>?_⟩
 unfold inF at e
 split at e
 ·rename_i a b
  split at e
  ·rename_i c hc
   have ea:a=⟨#[c]⟩:=by
    obtain⟨cs⟩:=a
    have:cs = #[c]:=by
     have:=congrArg List.toArray hc
     simpa using this
    rw[this]
   subst ea
   cases e;cases r1;cases r2
   exact .inl (g1 _ _ _ _ (k s _ (Le.refl _) wd .bl))
  ·cases e
 ·split at e
  ·rename_i d hd
   split at e
   ·rename_i kd _
    obtain⟨a,rfl,at_⟩:=dic_ok wd r2 hd
    cases hg:dgetF d kd with
    | none=>rw[hg] at e;cases e
    | some o=>
     rw[hg] at e
     cases e
     obtain⟨ov,g,h,_⟩:=dget_ok at_ wd.sub r1 hg
     exact .inr (.inl (g2 _ _ _ _ _ g (by rw[h];exact k s _ (Le.refl _) wd .bl)))
   ·cases e
  ·split at e
   ·rename_i a b ea eb
    split at e
    ·rename_i p ps ep eps
     split at e
     ·rename_i hs
      cases e
      exact .inr (.inr (.inl (g3 p ps _ _ _ _ (by rw[P.hK];exact py_ok (rd_ok wd r1 ea) ep) (by rw[P.hK];exact py_ok (rd_ok wd r2 eb) eps) hs.1 hs.2 (k s _ (Le.refl _) wd .bl))))
     ·cases e
    ·rename_i p ps ep eps
     split at e
     ·rename_i hs
      cases e
      exact .inr (.inr (.inr (g4 p ps _ _ _ _ (by rw[P.hK];exact py_ok (rd_ok wd r1 ea) ep) (by rw[P.hK];exact py_ok (rd_ok wd r2 eb) eps) hs.1 hs.2 (k s _ (Le.refl _) wd .bl))))
     ·cases e
    ·cases e
   ·cases e
theorem om_in (hu:P.X.A.units+65<cLine):OpM P (compareOp .In) (inF false):=
 in_ok false op_in_sign (op_dinV (Nat.lt_of_le_of_lt (by omega) hu)) (op_inD hu) (op_inT hu) (fun c z H Q h=>⟨c,z,rfl,rfl,h⟩) (fun a o y H Q g h=>⟨a,o,rfl,g,h⟩) (fun d ds x y H Q a b c e h=>⟨d,ds,a,b,c,e,h⟩) (fun d ds x y H Q a b c e h=>⟨d,ds,a,b,c,e,h⟩)
theorem om_notin (hu:P.X.A.units+65<cLine):OpM P (compareOp .NotIn) (inF true):=
 in_ok true op_notIn_sign (op_dnotInV (Nat.lt_of_le_of_lt (by omega) hu)) (op_notInD hu) (op_notInT hu) (fun c z H Q h=>⟨c,z,rfl,rfl,h⟩) (fun a o y H Q g h=>⟨a,o,rfl,g,h⟩) (fun d ds x y H Q a b c e h=>⟨d,ds,a,b,c,e,h⟩) (fun d ds x y H Q a b c e h=>⟨d,ds,a,b,c,e,h⟩)
end
def D.bls:List D→Option (List Bool)
 | []=>some []
 | .bl b :: ds=>(D.bls ds).map (b :: ·)
 | _ :: _=>none
theorem bls_ok {K:KW} {F:Hp} {io:Io}:∀{ds:List D} {vs:List V} {bs:List Bool},RepL K F io ds vs→D.bls ds=some bs→vs=bs.map V.bl
 | [],_,_,.nil,e=>by unfold D.bls at e;cases e;rfl
 | d :: ds,_,bs,.cons r t,e=>by
  cases d with
  | bl b=>
   unfold D.bls at e
   cases h:D.bls ds with
   | none=>rw[h] at e;cases e
   | some bs'=>
    rw[h] at e
    cases e
    cases r
    rw[bls_ok t h]
    rfl
  | _=>unfold D.bls at e;cases e
def allF:List W→Option W
 | [w]=>w.ls.bind fun xs=>(D.bls xs).map fun bs=>.val (.bl (bs.all id))
 | _=>none
def anyF:List W→Option W
 | [w]=>w.ls.bind fun xs=>(D.bls xs).map fun bs=>.val (.bl (bs.any id))
 | _=>none
section
variable {P:P3}
theorem cm_all (hc:Cool P.X):CallM P (.builtin "all") allF:=by
 refine⟨_,cr_all hc,fun B s st ws w vs Q wd r e k=>?_⟩
 unfold allF at e
 split at e
 ·rename_i w0
  cases r with
  | cons r rr=>
   cases rr
   cases h1:w0.ls with
   | none=>rw[h1] at e;cases e
   | some xs=>
    rw[h1,Option.bind_some] at e
    cases h2:D.bls xs with
    | none=>rw[h2] at e;cases e
    | some bs=>
     rw[h2] at e
     cases e
     obtain⟨p,us,rfl,hp,rl⟩:=ls_ok wd r h1
     obtain rfl:=bls_ok rl h2
     exact⟨p,bs,rfl,.inl (.inl hp),k s _ (Le.refl _) wd .bl⟩
 ·cases e
theorem cm_any (hc:Cool P.X):CallM P (.builtin "any") anyF:=by
 refine⟨_,cr_any hc,fun B s st ws w vs Q wd r e k=>?_⟩
 unfold anyF at e
 split at e
 ·rename_i w0
  cases r with
  | cons r rr=>
   cases rr
   cases h1:w0.ls with
   | none=>rw[h1] at e;cases e
   | some xs=>
    rw[h1,Option.bind_some] at e
    cases h2:D.bls xs with
    | none=>rw[h2] at e;cases e
    | some bs=>
     rw[h2] at e
     cases e
     obtain⟨p,us,rfl,hp,rl⟩:=ls_ok wd r h1
     obtain rfl:=bls_ok rl h2
     exact⟨p,bs,rfl,.inl (.inl hp),k s _ (Le.refl _) wd .bl⟩
 ·cases e
end
def eNeg (a:EM):EM:=fun u=>M.bind (a u) fun w=>match w with
 | .val (.int i)=>M.pure (.val (.int (-i)))
 | _=>M.bad
section
variable {P:P3} {pos:Pos} {a:Expr} {ma:EM}
theorem me_neg (ha:ME P a ma):ME P (.UnaryOp .USub a pos) (eNeg ma):=by
 obtain⟨ta,pa,ha⟩:=ha.out
 refine ME.mk' (pe_un un_neg pa) fun B0 B s st u z Q wd sl hp=>ha B0 B s st u z _ wd sl (Post.bind hp fun w st1 s1 v l1 wd1 r1 h1=>?_)
 split at h1
 ·cases r1
  exact⟨_,rfl,h1.pure wd1 .int⟩
 ·exact h1.elim
end
section
variable {P:P3} {pos:Pos} {a b c:Expr} {ma mb mc:EM}
theorem mt_chain {op op':CmpOp} {g g':W→W→Option W} (h:OpM P (compareOp op) g) (h':OpM P (compareOp op') g') (ha:ME P a ma) (hb:ME P b mb) (hc:ME P c mc)
  (hm:lastMarks [op,op'] [b,c]=false:=by with_unfolding_all rfl):MT P (.Compare a [op,op'] [b,c] pos) (tOf (eChain g g' ma mb mc)):=by
 obtain⟨ta,pa,ha⟩:=ha.out
 obtain⟨tb,pb,hb⟩:=hb.out
 obtain⟨tc,pc,hc⟩:=hc.out
 obtain⟨r,hr,hq⟩:=h
 obtain⟨r',hr',hq'⟩:=h'
 refine MT.mk' (pt_chain hr hr' pa pb pc hm) fun B0 B s st u z Q wd sl hp=>?_
 have hp:Post P.G B (fun _ a b=>a=b) (fun c d H=>P.wx c d z H) s Q (M.bind (ma u) (fun x=>M.bind (mb u) fun y=>M.bind (M.of (g x y)) fun k=>M.bind (M.of k.bool) fun k=>M.bind (if k=true then M.bind (mc u) fun w=>M.of (g' y w) else M.pure (.val (.bl false))) fun w=>M.of w.bool) st):=by
  refine cast (congrArg _ ?_) hp
  unfold tOf eChain M.bind
  cases ma u st with
  | ok x st1=>
   dsimp only
   cases mb u st1 with
   | ok y st2=>
    dsimp only
    cases g x y with
    | none=>rfl
    | some k=>
     dsimp only[M.of,M.pure]
     cases hk:k.bool with
     | none=>simp[M.of,M.bad]
     | some k=>
      cases k <;> simp[M.of,M.pure,M.bad]
   | err c x st2=>rfl
   | bad=>rfl
  | err c x st1=>rfl
  | bad=>rfl
 refine ha B0 B s st u z _ wd sl (Post.bind hp fun w1 st1 s1 v1 l1 wd1 r1 h1=>?_)
 refine hb B0 B s1 st1 u z _ wd1 (sl.mono l1) (Post.bind h1 fun w2 st2 s2 v2 l2 wd2 r2 h2=>?_)
 obtain⟨w,e,h2⟩:=Post.of_of h2
 refine hq B s2 st2 w1 w2 w v1 v2 _ wd2 (r1.mono l2) r2 e fun s3 v l3 wd3 r3=>?_
 obtain⟨k,e2,h3⟩:=Post.of_of h2
 refine⟨k,bool_ok r3 e2,?_⟩
 cases k with
 | true=>
  rw[if_pos rfl] at h3⊢
  have h3:Post P.G B (fun _ a b=>a=b) (fun c d H=>P.wx c d z H) s2 Q (M.bind (mc u) (fun w=>M.bind (M.of (g' w2 w)) fun w=>M.of w.bool) st2):=by
   refine cast (congrArg _ ?_) h3
   unfold M.bind
   cases mc u st2 <;> rfl
  refine hc B0 B s3 st2 u z _ wd3 (sl.mono ((l1.trans l2).trans l3)) (Post.bind (Post.mono l3 h3) fun w4 st4 s4 v4 l4 wd4 r4 h4=>?_)
  obtain⟨w5,e5,h4⟩:=Post.of_of h4
  obtain⟨k5,e6,h4⟩:=of_eq h4
  exact hq' B s4 st4 w2 w4 w5 v2 v4 _ wd4 ((r2.mono l3).mono l4) r4 e5 fun s5 v5 l5 wd5 r5=>⟨k5,bool_ok r5 e6,h4 s5 k5 l5 wd5 rfl⟩
 | false=>
  rw[if_neg Bool.false_ne_true] at h3⊢
  exact⟨false,rfl,(Post.mono l3 h3).pure wd3 rfl⟩
end
end M3
namespace M3
open PySem PySem.Spec PyProof.Rows L2
def MtM3 (P:P3) (id:String) (g:Str→W→Option W):Prop:=∃r,MtR P.X id r∧∀(B:Addr→Prop) (s:S3) (st:Store) (x:Str) (w1 w:W) (v1:V) (Q:VK),Wd P.G B st s→RepW P.G P.hx B s w1 v1→
 g x w1=some w→(∀(s':S3) (v:V),Le B s s'→Wd P.G B st s'→RepW P.G P.hx B s' w v→Q v s'.H)→r (.str x) [v1] s.H Q
def W.str? : W→Option Str
 | .val (.str x)=>some x
 | _=>none
def eM1 (g:Str→W→Option W) (a b:EM):EM:=fun u=>M.bind (a u) fun x=>M.bind (M.of x.str?) fun z=>M.bind (b u) fun y=>M.of (g z y)
section
variable {P:P3} {pos apos:Pos} {o e:Expr} {mo me:EM}
theorem me_m1 {id:String} {name:Str} {g:Str→W→Option W} (slot:Slot "str" name id) (ty:typeOf (.builtin id)=pure (.type "method_descriptor")) (rule:MtM3 P id g) (ho:ME P o mo) (he:ME P e me)
  (hs:starEach [e] P.X.env=[(false,eval e P.X.env)]:=by rfl) (hbase:attributeBase o name P.X.env (eval o P.X.env)=eval o P.X.env:=by rfl) (hline:(apos.endLine == pos.line)=true:=by rfl) :
  ME P (.Call (.Attribute o name apos) [e] [] pos) (eM1 g mo me):=by
 obtain⟨to,po,hto⟩:=ho.out
 obtain⟨te,pe,hte⟩:=he.out
 obtain⟨r,hr,hq⟩:=rule
 refine ME.mk' (pe_m1 slot ty hr po pe hs hbase hline) fun B0 B s st u z Q wd sl h=>hto B0 B s st u z _ wd sl (Post.bind h fun w st1 s1 v l1 wd1 r1 h1=>?_)
 obtain⟨x,ex,h1⟩:=Post.of_of h1
 obtain⟨rfl⟩:w=.val (.str x):=by
  unfold W.str? at ex
  split at ex
  ·cases ex;rfl
  ·cases ex
 cases r1
 refine⟨⟨_,rfl⟩,hte B0 B s1 st1 u z _ wd1 (sl.mono' l1) (Post.bind h1 fun w2 st2 s2 v2 l2 wd2 r2 h2=>?_)⟩
 obtain⟨w3,e3,h2⟩:=of_eq h2
 exact hq B s2 st2 x w2 w3 v2 Q wd2 r2 e3 fun s' v l w' r=>h2 s' v l w' r
end
def D.strs:List D→Option (List Str)
 | []=>some []
 | .str x :: ds=>(D.strs ds).map (x :: ·)
 | _ :: _=>none
theorem strs_ok {K:KW} {F:Hp} {io:Io}:∀{ds:List D} {vs:List V} {xs:List Str},RepL K F io ds vs→D.strs ds=some xs→vs=xs.map V.str
 | [],_,_,.nil,e=>by unfold D.strs at e;cases e;rfl
 | d :: ds,_,xs,.cons r t,e=>by
  cases d with
  | str x=>
   unfold D.strs at e
   cases h:D.strs ds with
   | none=>rw[h] at e;cases e
   | some ys=>
    rw[h] at e
    cases e
    cases r
    rw[strs_ok t h]
    rfl
  | _=>unfold D.strs at e;cases e
theorem rep_strs {K:KW} {F:Hp} {io:Io}:∀xs:List Str,RepL K F io (xs.map D.str) (xs.map V.str)
 | []=>.nil
 | _ :: xs=>.cons .str (rep_strs xs)
def startsF (x:Str):W→Option W
 | .val (.str y)=>some (.val (.bl (Txt.startswith x y)))
 | _=>none
def splitF (x:Str):W→Option W
 | .val (.str y)=>if y.length≠0∧x.length≤900000 then some (.val (.lst ((Txt.split x y).map .str))) else none
 | _=>none
def joinF (x:Str) (w:W):Option W:=(w.rd.bind D.items).bind fun xs=>(D.strs xs).bind fun ys=>if (ys.map (·.length)).sum+ys.length * x.length≤1000000 then some (.val (.str (Txt.join x ys))) else none
section
variable {P:P3}
theorem mt_starts3:MtM3 P "str.startswith" startsF:=by
 refine⟨_,mt_startswith,fun B s st x w1 w v1 Q wd r1 e k=>?_⟩
 unfold startsF at e
 split at e
 ·cases e;cases r1;exact⟨_,_,rfl,rfl,k s _ (Le.refl _) wd .bl⟩
 ·cases e
theorem mt_split3:MtM3 P "str.split" splitF:=by
 refine⟨_,mt_split,fun B s st x w1 w v1 Q wd r1 e k=>?_⟩
 unfold splitF at e
 split at e
 ·rename_i y
  split at e
  ·rename_i hz
   cases e;cases r1
   refine⟨_,_,rfl,rfl,?_,szL (by omega),fun p hp=>?_⟩
   ·simpa using hz.1
   ·obtain⟨wd2,l2⟩:=wd.froz hp (.lst ((Txt.split x y).map V.str))
    exact k _ _ l2 wd2 (.lst upd_same (rep_strs _))
  ·cases e
 ·cases e
end
def rCountT (K:PySem.W.Frag):V→List V→Hp→VK→Prop:=fun x xs H Q=>∃(y:V) (d:PyData) (ds:List PyData),xs=[y]∧Dp K H x (.tuple ds)∧Dp K H y d∧SeqAt.shaped (.tuple ds)=true∧SeqAt.shaped d=true∧
 Q (.int ((ds.countP fun z=>PyData.eqv z d:Nat):Int)) H
section
variable {X:Cx}
theorem mt_countT (hu:X.A.units+65<cLine):MtR X "tuple.count" (rCountT X.K):=by
 rintro pins now σ H x _ v us Q inv rx args ⟨y,d,ds,rfl,dx,dy,shx,shy,q⟩
 obtain⟨uy,rfl,ry⟩:=args.one
 obtain⟨_,readsy⟩:=Dp.reads inv d y uy dy ry
 have lay:=SeqAt.canLay_of_shaped shx
 cases dx with
 | @tup p xs _ at_ parts=>
  obtain rfl:v=.ref p:=rx
  obtain⟨its,vals,⟨ob,there,isT,n,body⟩,-⟩:=inv.tuple at_
  obtain⟨ocls,odict,odata,oslots⟩:=ob
  dsimp only at isT body
  subst isT body
  obtain⟨as,readsx⟩:=Dp.readsAll inv ds xs its parts vals
  have many:(its.toArray.toList.countP fun u=>PyData.eqv (SeqAt.readOf now.heap u) d)=ds.countP fun z=>PyData.eqv z d:=by
   conv=>rhs;rw[←SeqAt.readsAll_map ds its as lay readsx,List.countP_map]
   rfl
  have meets:=SeqAt.tuple_countAt p its.toArray n odict oslots uy fun u=>PyData.eqv (SeqAt.readOf now.heap u) d
  refine call_meets PySem.F.slot_tuple_count ⟨_,there,rfl⟩ PySem.F.entry_tuple_count (PySem.F.args_tuple_count_2 _ _) meets ⟨there,?_,V.int _,H,inv.tok _,⟨_,rfl⟩,many.symm▸q⟩
  exact SeqAt.items_eqAt (vs:=its.toArray) (xs:=ds) (as:=as) readsx readsy lay (SeqAt.canLay_of_shaped shy) (room_in_shaped shy hu)
theorem pe_bmT {id:String} {r:V→List V→Hp→VK→Prop} {m:Str} {o x:Expr} {to:TE} {tx:TA} {at1 at2:Pos} (slot:Slot "tuple" m id) (ty:typeOf (.builtin id)=pure (.type "method_descriptor")) (rule:MtR X id r) (ho:PE X o to) (ha:PA X [x] tx)
  (few:((backTo at2 (starEach [x] X.env)).all (fun q=>!q.1) && (backToKw at2 (keywordEach [] X.env)).all (fun q=>q.1.isSome) && decide (([x]:List Expr).length+([]:List Keyword).length+(if ([]:List Keyword).isEmpty then 0 else 1)<30))=true:=by rfl)
  (base:attributeBase o m X.env (eval o X.env)=eval o X.env:=by rfl) (one:starEach [x] X.env=(false,eval x X.env) :: starEach [] X.env:=by rfl) (line:(at1.endLine == at2.line)=true:=by rfl) :
  PE X (.Call (.Attribute o m at1) [x] [] at2) (fun σ H Q=>to σ H fun x H1=>(∃p xs,x=.ref p∧FTup H1 p xs)∧tx σ H1 fun xs H2=>r x xs H2 Q):=
 ⟨fun pins now σ H Q inv wish=>wpAny_Call_method_late base few line rfl <| thn (ho.run pins now σ H _ inv wish) fun v later got=>by
  obtain⟨_,H1,J,rx,⟨p,xs,rfl,ob,at_,bare⟩,rest⟩:=got
  have rx':=rx
  obtain rfl:v=.ref p:=rx
  obtain⟨there,-,-,-,ob',there',isT,-⟩:=(show ObjOk X.prog X.w H1 later.heap p (.frz ob (.tup xs)) from J.hok p _ at_)
  obtain rfl:ob=ob':=Option.some.inj (there.symm.trans there')
  refine⟨"tuple",id,PySem.F.plainAttrs_tuple,slot,ty,⟨ob,there,isT⟩,fun a ea=>⟨ob,by cases ea;exact there,bare⟩,?_⟩
  have args:=ha.run at2 pins later σ H1 _ J rest
  rw[one] at args⊢
  refine Calls.callWith_builtin rfl (Calls.evalArgs_plain ?_)
  exact thn args fun us last ⟨vs,H2,J2,rs,q⟩=>rule pins last σ H2 (.ref p) vs _ us Q J2 rx' rs q⟩
end
end M3
namespace M3
open PySem PySem.Spec PyProof.Rows L2
theorem units65 {k:Nat} {A:Around} {s0:Shared} {H0:Hp} {fs ex:List Addr} (r:RoomS k A s0 H0 fs ex):A.units+65<cLine:=by have:=r.un;omega
def clsB:Stmt→List Stmt
 | .ClassDef (body:=inside) ..=>inside
 | _=>[]
section
variable {P:P3} {pos:Pos}
def sFrz (i:Nat):SM:=fun u st=>match u[i]? with
 | some (some (.bor xs))=>.nx (u.set i (some (.val (.lst xs)))) st
 | _=>.bad
theorem Slo.frz {G:G3} {X:Hex} {B0 B:Addr→Prop} {s:S3} {u:Sl3} {z:L2.St} {i:Nat} {xs:List D} {st:Store} (h:Slo G X B0 B s u z) (b0:∀a,B0 a→B a) (wd:Wd G B st s) (e:u[i]?=some (some (.bor xs))) :
  ∃(B':Addr→Prop) (s':S3),s'.H=s.H∧(∀a,B0 a→B' a)∧Le B0 s s'∧Wd G B' st s'∧Slo G X B0 B' s' (u.set i (some (.val (.lst xs)))) z:=by
 obtain⟨hl,ow,h1,h2⟩:=h
 obtain⟨v,e1,⟨p,vs,rfl,bp,hp,rl⟩,q⟩:=h1 i _ e
 obtain⟨e3,nb⟩:=q rfl
 injection e3 with e3
 subst e3
 have wd':Wd G (plus (fun a=>B a∧a≠ow i) (ow i)) st s:=wd.less fun a z=>z.elim (fun z=>z.1) fun z=>z▸bp
 have nB:¬(fun a=>B a∧a≠ow i) (ow i):=fun z=>z.2 rfl
 have le:Le B0 s ⟨s.io,upd s.F (ow i) (.lst vs),s.H⟩:=⟨IoLe.refl _,same_upd (wd.hid (ow i) bp).1,fun _ _=>rfl⟩
 refine⟨fun a=>B a∧a≠ow i,⟨s.io,upd s.F (ow i) (.lst vs),s.H⟩,rfl,fun a q=>⟨b0 a q,fun z=>nb (z▸q)⟩,le,freeze_wd wd' nB hp,by simpa using hl,ow,fun j w ej=>?_,fun j k w w' o1 o2 q1 q2 q3=>?_⟩
 ·rcases get_set ej with⟨rfl,rfl⟩ | ⟨ne,ej⟩
  ·exact⟨.ref (ow i),e1,Rep.lst upd_same (rl.mono le.fr le.io),fun q'=>by cases q'⟩
  ·obtain⟨v,ev,rv,qv⟩:=h1 j w ej
   refine⟨v,ev,?_,qv⟩
   have away:w.own=true→∀p',v=.ref p'→p'≠ow i:=fun ow' p' e' z=>by
    obtain⟨e4,_⟩:=qv ow'
    rw[e'] at e4
    injection e4 with e4
    exact ne (h2 i j (.bor xs) w rfl ow' e ej (by rw[←e4,z]))
   cases w with
   | val d=>exact Rep.mono le.fr le.io rv
   | exn c x=>
    obtain⟨ax,dd,x1,x2,xf⟩:=rv
    exact⟨ax,dd,x1,x2,xf.mono le.io le.fr⟩
   | bor xs'=>
    obtain⟨p',vs',rfl,b',hp',rl'⟩:=rv
    exact⟨p',vs',rfl,⟨b',away rfl p' rfl⟩,hp',rl'.mono le.fr le.io⟩
   | bod ks us=>
    obtain⟨p',vs',rfl,b',hp',e',rl'⟩:=rv
    exact⟨p',vs',rfl,⟨b',away rfl p' rfl⟩,hp',e',rl'.mono le.fr le.io⟩
   | bdd ks us=>
    obtain⟨p',vs',rfl,b',hp',rl'⟩:=rv
    exact⟨p',vs',rfl,⟨b',away rfl p' rfl⟩,hp',rl'.mono le.fr le.io⟩
   | len ys=>
    obtain⟨p',vs',o,rfl,b',hp',rl'⟩:=rv
    exact⟨p',vs',o,rfl,⟨b',fun z=>by subst z;rw[hp] at hp';cases hp'⟩,hp',rl'.mono le.fr le.io⟩
 ·rcases get_set q1 with⟨_,z⟩ | ⟨_,q1⟩
  ·subst z;cases o1
  ·rcases get_set q2 with⟨_,z⟩ | ⟨_,q2⟩
   ·subst z;cases o2
   ·exact h2 j k w w' o1 o2 q1 q2 q3
def sAsg (m:EM) (g:GM):SM:=fun u st=>match m u st with
 | .ok (.val d) st'=>match g d u with
  | some u'=>.nx u' st'
  | none=>.bad
 | .ok _ _=>.bad
 | .err c x st'=>.err c x u st'
 | .bad=>.bad
abbrev SubParts (X:Cx) (o i:Expr) (at1:Pos):Prop:=∀v,assign (.Subscript o i at1) X.env v =
 (do let ov ← holding [v] (eval o X.env);let iv ← holding [v,ov] (eval i X.env);standAt at1;holding [v,ov,iv] (setItem ov iv v);release [v,ov,iv] [])
def sSetI (i:Nat) (mi me:EM):SM:=fun u st=>match u[i]? with
 | some (some (.bor xs))=>match me u st with
  | .ok (.val d) st1=>match mi u st1 with
   | .ok (.val (.int j)) st2=>match ixN xs.length j with
    | some k=>.nx (u.set i (some (.bor (xs.set k d)))) st2
    | none=>.bad
   | .err c x st2=>.err c x u st2
   | _=>.bad
  | .err c x st1=>.err c x u st1
  | _=>.bad
 | _=>.bad
theorem ms_setI (i:Nat) {x:Str} {px ipos:Pos} {ei e:Expr} {mi me:EM} (hi:ME P ei mi) (he:ME P e me) (hN:P.X.N[i]?=some x:=by rfl) (hv:Vis P.X.env.scope x:=by first | exact Or.inl rfl | exact Or.inr (Or.inl rfl) | exact Or.inr (Or.inr rfl)) (hd:(x == ("__debug__" : Str))=false:=by decide)
  (hcd:(x == ("__classdict__" : Str))=false:=by decide)
  (ha:SubParts P.X (.Name x px) ei ipos:=by intro _;rfl)
  (hs:swapsWithSole [.Subscript (.Name x px) ei ipos] e pos.line P.X.env=pure false:=by rfl) (hw:swappedStores [.Subscript (.Name x px) ei ipos] e P.X.env=pure none:=by rfl)
  (h1:(assignEach [.Subscript (.Name x px) ei ipos] P.X.env).map (·.2)=[assign (.Subscript (.Name x px) ei ipos) P.X.env]:=by rfl) :
  MS P (.Assign [.Subscript (.Name x px) ei ipos] e pos) (sSetI i mi me):=by
 obtain⟨t,pt,ht⟩:=he.out
 obtain⟨ti,pi,hti⟩:=hi.out
 refine MS.mk' (ps_asg pt (pg_sub (pe_var hN hv hd hcd) pi set_list ha) hs hw h1) fun B0 B s o u z D b0 wd sl h=>ht B0 B s o u z _ wd sl ?_
 unfold sSetI at h
 split at h
 ·rename_i xs eu
  obtain⟨p,vs,e2,bp,nb,hp,rl,_⟩:=sl.change (ys:=[]) wd eu
  cases e:me u o with
  | bad=>rw[e] at h;exact h
  | err c x st'=>rw[e] at h;exact fun s' cv dd l w q=>h B s' z cv dd b0 (l.less b0) w (sl.mono' l) q
  | ok w st1=>
   rw[e] at h
   cases w with
   | val d=>
    dsimp only at h
    intro s1 v l1 wd1 r1
    refine⟨.ref p,e2,hti B0 B s1 st1 u z _ wd1 (sl.mono' l1) ?_⟩
    cases e3:mi u st1 with
    | bad=>rw[e3] at h;exact h
    | err c x st'=>rw[e3] at h;exact fun s' cv dd l w q=>h B s' z cv dd b0 ((l1.trans l).less b0) w (sl.mono' (l1.trans l)) q
    | ok w2 st2=>
     rw[e3] at h
     split at h
     ·rename_i j st3 e4
      cases e4
      split at h
      ·rename_i k ek
       intro s2 v2 l2 wd2 r2
       cases r2
       obtain⟨p',vs',e2',bp',nb',hp',rl',ch⟩:=(sl.mono' (l1.trans l2)).change (ys:=xs.set k d) wd2 eu
       rw[e2] at e2';cases e2'
       obtain⟨sl3,w3,l3⟩:=ch (vs'.set k v) (RepL.set (Rep.mono l2.fr l2.io r1) k rl')
       exact⟨p,vs',j,k,rfl,rfl,hp',by rw[←rl'.length];exact ek,h B _ z b0 (((l1.trans l2).less b0).trans l3) w3 sl3⟩
      ·exact h.elim
     ·rename_i e4;cases e4
     ·exact h.elim
   | _=>exact h.elim
 ·exact h.elim
def sPop (i:Nat):SM:=fun u st=>match u[i]? with
 | some (some (.bor xs))=>if xs.isEmpty=true then .bad else .nx (u.set i (some (.bor xs.dropLast))) st
 | _=>.bad
theorem dropLast_rep {K:KW} {F:Hp} {io:Io} {xs:List D} {vs:List V} (r:RepL K F io xs vs):RepL K F io xs.dropLast vs.dropLast:=by
 rw[List.dropLast_eq_take,List.dropLast_eq_take,r.length]
 exact r.take _
theorem ms_pop (i:Nat) {x:Str} {px apos cpos:Pos} (hN:P.X.N[i]?=some x:=by rfl) (hv:Vis P.X.env.scope x:=by first | exact Or.inl rfl | exact Or.inr (Or.inl rfl) | exact Or.inr (Or.inr rfl)) (hd:(x == ("__debug__" : Str))=false:=by decide)
  (hcd:(x == ("__classdict__" : Str))=false:=by decide)
  (hbase:attributeBase (.Name x px) "pop" P.X.env (eval (.Name x px) P.X.env)=eval (.Name x px) P.X.env:=by rfl) (hline:(apos.endLine == cpos.line)=true:=by rfl)
  (hs:swapsWith (.Call (.Attribute (.Name x px) "pop" apos) [] [] cpos) none pos.line P.X.env=pure false:=by rfl) :
  MS P (.Expr (.Call (.Attribute (.Name x px) "pop" apos) [] [] cpos) pos) (sPop i):=by
 refine MS.mk' (ps_expr (pe_bm0 PySem.F.plainAttrs_list PySem.F.slot_list_pop PySem.F.type_list_pop mt_pop (pe_var hN hv hd hcd) hbase hline) hs) fun B0 B s o u z D b0 wd sl h=>?_
 unfold sPop at h
 split at h
 ·rename_i xs e1
  split at h
  ·exact h.elim
  ·rename_i hne
   obtain⟨p,vs,e2,bp,nb,hp,rl,ch⟩:=sl.change (ys:=xs.dropLast) wd e1
   refine⟨.ref p,e2,.inl ⟨rfl,vs,.inl (.inl hp)⟩,?_⟩
   have hl:vs.length - 1<vs.length:=by
    have:xs≠[]:=fun z=>hne (by rw[z];rfl)
    have:=List.length_pos_iff.mpr this
    rw[rl.length] at this
    omega
   obtain⟨sl2,w2,l2⟩:=ch vs.dropLast (dropLast_rep rl)
   exact⟨p,vs,vs[vs.length - 1],rfl,rfl,hp,List.getElem?_eq_getElem hl,h B _ z b0 l2 w2 sl2⟩
 ·exact h.elim
def W.tup? : W→Option (List D)
 | .val (.tup xs)=>some xs
 | _=>none
def cntF (xs:List D) (w:W):Option W:=w.rd.bind fun d=>match D.pys xs,d.py with
 | some ps,some p=>if SeqAt.shaped p=true∧SeqAt.shaped (.tuple ps)=true then some (.val (.int ((ps.countP fun z=>PyData.eqv z p:Nat):Int))) else none
 | _,_=>none
def eCnt (a b:EM):EM:=fun u=>M.bind (a u) fun x=>M.bind (M.of x.tup?) fun xs=>M.bind (b u) fun y=>M.of (cntF xs y)
theorem me_cnt {o e:Expr} {apos cpos:Pos} {mo me:EM} (hu:P.X.A.units+65<cLine) (ho:ME P o mo) (he:ME P e me)
  (hbase:attributeBase o "count" P.X.env (eval o P.X.env)=eval o P.X.env:=by rfl) (hline:(apos.endLine == cpos.line)=true:=by rfl) (hs:starEach [e] P.X.env=(false,eval e P.X.env) :: starEach [] P.X.env:=by rfl)
  (hfew:((backTo cpos (starEach [e] P.X.env)).all (fun q=>!q.1) && (backToKw cpos (keywordEach [] P.X.env)).all (fun q=>q.1.isSome) && decide (([e]:List Expr).length+([]:List Keyword).length+(if ([]:List Keyword).isEmpty then 0 else 1)<30))=true:=by rfl) :
  ME P (.Call (.Attribute o "count" apos) [e] [] cpos) (eCnt mo me):=by
 obtain⟨to,po,hto⟩:=ho.out
 obtain⟨te,pe,hte⟩:=he.out
 refine ME.mk' (pe_bmT PySem.F.slot_tuple_count PySem.F.type_tuple_count (mt_countT hu) po (pa_cons pe pa_nil hs) hfew hbase hs hline) fun B0 B s st u z Q wd sl h=>hto B0 B s st u z _ wd sl (Post.bind h fun w st1 s1 v l1 wd1 r1 h1=>?_)
 obtain⟨xs,ex,h1⟩:=Post.of_of h1
 obtain rfl:w=.val (.tup xs):=by
  unfold W.tup? at ex
  split at ex
  ·cases ex;rfl
  ·cases ex
 cases r1 with
 | tup hq rl=>
  refine⟨⟨_,_,rfl,hq.mono wd1.sub⟩,hte B0 B s1 st1 u z _ wd1 (sl.mono' l1) (Post.bind h1 fun w2 st2 s2 v2 l2 wd2 r2 h2=>?_)⟩
  obtain⟨w3,e3,h2⟩:=of_eq h2
  unfold cntF at e3
  cases h1:w2.rd with
  | none=>rw[h1] at e3;cases e3
  | some d=>
   rw[h1,Option.bind_some] at e3
   split at e3
   ·rename_i ps p' eps ep
    split at e3
    ·rename_i hsh
     cases e3
     refine⟨v2,p',ps,rfl,?_,?_,hsh.2,hsh.1,h2.pure wd2 .int⟩
     ·rw[P.hK];exact .tup ((hq.mono l2.fr).mono wd2.sub).sq (pys_ok (rl.mono (l2.fr.trans wd2.sub) l2.io) eps)
     ·rw[P.hK];exact py_ok (rd_ok wd2 r2 h1) ep
    ·cases e3
   ·cases e3
end
section
variable {P:P3} {pos p apos:Pos} {x m:Str} {e:Expr} {es:List Expr} {ma:AM} {mf:List D→M D} {k j n:Nat} {C f:Addr}
theorem me_gstr {z:Str} (hg:Gl P.X x) (h:∃t,P.X.mg x=some (.str z t)) (hd:(x == ("__debug__" : Str))=false:=by decide):ME P (.Name x pos) (eC (.str z)):=
 let ⟨_,h⟩:=h
 me_glob (v:=.str z) hg h ⟨_,rfl⟩ (fun _ _=>.str) hd
theorem me_gint {z:Int} (hg:Gl P.X x) (h:∃t,P.X.mg x=some (.int z t)) (hd:(x == ("__debug__" : Str))=false:=by decide):ME P (.Name x pos) (eC (.int z)):=
 let ⟨_,h⟩:=h
 me_glob (v:=.int z) hg h ⟨_,rfl⟩ (fun _ _=>.int) hd
structure GTup (K:PySem.W.Frag) (mg:Str→Option Value) (x:Str) (zs:List Str):Prop where
 ex:∃p o its n,mg x=some (.ref p)∧K.lookup p=some o∧o.cls=.type "tuple"∧o.data=.seq its n∧its.size≤sizeLine∧Vals (zs.map V.str) its.toList
theorem me_gtup {zs:List Str} (hg:Gl P.X x) (h:GTup P.X.K P.X.mg x zs) (hd:(x == ("__debug__" : Str))=false:=by decide):ME P (.Name x pos) (eC (.ctup (zs.map .str))):=by
 obtain⟨p,o,its,n,hm,lk,cl,da,sz,vs⟩:=h.ex
 exact me_glob (v:=.ref p) hg hm rfl (fun F io=>.ctup (.inr ⟨o,its,n,by show P.G.K.lookup p=_;rw[←P.hK];exact lk,cl,da,sz,vs⟩) (rep_strs zs)) hd
end
end M3
namespace M3
open PySem PySem.Spec PyProof.Rows L2
section
variable {G:G3} {X:Hex} {B0 B:Addr→Prop} {s:S3} {u:Sl3} {z:L2.St} {st:Store}
theorem own_put {p:Addr} (w:Wd G (plus B p) st s) (nb:¬B p) (o:HO) (nt:OwnH o:=by exact⟨fun _ q=>(by cases q),fun _ _ q=>(by first | exact dkO_code q | exact cellO_code q | (unfold LamX.CodeO at q;cases q))⟩):Wd G (plus B p) st ⟨s.io,s.F,upd s.H p o⟩:=by
 have hF:=(w.hid p (.inr rfl)).1
 refine⟨fun b v e=>?_,fun a b=>?_,w.ftb,w.dom,w.inj,fun k v e t=>?_,w.untM (IoLe.refl _) (Same.refl _),w.tabM (Same.refl _) (upd_tbl (w.ntbl (.inr rfl)))⟩
 ·show upd s.H p o b=some v
  rw[upd_ne (fun q=>by subst q;have e:s.F b=some v:=e;rw[hF] at e;cases e)]
  exact w.sub b v e
 ·by_cases q:a=p
  ·subst q;exact⟨hF,o,upd_same,nt⟩
  ·obtain⟨h1,v,h2,h3⟩:=w.hid a b
   exact⟨h1,v,by show upd s.H p o a=some v;rw[upd_ne q];exact h2,h3⟩
 ·obtain⟨a,e1,b1,f1,o1⟩:=w.obj k v e t
  have na:a≠p:=fun q=>b1 (.inr q)
  exact⟨a,e1,b1,f1,ObjR.mono (s:=s) (s':=⟨s.io,s.F,upd s.H p o⟩) (IoLe.refl _) (Same.refl _) (upd_ne na) o1⟩
theorem Slo.frzG {i:Nat} {w0:W} (h:Slo G X B0 B s u z) (b0:∀a,B0 a→B a) (wd:Wd G B st s) (e:u[i]?=some (some w0)) (o0:w0.own=true) :
  ∃p,z[i]?=some (some (.ref p))∧B p∧¬B0 p∧RepW G X B s w0 (.ref p)∧∀(ho:HO) (d:D),OwnH ho→Rep G.R (upd s.F p ho) s.io d (.ref p)→
   ∃(B':Addr→Prop) (s':S3),s'.H=upd s.H p ho∧(∀a,B0 a→B' a)∧Le B0 s s'∧Wd G B' st s'∧Slo G X B0 B' s' (u.set i (some (.val d))) z:=by
 obtain⟨hl,ow,h1,h2⟩:=h
 obtain⟨v,e1,rw0,q⟩:=h1 i _ e
 obtain⟨e3,nb⟩:=q o0
 subst e3
 obtain⟨p,e3,bp⟩:=own_ref o0 rw0
 injection e3 with e3
 subst e3
 refine⟨ow i,e1,bp,nb,rw0,fun ho d nt rd=>?_⟩
 have wd1:Wd G (plus (fun a=>B a∧a≠ow i) (ow i)) st s:=wd.less fun a y=>y.elim (fun y=>y.1) fun y=>y▸bp
 have nB:¬(fun a=>B a∧a≠ow i) (ow i):=fun y=>y.2 rfl
 have hF:=(wd.hid (ow i) bp).1
 have wd2:=freeze_wd (own_put wd1 nB ho nt) nB upd_same
 have le:Le B0 s ⟨s.io,upd s.F (ow i) ho,upd s.H (ow i) ho⟩:=⟨IoLe.refl _,same_upd hF,fun a ba=>upd_ne fun y=>nb (y▸ba)⟩
 refine⟨fun a=>B a∧a≠ow i,⟨s.io,upd s.F (ow i) ho,upd s.H (ow i) ho⟩,rfl,fun a y=>⟨b0 a y,fun y'=>nb (y'▸y)⟩,le,wd2,by simpa using hl,ow,fun j w ej=>?_,fun j k w w' o1 o2 q1 q2 q3=>?_⟩
 ·rcases get_set ej with⟨rfl,rfl⟩ | ⟨ne,ej⟩
  ·exact⟨.ref (ow i),e1,rd,fun q'=>by cases q'⟩
  ·obtain⟨v,ev,rv,qv⟩:=h1 j w ej
   refine⟨v,ev,?_,qv⟩
   have away:w.own=true→∀p',v=.ref p'→p'≠ow i:=fun ow' p' e' y=>by
    obtain⟨e4,_⟩:=qv ow'
    rw[e'] at e4
    injection e4 with e4
    exact ne (h2 i j w0 w o0 ow' e ej (by rw[←e4,y]))
   cases w with
   | val d=>exact Rep.mono le.fr le.io rv
   | exn c x=>
    obtain⟨ax,dd,x1,x2,xf⟩:=rv
    exact⟨ax,dd,x1,x2,xf.mono le.io le.fr⟩
   | bor xs'=>
    obtain⟨p',vs',rfl,b',hp',rl'⟩:=rv
    exact⟨p',vs',rfl,⟨b',away rfl p' rfl⟩,(upd_ne (away rfl p' rfl)).trans hp',rl'.mono le.fr le.io⟩
   | bod ks us=>
    obtain⟨p',vs',rfl,b',hp',e',rl'⟩:=rv
    exact⟨p',vs',rfl,⟨b',away rfl p' rfl⟩,(upd_ne (away rfl p' rfl)).trans hp',e',rl'.mono le.fr le.io⟩
   | bdd ks us=>
    obtain⟨p',vs',rfl,b',hp',rl'⟩:=rv
    exact⟨p',vs',rfl,⟨b',away rfl p' rfl⟩,(upd_ne (away rfl p' rfl)).trans hp',rl'.mono le.fr le.io⟩
   | len ys=>
    obtain⟨p',vs',o,rfl,b',hp',rl'⟩:=rv
    have ne:=own_unlocked o0 rw0 hp'
    exact⟨p',vs',o,rfl,⟨b',ne⟩,(upd_ne ne).trans hp',rl'.mono le.fr le.io⟩
 ·rcases get_set q1 with⟨_,y⟩ | ⟨_,q1⟩
  ·subst y;cases o1
  ·rcases get_set q2 with⟨_,y⟩ | ⟨_,q2⟩
   ·subst y;cases o2
   ·exact h2 j k w w' o1 o2 q1 q2 q3
end
theorem ps_lockOn {X:Cx} {st:Stmt} {t:TS} (h:PS X st t):PS X st (fun D σ H=>t D σ H∨∃d u,H d=some u∧Mut (some u)∧∀od,t D σ (upd H d (.frz od u))):=
 ⟨fun pins s σ H D I q=>q.elim (h.run pins s σ H D I) fun ⟨_,_,hd,mu,hw⟩=>
  let ⟨od,I1⟩:=I.lock hd mu
  h.run pins s σ _ D I1 (hw od)⟩
theorem pe_lockOn {X:Cx} {e:Expr} {t:TE} (h:PE X e t):PE X e (fun σ H Q=>t σ H fun v H'=>∃d u,v=.ref d∧H' d=some u∧Mut (some u)∧∀od,Q v (upd H' d (.frz od u))):=
 ⟨fun pins s σ H Q I q=>thn (h.run pins s σ H _ I q) fun v s1 ⟨x,H1,I1,r1,d,u,ex,hd,mu,hw⟩=>
  let ⟨od,I2⟩:=I1.lock hd mu
  ⟨x,_,I2,r1,hw od⟩⟩
section
variable {P:P3} {pos:Pos}
def sOwnD (i:Nat):SM:=fun u st=>.nx (u.set i (some (.bod [] []))) st
theorem ms_ownD (i:Nat) {x:Str} {p dp:Pos} (hN:P.X.N.Nodup) (hi:P.X.N[i]?=some x:=by rfl) (hx:Loc P.X.env.scope x:=by first | exact Or.inl rfl | exact Or.inr rfl) (hs:swapsWith (.Dict [] [] dp) (some (.Name x p)) pos.line P.X.env=pure false:=by rfl)
  (hf:P.X.fn x=true∨P.X.env.scope.names.lookup x=some .local:=by first | exact .inl rfl | exact .inr rfl | assumption):MS P (.Assign [.Name x p] (.Dict [] [] dp) pos) (sOwnD i):=by
 refine MS.mk' (ps_set hN hi hx pe_dnewK hs hf) fun B0 B s o u z D b0 wd sl h=>fun p hp=>?_
 obtain⟨w2,l2⟩:=own_wd (ho:=.dK []) wd hp
 have nb:¬B p:=wd.freshB hp
 exact h (plus B p) ⟨s.io,s.F,upd s.H p (.dK [])⟩ _ (fun a q=>.inl (b0 a q)) (l2.less b0) w2 ((sl.mono' l2).ownW (w0:=.bod [] []) nb (fun q=>nb (b0 p q)) ⟨p,[],rfl,.inr rfl,upd_same,rfl,.nil⟩ i)
def sRetD (i:Nat):SM:=fun u st=>match u[i]? with
 | some (some (.bod ks us))=>.rt (.val (.dict ks us)) st
 | _=>.bad
theorem ms_retD (i:Nat) {x:Str} {p:Pos} (hN:P.X.N[i]?=some x:=by rfl) (hv:Vis P.X.env.scope x:=by first | exact Or.inl rfl | exact Or.inr (Or.inl rfl) | exact Or.inr (Or.inr rfl)) (hd:(x == ("__debug__" : Str))=false:=by decide)
  (hcd:(x == ("__classdict__" : Str))=false:=by decide):MS P (.Return (some (.Name x p)) pos) (sRetD i):=by
 refine MS.mk' (ps_ret (pe_lockOn (pe_var hN hv hd hcd))) fun B0 B s o u z D b0 wd sl h=>?_
 unfold sRetD at h
 split at h
 ·rename_i ks us eu
  obtain⟨p,ez,bp,nb,⟨p',kvs,e',_,hp,ek,rl⟩,fz⟩:=sl.frzG b0 wd eu rfl
  cases e'
  refine⟨.ref p,ez,p,.dK kvs,rfl,hp,True.intro,fun od=>?_⟩
  have hF:=(wd.hid p bp).1
  have rd:Rep P.G.R (upd s.F p (.frz od (.dK kvs))) s.io (.dict ks us) (.ref p):=.dict upd_same ek (rl.mono (same_upd hF) (IoLe.refl _))
  have wd1:Wd P.G (plus (fun a=>B a∧a≠p) p) o s:=wd.less fun a y=>y.elim (fun y=>y.1) fun y=>y▸bp
  have nB:¬(fun a=>B a∧a≠p) p:=fun y=>y.2 rfl
  exact h (fun a=>B a∧a≠p) ⟨s.io,upd s.F p (.frz od (.dK kvs)),upd s.H p (.frz od (.dK kvs))⟩ (.ref p) (fun a y=>⟨b0 a y,fun y'=>nb (y'▸y)⟩)
   ⟨IoLe.refl _,same_upd hF,fun a ba=>upd_ne fun y=>nb (y▸ba)⟩ (freeze_wd (own_put wd1 nB _) nB upd_same) rd
 ·exact h.elim
def sSetK (i:Nat) (mi me:EM):SM:=fun u st=>match u[i]? with
 | some (some (.bod ks us))=>match me u st with
  | .ok (.val d) st1=>match mi u st1 with
   | .ok (.val k) st2=>match k.key with
    | some k=>if ks.length<1000000 then .nx (u.set i (some (.bod (putK3 ks us k d).1 (putK3 ks us k d).2))) st2 else .bad
    | none=>.bad
   | .err c x st2=>.err c x u st2
   | _=>.bad
  | .err c x st1=>.err c x u st1
  | _=>.bad
 | _=>.bad
theorem setK3_ok {κ:Type} [DecidableEq κ] {K:KW} {F:Hp} {io:Io} (x:κ) {d:D} {v:V} (rd:Rep K F io d v):∀{kvs:List (κ×V)} {us:List D},RepL K F io us (kvs.map (·.2))→
  RepL K F io (setK3 (kvs.map (·.1)) us x d) ((kvs.map fun kv=>if kv.1=x then (kv.1,v) else kv).map (·.2))
 | [],_,rl=>by
  cases rl
  exact .nil
 | (k,w) :: kvs,[],rl=>by cases rl
 | (k,w) :: kvs,c :: us,rl=>by
  obtain⟨r,t⟩:Rep K F io c w∧RepL K F io us (kvs.map (·.2)):=by
   cases rl with
   | cons r t=>exact⟨r,t⟩
  have ih:=setK3_ok x rd t
  simp only[List.map_cons,setK3]
  by_cases h:k=x
  ·rw[if_pos h,if_pos h];exact .cons rd ih
  ·rw[if_neg h,if_neg h];exact .cons r ih
theorem putK3_ok {κ:Type} [DecidableEq κ] {K:KW} {F:Hp} {io:Io} (x:κ) {d:D} {v:V} (rd:Rep K F io d v) {kvs:List (κ×V)} {us:List D} (rl:RepL K F io us (kvs.map (·.2))) :
  (putK kvs x v).map (·.1)=(putK3 (kvs.map (·.1)) us x d).1∧RepL K F io (putK3 (kvs.map (·.1)) us x d).2 ((putK kvs x v).map (·.2)):=by
 have e:((kvs.any fun kv=>decide (kv.1=x))=true)=(x∈kvs.map (·.1)):=by
  apply propext
  rw[List.any_eq_true,List.mem_map]
  exact⟨fun ⟨p,hp,h⟩=>⟨p,hp,of_decide_eq_true h⟩,fun ⟨p,hp,h⟩=>⟨p,hp,decide_eq_true h⟩⟩
 unfold putK putK3
 by_cases h:x∈kvs.map (·.1)
 ·rw[if_pos (by rw[e];exact h),if_pos h]
  refine⟨?_,setK3_ok x rd rl⟩
  rw[List.map_map]
  apply List.map_congr_left
  intro p _
  simp only[Function.comp]
  split <;> rfl
 ·rw[if_neg (by rw[e];exact h),if_neg h]
  simp only[List.map_append,List.map_cons,List.map_nil]
  exact⟨trivial,rl.append (.cons rd .nil)⟩
theorem ms_setK (i:Nat) {x:Str} {px ipos:Pos} {ei e:Expr} {mi me:EM} (hu:P.X.A.units+65<cLine) (hi:ME P ei mi) (he:ME P e me) (hN:P.X.N[i]?=some x:=by rfl) (hv:Vis P.X.env.scope x:=by first | exact Or.inl rfl | exact Or.inr (Or.inl rfl) | exact Or.inr (Or.inr rfl)) (hd:(x == ("__debug__" : Str))=false:=by decide)
  (hcd:(x == ("__classdict__" : Str))=false:=by decide)
  (ha:SubParts P.X (.Name x px) ei ipos:=by intro _;rfl)
  (hs:swapsWithSole [.Subscript (.Name x px) ei ipos] e pos.line P.X.env=pure false:=by rfl) (hw:swappedStores [.Subscript (.Name x px) ei ipos] e P.X.env=pure none:=by rfl)
  (h1:(assignEach [.Subscript (.Name x px) ei ipos] P.X.env).map (·.2)=[assign (.Subscript (.Name x px) ei ipos) P.X.env]:=by rfl) :
  MS P (.Assign [.Subscript (.Name x px) ei ipos] e pos) (sSetK i mi me):=by
 obtain⟨t,pt,ht⟩:=he.out
 obtain⟨ti,pi,hti⟩:=hi.out
 refine MS.mk' (ps_asg pt (pg_sub (pe_var hN hv hd hcd) pi (set_dict (Nat.lt_of_le_of_lt (by omega) hu)) ha) hs hw h1) fun B0 B s o u z D b0 wd sl h=>ht B0 B s o u z _ wd sl ?_
 unfold sSetK at h
 split at h
 ·rename_i ks us eu
  obtain⟨p,e2,bp,nb,_,_⟩:=sl.changeW wd eu rfl
  cases e:me u o with
  | bad=>rw[e] at h;exact h
  | err c x st'=>rw[e] at h;exact fun s' cv dd l w q=>h B s' z cv dd b0 (l.less b0) w (sl.mono' l) q
  | ok w st1=>
   rw[e] at h
   cases w with
   | val d=>
    dsimp only at h
    intro s1 v l1 wd1 r1
    refine⟨.ref p,e2,hti B0 B s1 st1 u z _ wd1 (sl.mono' l1) ?_⟩
    cases e3:mi u st1 with
    | bad=>rw[e3] at h;exact h
    | err c x st'=>rw[e3] at h;exact fun s' cv dd l w q=>h B s' z cv dd b0 ((l1.trans l).less b0) w (sl.mono' (l1.trans l)) q
    | ok w2 st2=>
     rw[e3] at h
     split at h
     ·rename_i kd st3 e4
      cases e4
      split at h
      ·rename_i k ek
       split at h
       ·rename_i hz
        intro s2 v2 l2 wd2 r2
        obtain⟨p',e2',bp',nb',⟨p2,kvs,ep2,_,hp,eks,rl⟩,ch⟩:=(sl.mono' (l1.trans l2)).changeW wd2 eu rfl
        rw[e2] at e2'
        cases e2'
        cases ep2
        subst eks
        obtain rfl:=key_ok r2 ek
        obtain⟨q1,q2⟩:=putK3_ok k (Rep.mono l2.fr l2.io r1) rl
        obtain⟨sl3,w3,l3⟩:=ch (.bod (putK3 (kvs.map (·.1)) us k d).1 (putK3 (kvs.map (·.1)) us k d).2) (.dK (putK kvs k v)) rfl ⟨p,_,rfl,bp,upd_same,q1,q2⟩
        exact⟨p,_,rfl,DPut.k hp (by rw[List.length_map] at hz;exact szl hz),h B _ z b0 (((l1.trans l2).less b0).trans l3) w3 sl3⟩
       ·exact h.elim
      ·exact h.elim
     ·rename_i e4;cases e4
     ·exact h.elim
   | _=>exact h.elim
 ·exact h.elim
end
section
variable {P:P3} {pos:Pos} {a b:Expr} {ma mb:EM}
def dgF (x y:W):Option W:=x.dic.bind fun d=>match y with
 | .val k=>(dgetF d k).bind fun o=>o.map .val
 | _=>none
theorem me_dg (hu:P.X.A.units+65<cLine) (ha:ME P a ma) (hb:ME P b mb) (hs:NoSl b:=by intro _ _;rfl):ME P (.Subscript a b pos) (eBin dgF ma mb):=by
 obtain⟨ta,pa,ha⟩:=ha.out
 obtain⟨tb,pb,hb⟩:=hb.out
 refine ME.mk' (pe_dget (Nat.lt_of_le_of_lt (by omega) hu) pa pb hs) fun B0 B s st u z Q wd sl hp=>ha B0 B s st u z _ wd sl (Post.bind hp fun w1 st1 s1 v1 l1 wd1 r1 h1=>?_)
 refine hb B0 B s1 st1 u z _ wd1 (sl.mono l1) (Post.bind h1 fun w2 st2 s2 v2 l2 wd2 r2 h2=>?_)
 obtain⟨w,e,h2⟩:=of_eq h2
 unfold dgF at e
 cases h3:w1.dic with
 | none=>rw[h3] at e;cases e
 | some d=>
  rw[h3,Option.bind_some] at e
  split at e
  ·rename_i kd
   obtain⟨a,rfl,at_⟩:=dic_ok wd2 (r1.mono l2) h3
   cases hg:dgetF d kd with
   | none=>rw[hg] at e;cases e
   | some o=>
    rw[hg,Option.bind_some] at e
    cases o with
    | none=>cases e
    | some d'=>
     cases e
     obtain⟨ov,g,_,h⟩:=dget_ok at_ wd2.sub r2 hg
     obtain⟨v,rfl,rv⟩:=h d' rfl
     exact⟨a,v,rfl,g,h2.pure wd2 rv⟩
  ·cases e
end
end M3
namespace M3
open PySem PySem.Spec PyProof.Rows L2
section
variable {G:G3} {X:Hex} {B:Addr→Prop} {s:S3} {st:Store}
theorem Wd.lt {k:Nat} {a:Addr} (w:Wd G B st s) (e:s.io k=some a):k<st.length:=w.dom k a e
theorem Wd.setO {k:Nat} {a:Addr} {o':MO} {ho:HO} (w:Wd G B st s) (e:s.io k=some a) (nb:¬B a) (hF:s.F a=none) (r:ObjR G ⟨s.io,s.F,upd s.H a ho⟩ a o') {o:MO} (ek:st[k]?=some o) (t:o.tr=true:=by rfl) :
  Wd G B (st.set k o') ⟨s.io,s.F,upd s.H a ho⟩∧Le B s ⟨s.io,s.F,upd s.H a ho⟩:=by
 have away:∀b,B b→b≠a:=fun b bb y=>nb (y▸bb)
 refine⟨⟨fun b v eb=>?_,fun b bb=>?_,w.ftb,fun j b eb=>by rw[List.length_set];exact w.dom j b eb,fun i j b oi oj e1 e2 q1 t1 q2 t2=>?_,fun j o ej tj=>?_,fun j o ej tj=>?_,w.tabM (Same.refl _) (upd_tbl fun ps z=>by obtain⟨a',e',_,_,x'⟩:=w.obj k o ek t;rw[e] at e';cases e';exact x'.ntbl ps z)⟩,IoLe.refl _,Same.refl _,fun b bb=>upd_ne (away b bb)⟩
 ·show upd s.H a ho b=some v
  rw[upd_ne (fun q=>by subst q;have eb:s.F b=some v:=eb;rw[hF] at eb;cases eb)]
  exact w.sub b v eb
 ·obtain⟨h1,v,h2,h3⟩:=w.hid b bb
  exact⟨h1,v,(upd_ne (away b bb)).trans h2,h3⟩
 ·have old:∀{i b oi},s.io i=some b→(st.set k o')[i]?=some oi→oi.tr=true→∃o,st[i]?=some o∧o.tr=true:=fun {i b oi} _ q t1=>by
   by_cases z:k=i
   ·subst z;exact⟨o,ek,t⟩
   ·rw[List.getElem?_set_ne z] at q;exact⟨oi,q,t1⟩
  obtain⟨oi',q1',t1'⟩:=old e1 q1 t1
  obtain⟨oj',q2',t2'⟩:=old e2 q2 t2
  exact w.inj i j b oi' oj' e1 e2 q1' t1' q2' t2'
 ·by_cases q:k=j
  ·subst q
   rw[List.getElem?_set_self (w.dom k a e)] at ej
   cases ej
   exact⟨a,e,nb,hF,r⟩
  ·rw[List.getElem?_set_ne q] at ej
   obtain⟨b,e1,b1,f1,o1⟩:=w.obj j o ej tj
   have na:b≠a:=fun y=>q (w.inj k j a _ _ e (y▸e1) ek t ej tj)
   exact⟨b,e1,b1,f1,ObjR.mono (s:=s) (s':=⟨s.io,s.F,upd s.H a ho⟩) (IoLe.refl _) (Same.refl _) (upd_ne na) o1⟩
 ·by_cases q:k=j
  ·subst q
   rw[List.getElem?_set_self (w.dom k a e)] at ej
   cases ej
   rw[r.tr] at tj;cases tj
  ·rw[List.getElem?_set_ne q] at ej
   exact w.untM (s':=⟨s.io,s.F,upd s.H a ho⟩) (IoLe.refl _) (Same.refl _) j o ej tj
def ioNew (io:Io) (n:Nat) (p:Addr):Io:=fun j=>if j=n then some p else io j
theorem Wd.newO {p:Addr} {o:MO} {H':Hp} (w:Wd G B st s) (hp:s.H p=none) (hs:Same s.H H') (r:ObjR G ⟨ioNew s.io st.length p,s.F,H'⟩ p o) :
  Wd G B (st++[o]) ⟨ioNew s.io st.length p,s.F,H'⟩∧Le B s ⟨ioNew s.io st.length p,s.F,H'⟩∧ioNew s.io st.length p st.length=some p:=by
 have hio:IoLe s.io (ioNew s.io st.length p):=fun k a e=>by
  have:=w.dom k a e
  unfold ioNew
  rw[if_neg (by omega)]
  exact e
 have old:∀a,(∃v,s.H a=some v)→H' a=s.H a:=fun a ⟨v,e⟩=>by rw[hs a v e,e]
 refine⟨⟨fun b v eb=>hs b v (w.sub b v eb),fun b bb=>?_,w.ftb,fun k a e=>?_,fun j k a oj ok e1 e2 q1 t1 q2 t2=>?_,fun k v e t=>?_,fun k v e t=>?_,w.tabM (Same.refl _) fun P ps e=>hs P _ e⟩,⟨hio,Same.refl _,fun b bb=>old b (let ⟨_,v,e,_⟩:=w.hid b bb;⟨v,e⟩)⟩,if_pos rfl⟩
 ·obtain⟨h1,v,h2,h3⟩:=w.hid b bb
  exact⟨h1,v,hs b v h2,h3⟩
 ·rw[List.length_append]
  have e:(if k=st.length then some p else s.io k)=some a:=e
  by_cases q:k=st.length
  ·rw[q];simp
  ·rw[if_neg q] at e
   have:=w.dom k a e
   simp;omega
 ·have e1:(if j=st.length then some p else s.io j)=some a:=e1
  have e2:(if k=st.length then some p else s.io k)=some a:=e2
  by_cases z1:j=st.length
  ·by_cases z2:k=st.length
   ·rw[z1,z2]
   ·rw[if_pos z1] at e1;rw[if_neg z2] at e2
    cases e1
    rw[List.getElem?_append_left (w.dom k _ e2)] at q2
    exact absurd e2 (w.freshI hp q2 t2)
  ·by_cases z2:k=st.length
   ·rw[if_neg z1] at e1;rw[if_pos z2] at e2
    cases e2
    rw[List.getElem?_append_left (w.dom j _ e1)] at q1
    exact absurd e1 (w.freshI hp q1 t1)
   ·rw[if_neg z1] at e1;rw[if_neg z2] at e2
    rw[List.getElem?_append_left (w.dom j _ e1)] at q1
    rw[List.getElem?_append_left (w.dom k _ e2)] at q2
    exact w.inj j k a _ _ e1 e2 q1 t1 q2 t2
 ·by_cases q:k<st.length
  ·rw[List.getElem?_append_left q] at e
   obtain⟨a,e1,b1,f1,o1⟩:=w.obj k v e t
   have hh:∃y,s.H a=some y:=o1.there
   exact⟨a,hio k a e1,b1,f1,ObjR.mono (s:=s) (s':=⟨ioNew s.io st.length p,s.F,H'⟩) hio (Same.refl _) (old a hh) o1⟩
  ·rw[List.getElem?_append_right (by omega)] at e
   have q2:k - st.length=0:=by
    cases z:k - st.length with
    | zero=>rfl
    | succ n=>rw[z] at e;simp at e
   rw[q2] at e
   simp at e
   subst e
   have:k=st.length:=by omega
   subst this
   exact⟨p,if_pos rfl,w.freshB hp,w.freshF hp,r⟩
 ·by_cases q:k<st.length
  ·rw[List.getElem?_append_left q] at e
   exact w.untM (s':=⟨ioNew s.io st.length p,s.F,H'⟩) hio (Same.refl _) k v e t
  ·have hk:=(List.getElem?_eq_some_iff.mp e).1
   rw[List.length_append] at hk
   simp at hk
   rw[List.getElem?_append_right (by omega),show k - st.length=0 by omega] at e
   simp at e
   subst e
   rw[r.tr] at t;cases t
end
def insOf (w:W):M (Nat×String×List (Str×D)):=fun st=>match w with
 | .val (.ref k)=>match st[k]? with
  | some (.ins c fs)=>.ok (k,c,fs) st
  | _=>.bad
 | _=>.bad
theorem ins_of {w:W} {st st':Store} {q:Nat×String×List (Str×D)} (e:insOf w st=.ok q st'):st'=st∧w=.val (.ref q.1)∧st[q.1]?=some (.ins q.2.1 q.2.2):=by
 unfold insOf at e
 split at e
 ·split at e
  ·rename_i h;cases e;exact⟨rfl,rfl,h⟩
  ·cases e
 ·cases e
section
variable {α β:Type} {G:G3} {X:Hex} {B:Addr→Prop} {s:S3} {st:Store} {R:S3→α→β→Prop} {E:XK} {Q:β→Hp→Prop}
theorem Post.of_ins {w:M3.W} {v:V} {f:Nat×String×List (Str×D)→M α} (wd:Wd G B st s) (r:RepW G X B s w v) (h:Post G B R E s Q (M.bind (insOf w) f st)) :
  ∃k c fs a C dx gs,w=.val (.ref k)∧v=.ref a∧s.io k=some a∧st[k]?=some (.ins c fs)∧G.cls c=some C∧s.H a=some (.ins C dx gs)∧FsR G.R s.F s.io fs gs∧¬B a∧s.F a=none∧Post G B R E s Q (f (k,c,fs) st):=by
 unfold M.bind at h
 cases e:insOf w st with
 | bad=>rw[e] at h;exact h.elim
 | err c x st'=>
  exfalso
  unfold insOf at e
  split at e
  ·split at e <;> cases e
  ·cases e
 | ok q st'=>
  rw[e] at h
  obtain⟨rfl,rfl,ek⟩:=ins_of e
  have r:Rep G.R s.F s.io (.ref q.1) v:=r
  cases r with
  | ref eio=>
   obtain⟨a,e1,b1,f1,C,dx,gs,ec,eh,rf⟩:=wd.obj _ _ ek rfl
   rw[eio] at e1
   cases e1
   exact⟨q.1,q.2.1,q.2.2,_,C,dx,gs,rfl,rfl,eio,ek,ec,eh,rf,b1,f1,h⟩
end
structure FldOk (K:PySem.W.Frag) (G:G3) (c:String) (f:Str):Prop where
 ex:∃C,G.cls c=some C∧Cls K C∧NoAttr K C f
def eFld (cs:List String) (f:Str) (m:EM):EM:=fun u=>M.bind (m u) fun w=>M.bind (insOf w) fun q=>M.bind (M.chk (q.2.1∈cs)) fun _=>M.bind (M.of (q.2.2.lookup f)) fun d=>M.pure (.val d)
section
variable {P:P3} {pos pos':Pos} {e o:Expr} {m mo:EM} {f:Str} {cs:List String}
theorem me_fld (ok:∀c∈cs,FldOk P.X.K P.G c f) (he:ME P e m) (hb:attributeBase e f P.X.env (eval e P.X.env)=eval e P.X.env:=by rfl):ME P (.Attribute e f pos) (eFld cs f m):=by
 obtain⟨t,pt,ht⟩:=he.out
 refine ME.mk' (pe_fld pt hb) fun B0 B s st u z Q wd sl h=>ht B0 B s st u z _ wd sl (Post.bind h fun w st1 s1 v l1 wd1 r1 h1=>?_)
 obtain⟨k,c,fs,a,C,dx,gs,rfl,rfl,eio,ek,ec,eh,rf,nb,hF,h1⟩:=Post.of_ins wd1 r1 h1
 obtain⟨hm,h1⟩:=Post.of_chk h1
 obtain⟨d,ed,h1⟩:=Post.of_of h1
 obtain⟨C',ec',hc,hn⟩:=(ok c hm).ex
 rw[ec] at ec'
 cases ec'
 obtain⟨v,ev,rv⟩:=(rf.look (f:=f)).1 d ed
 exact⟨a,C,dx,gs,v,rfl,eh,hc,hn,ev,h1.pure wd1 rv⟩
def put3 (f:Str) (d:D):List (Str×D)→List (Str×D)
 | []=>[(f,d)]
 | (g,e) :: r=>if g=f then (g,d) :: r else (g,e) :: put3 f d r
theorem put3_ok {K:KW} {F:Hp} {io:Io} {d:D} {v:V} (r:Rep K F io d v):∀{fs:List (Str×D)} {gs:List (Str×V)},FsR K F io fs gs→FsR K F io (put3 f d fs) (putF f v gs)
 | _,_,.nil=>.cons r .nil
 | _,_,.cons (f:=g) q t=>by
  unfold put3 putF
  by_cases h:g=f
  ·rw[if_pos h,if_pos h];exact .cons r t
  ·rw[if_neg h,if_neg h];exact .cons q (put3_ok r t)
def sFldS (cs:List String) (f:Str) (mo me:EM):SM:=fun u st=>match M.bind (me u) (fun w=>M.bind (M.of w.d) fun d=>M.bind (mo u) fun x=>M.bind (insOf x) fun q=>M.bind (M.chk (q.2.1∈cs∧q.2.2.length<500)) fun _=>fun st=>.ok () (st.set q.1 (.ins q.2.1 (put3 f d q.2.2)))) st with
 | .ok _ st'=>.nx u st'
 | .err c x st'=>.err c x u st'
 | .bad=>.bad
theorem ms_fld (ok:∀c∈cs,FldOk P.X.K P.G c f) (ho:ME P o mo) (he:ME P e m) (hs:swapsWith e (some (.Attribute o f pos')) pos.line P.X.env=pure false:=by rfl):MS P (.Assign [.Attribute o f pos'] e pos) (sFldS cs f mo m):=by
 obtain⟨t,pt,ht⟩:=he.out
 obtain⟨to,po,hto⟩:=ho.out
 refine MS.mk' (ps_fld po pt hs) fun B0 B s st u z D b0 wd sl h=>ht B0 B s st u z _ wd sl ?_
 unfold sFldS at h
 generalize hm:M.bind (m u) (fun w=>M.bind (M.of w.d) fun d=>M.bind (mo u) fun x=>M.bind (insOf x) fun q=>M.bind (M.chk (q.2.1∈cs∧q.2.2.length<500)) fun _=>fun st=>Res.ok () (st.set q.1 (.ins q.2.1 (put3 f d q.2.2))))=mm at h
 have hp:Post P.G B (fun _ (_:Unit) (_:Unit)=>True) (fun c d H=>P.wx c d z H) s (fun (_:Unit) H'=>D.nx z H') (mm st):=by
  cases e:mm st with
  | ok _ st'=>rw[e] at h;exact fun s' _ l w _=>h B s' z b0 (l.less b0) w (sl.mono' l)
  | err c x st'=>rw[e] at h;exact fun s' cv dd l w q=>h B s' z cv dd b0 (l.less b0) w (sl.mono' l) q
  | bad=>rw[e] at h;exact h
 rw[←hm] at hp
 refine Post.bind hp fun w st1 s1 v l1 wd1 r1 h1=>?_
 obtain⟨d,ed,h1⟩:=Post.of_of h1
 obtain rfl:w=.val d:=by cases w <;> cases ed;rfl
 refine hto B0 B s1 st1 u z _ wd1 (sl.mono' l1) (Post.bind h1 fun w2 st2 s2 v2 l2 wd2 r2 h2=>?_)
 obtain⟨k,c,fs,a,C,dx,gs,rfl,rfl,eio,ek,ec,eh,rf,nb,hF,h2⟩:=Post.of_ins wd2 r2 h2
 obtain⟨⟨hmem,hz⟩,h2⟩:=Post.of_chk h2
 obtain⟨C',ec',hc,hn⟩:=(ok c hmem).ex
 rw[ec] at ec'
 cases ec'
 have rd:Rep P.G.R s2.F s2.io d v:=Rep.mono l2.fr l2.io r1
 obtain⟨w3,l3⟩:=wd2.setO (o':=.ins c (put3 f d fs)) (ho:=.ins C dx (putF f v gs)) eio nb hF ⟨C,dx,_,ec,upd_same,put3_ok rd rf⟩ ek
 exact⟨a,C,dx,gs,rfl,eh,hc,hn,by rw[←rf.length];exact Nat.lt_trans hz (by decide),h2 _ () l3 w3 trivial⟩
def eNewL (mf:FM):EM:=fun u st=>match mf u st with
 | .ok xs st'=>.ok (.val (.ref st'.length)) (st'++[.lst xs])
 | .err c x st'=>.err c x st'
 | .bad=>.bad
def mMake (c:String) (mf:List D→M D) (ds:List D):M W:=fun st=>match mf (.ref st.length :: ds) (st++[.ins c []]) with
 | .ok .non st'=>.ok (.val (.ref st.length)) st'
 | .ok _ _=>.bad
 | .err c x st'=>.err c x st'
 | .bad=>.bad
theorem make_post {G:G3} {X:Hex} {B:Addr→Prop} {s:S3} {st:Store} {E:XK} {Q:VK} {c:String} {C:Addr} {mf:List D→M D} {ds:List D} {vs:List V} {n:Nat} (hc:G.cls c=some C) (wd:Wd G B st s) (rl:RepL G.R s.F s.io ds vs) (hl:ds.length=n)
  (h:Post G B (RepW G X B) E s Q (mMake c mf ds st)) {x dx:Addr} (hx:s.H x=none) (hd:s.H dx=none) (ne:dx≠x) :
  spM G (n+1) mf (.ref x :: vs) (upd (upd s.H dx (.own x)) x (.ins C dx [])) (fun v H2=>v=.non∧Q (.ref x) H2) E:=by
 have hs:Same s.H (upd (upd s.H dx (.own x)) x (.ins C dx [])):=fun a o e=>by
  rw[upd_ne (ne_of_none e hx),upd_ne (ne_of_none e hd)];exact e
 obtain⟨w2,l2,e2⟩:=wd.newO (o:=.ins c []) hx hs ⟨C,dx,[],hc,upd_same,.nil⟩
 refine⟨by rw[List.length_cons,←rl.length,hl],B,_,_,.ref st.length :: ds,rfl,w2,.cons (.ref e2) (rl.mono l2.fr l2.io),?_⟩
 unfold mMake at h
 cases em:mf (.ref st.length :: ds) (st++[.ins c []]) with
 | bad=>rw[em] at h;exact h
 | err c x st'=>rw[em] at h;exact fun s' cv dd l w q=>h s' cv dd (l2.trans l) w q
 | ok d st'=>
  rw[em] at h
  cases d with
  | non=>
   intro s' v l w r
   cases r
   exact⟨rfl,h s' (.ref x) (l2.trans l) w (.ref (l.io _ _ e2))⟩
  | _=>exact h.elim
end
end M3
namespace M3
open PySem PySem.Spec PyProof.Rows L2
section
variable {X:Cx} {CX:CXH} {k:Nat} {f C:Addr} {fd:FuncData} {ps:List Str} {sp:Sp} {x m:Str} {p pos apos:Pos} {e o:Expr} {es:List Expr} {ta:TE} {t tk:TA}
theorem made_runs {E:XK} {pins:List (Addr×Obj)} {σ:L2.St} {H:Hp} {s:Shared} {Q:VK} {us all:List Value} {kw:List (Str×Value)} {vs:List V} (M:Mk X.K C f) (F:FnOk X.prog X.w X.K X.mg X.base CX k f fd ps sp) (hr:Room (k+1) X)
  (hx:PassesAt (CX X.A.handled) X σ E) (I:Inv X pins σ H s) (r:Vals vs all) (hb:∀(s':Shared) (u:Value),X.K.In s'.heap→(u :: all).length=ps.length→BindsTo s' fd ⟨u :: us,kw⟩ (ps.zip (u :: all)))
  (h:∀x dx,H x=none→H dx=none→dx≠x→sp (.ref x :: vs) (upd (upd H dx (.own x)) x (.ins C dx [])) (fun v H2=>v=.non∧Q (.ref x) H2) E) :
  wpAny (model X.prog X.w) X.A (call (.ref C) us kw) (EP X pins σ Q) X.xe s:=by
 generalize hn:s.heap.objs.size=n
 have free:H n=none:=I.hok.fresh (Nat.le_of_eq hn)
 have free1:H (n+1)=none:=I.hok.fresh (by rw[hn];exact Nat.le_succ n)
 have want:=h (n+1) n free1 free (Nat.ne_of_lt (Nat.lt_succ_self n))
 have J:=Inv.made (C:=C) I
 rw[hn] at J
 have vals:Vals (V.ref (n+1) :: vs) (Value.ref (n+1) :: all):=.cons rfl r
 have len:(Value.ref (n+1) :: all).length=ps.length:=vals.length.symm.trans (F.len _ _ _ _ want)
 refine wpAny_call (make_map (f:=f) I.kIn M.makes M.init (beq_iff_eq.mp M.fn) ?_)
 rw[hn]
 refine codeAny_mono (F.run _ X.stack _ _ ⟨Value.ref (n+1) :: us,kw⟩ _ _ _ E ((hr.call J).make C us kw) (J.env0.make C us kw) (hb _ _ J.kIn len) vals want) fun res s' got=>?_
 match res,got with
 | .error er,got=>exact hx pins _ _ er s' J got
 | .ok (.ret u),got=>
  obtain⟨v,H',J',rv,ev,q⟩:=J.after got
  subst ev
  exact⟨rv,V.ref (n+1),H',J',rfl,q⟩
 | .ok .next,got=>exact got.elim
 | .ok .brk,got=>exact got.elim
 | .ok .cont,got=>exact got.elim
def tMk3 (C:Addr) (sp:Sp) (dvs:List V) (E:L2.St→XK) (t:TA):TE:=fun σ H Q=>t σ H fun vs H1=>∀x dx,H1 x=none→H1 dx=none→dx≠x→
 sp (.ref x :: (vs++dvs)) (upd (upd H1 dx (.own x)) x (.ins C dx [])) (fun v H2=>v=.non∧Q (.ref x) H2) (E σ)
variable {dvs:List V} {ds:List Value} {E:L2.St→XK}
theorem pe_mk3 (M:Mk X.K C f) (F:FnOk X.prog X.w X.K X.mg X.base CX k f fd ps sp) (hr:Room (k+1) X) (hg:Gl X x) (hm:X.mg x=some (.ref C)) (hb:Binds X.K fd ps ds) (hd:Vals dvs ds) (hx:∀σ,PassesAt (CX X.A.handled) X σ (E σ)) (ha:PA X (e :: es) t)
  (hdb:(x == ("__debug__" : Str))=false:=by decide) (he:starEach (e :: es) X.env=(false,eval e X.env) :: starEach es X.env:=by rfl) (hpl:(backTo pos (starEach es X.env)).any (·.1)=false:=by rfl):PE X (.Call (.Name x p) (e :: es) [] pos) (tMk3 C sp dvs E t):=by
 refine⟨fun pins s σ H Q I h=>wpAny_Call_Name_kw (ld_glob I hg hm ?_ hdb)⟩
 refine PySem.W.callWith_K (h₀:=X.base) I.ok.mod.kin M.kp ?_ he hpl
 refine thn (ha.run pos pins s σ H _ I h) fun us s1 ⟨vs,H1,J,r,q⟩=>⟨J.kIn,?_⟩
 exact made_runs (all:=us++ds) M F hr (hx σ) J (r.append hd) (fun s' u KI hl=>hb s' (u :: us) KI hl) q
end
structure MkOk3 (Pg:Program) (w:World) (K:PySem.W.Frag) (mg:Str→Option Value) (base:Heap) (G:G3) (k:Nat) (x:Str) (c:String) (n:Nat) (dd:List D) (mf:List D→M D):Prop where
 ex:∃C f fd ps dvs dsv,mg x=some (.ref C)∧G.cls c=some C∧Mk K C f∧Binds K fd ps dsv∧Vals dvs dsv∧(∀F io,RepL G.R F io dd dvs)∧FnOk Pg w K mg base (CXq Pg w) k f fd ps (spM G (n+dd.length+1) mf)
def eMk3 (c:String) (n:Nat) (dd:List D) (mf:List D→M D) (ma:AM):EM:=fun u=>M.bind (ma u) fun ws=>M.bind (M.of (asDs ws)) fun ds=>M.bind (M.chk (ds.length=n)) fun _=>mMake c mf (ds++dd)
section
variable {P:P3} {pos p apos:Pos} {x m:Str} {c:String} {e o:Expr} {es:List Expr} {ma:AM} {mo:EM} {mf:List D→M D} {dd:List D} {k j n:Nat}
theorem me_mk3 (h:MkOk3 P.X.prog P.X.w P.X.K P.X.mg P.X.base P.G k x c n dd mf) (hr:Room j P.X) (hk:k+1≤j) (tk:Takes P.X P.wx) (hg:Gl P.X x) (ha:MA P (e :: es) ma)
  (hdb:(x == ("__debug__" : Str))=false:=by decide) (he:starEach (e :: es) P.X.env=(false,eval e P.X.env) :: starEach es P.X.env:=by rfl) (hpl:(backTo pos (starEach es P.X.env)).any (·.1)=false:=by rfl) :
  ME P (.Call (.Name x p) (e :: es) [] pos) (eMk3 c n dd mf ma):=by
 obtain⟨C,f,fd,ps,dvs,dsv,hm,hc,M,hb,hd,rd,F⟩:=h.ex
 obtain⟨t,pt,ht⟩:=ha.out
 refine ME.mk' (pe_mk3 M F (hr.mono hk) hg hm hb hd (fun σ=>passAt tk σ) pt hdb he hpl) fun B0 B s st u z Q wd sl h=>ht B0 B s st u z _ wd sl (Post.bind h fun ws st1 s1 vs l1 wd1 r1 h1=>?_)
 obtain⟨ds,e,h1⟩:=Post.of_of h1
 obtain⟨hl,h1⟩:=Post.of_chk h1
 have rl:=(asDs_ok r1 e).append (rd s1.F s1.io)
 exact fun x dx hx hdx ne=>make_post (n:=n+dd.length) hc wd1 rl (by rw[List.length_append,hl]) h1 hx hdx ne
structure MthOk (Pg:Program) (w:World) (K:PySem.W.Frag) (mg:Str→Option Value) (base:Heap) (G:G3) (k:Nat) (m:Str) (n:Nat) (c:String) (mf:List D→M D):Prop where
 ex:∃C f fd ps,G.cls c=some C∧Cls K C∧Meth K C m f∧Binds K fd ps []∧FnOk Pg w K mg base (CXq Pg w) k f fd ps (spM G (n+1) mf)
def eMeth (m:Str) (n:Nat) (tab:List (String×(List D→M D))) (mo:EM) (ma:AM):EM:=fun u=>M.bind (mo u) fun w=>M.bind (insOf w) fun q=>M.bind (M.chk (q.2.2.lookup m=none)) fun _=>M.bind (M.of (tab.lookup q.2.1)) fun mf=>
 M.bind (ma u) fun ws=>M.bind (M.of (asDs ws)) fun ds=>M.bind (M.chk (ds.length=n)) fun _=>M.bind (mf (.ref q.1 :: ds)) fun d=>M.pure (.val d)
structure PropOk (Pg:Program) (w:World) (K:PySem.W.Frag) (mg:Str→Option Value) (base:Heap) (G:G3) (k:Nat) (f:Str) (c:String) (mf:List D→M D):Prop where
 ex:∃C p g fd ps,G.cls c=some C∧Cls K C∧PropOf K C f p g∧Binds K fd ps []∧FnOk Pg w K mg base (CXq Pg w) k g fd ps (spM G 1 mf)
def eProp (c:String) (mf:List D→M D) (mo:EM):EM:=fun u=>M.bind (mo u) fun w=>M.bind (insOf w) fun q=>M.bind (M.chk (q.2.1=c)) fun _=>M.bind (M.quiet (mf [.ref q.1])) fun d=>M.pure (.val d)
theorem me_prop {f:Str} (h:PropOk P.X.prog P.X.w P.X.K P.X.mg P.X.base P.G k f c mf) (hr:Room j P.X) (hk:k+1≤j) (ho:ME P o mo) (hab:attributeBase o f P.X.env (eval o P.X.env)=eval o P.X.env:=by rfl) :
  ME P (.Attribute o f pos) (eProp c mf mo):=by
 obtain⟨C,p,g,fd,ps,hcl,hc,hp,hb,F⟩:=h.ex
 obtain⟨to,po,hto⟩:=ho.out
 refine ME.mk' (pe_prop (E:=fun _ _ _=>False) po hc hp F (hr.mono hk) hb .nil ?_ hab) fun B0 B s st u z Q wd sl hp=>hto B0 B s st u z _ wd sl (Post.bind hp fun w st1 s1 v l1 wd1 r1 h1=>?_)
 ·exact fun pins σ H s er s' I q=>(noCX q).elim
 ·obtain⟨i,c',fs,a,C',dx,gs,rfl,rfl,eio,ek,ec,eh,rf,nb,hF,h1⟩:=Post.of_ins wd1 r1 h1
  obtain⟨hcc,h2⟩:=Post.of_chk h1
  have hcc:c'=c:=hcc
  subst hcc
  rw[hcl] at ec
  cases ec
  refine⟨a,dx,gs,rfl,eh,rfl,B,s1,st1,[.ref i],rfl,wd1,.cons (.ref eio) .nil,?_⟩
  unfold M.bind M.quiet at h2
  dsimp only at h2
  cases em:mf [.ref i] st1 with
  | ok d st'=>rw[em] at h2;exact fun s' v l w r=>h2 s' v l w r
  | err c x st'=>rw[em] at h2;exact h2.elim
  | bad=>rw[em] at h2;exact h2.elim
end
end M3
namespace M3
open PySem PySem.Spec PyProof.Rows L2
structure ExcOk (K:PySem.W.Frag) (mg:Str→Option Value) (G:G3) (x:Str) (c:String):Prop where
 ex:∃(C:Addr) (bmB:List Value) (B newId initId:String),ExcBaseFacts B newId initId bmB∧PySem.W.excIn K C bmB newId=true∧mg x=some (.ref C)∧PySem.W.keepIn K (.ref C)=true∧
  PySem.W.subIn K (.ref C) (.type "BaseException")=some true∧PySem.W.typeIn K (.ref C)=some (.type "type")∧G.cls c=some C∧G.fld c=none
def sRaise (c:String):SM:=fun u st=>.err c .non u st
section
variable {P:P3} {pos p p2 rpos:Pos}
theorem ms_raise {x m:Str} {c:String} {j:Nat} (h:ExcOk P.X.K P.X.mg P.G x c) (hc:Cool P.X) (tk:Takes P.X P.wx) (hg:Gl P.X x) (hdb:(x == ("__debug__" : Str))=false:=by decide) :
  MS P (.Raise (some (.Call (.Name x p) [.Constant (.str m) j p2] [] pos)) none rpos) (sRaise c):=by
 obtain⟨C,bmB,B,nid,iid,F,q,gC,kC,sb,ty,gc,gf⟩:=h.ex
 refine MS.mk' (ps_raise hc tk (L2N.pmk_own F q gC kC (raises_own sb ty) hg hdb)) fun B0 B s o u z D b0 wd sl h=>?_
 refine h B s z (.ref C) none b0 (Le.refl _) wd sl ?_
 unfold ExR
 rw[gc]
 exact⟨rfl,by rw[gf]⟩
def sBad:SM:=fun _ _=>.bad
def sTry0 (b:SM):SM:=fun u st=>match b u st with
 | .err _ _ _ _=>.bad
 | r=>r
theorem one {α:Type} {p:α→Prop} {a:α} (h:p a):∀c∈[a],p c:=fun c hc=>List.mem_singleton.mp hc▸h
abbrev P3.nox (P:P3):P3:=⟨P.X.nox,P.G,P.hx,fun _ _ _ _=>False,P.hK,P.hw⟩
theorem ms_try0 {body:List Stmt} {h0:ExceptHandler} {hs:List ExceptHandler} {b:SM} (h:MSs P.nox body b):MS P (.Try body (h0 :: hs) [] [] pos) (sTry0 b):=by
 obtain⟨t,pt,ht⟩:=h.out
 refine MS.mk' (ps_try_thru0 pt) fun B0 B s o u z D b0 wd sl h=>ht B0 B s o u z D b0 wd sl ?_
 unfold sTry0 at h
 cases e:b u o with
 | err c x u' st'=>rw[e] at h;exact h.elim
 | nx u' st'=>rw[e] at h;exact h
 | rt w st'=>rw[e] at h;exact h
 | bk u' st'=>rw[e] at h;exact h
 | ct u' st'=>rw[e] at h;exact h
 | bad=>rw[e] at h;exact h
end
def noExn:Sl3→Bool
 | []=>true
 | some (.exn _ _) :: _=>false
 | _ :: u=>noExn u
theorem noExn_at {c:String} {x:D}:∀{u:Sl3} {i:Nat},noExn u=true→u[i]?≠some (some (.exn c x))
 | [],i,_=>by simp
 | w :: u,0,h=>fun e=>by
  simp at e
  subst e
  cases h
 | w :: u,i+1,h=>fun e=>by
  refine noExn_at (u:=u) (i:=i) ?_ (by simpa using e)
  cases w with
  | none=>exact h
  | some w=>cases w <;> first | exact h | cases h
theorem Slo.hx {G:G3} {X X':Hex} {B0 B:Addr→Prop} {s:S3} {u:Sl3} {z:L2.St} (h:Slo G X B0 B s u z) (n:noExn u=true):Slo G X' B0 B s u z:=by
 obtain⟨hl,ow,h1,h2⟩:=h
 refine⟨hl,ow,fun i w e=>?_,h2⟩
 obtain⟨v,e1,r,q⟩:=h1 i w e
 refine⟨v,e1,?_,q⟩
 cases w with
 | exn c x=>exact absurd e (noExn_at n)
 | val d=>exact r
 | bor xs=>exact r
 | bod ks us=>exact r
 | bdd ks us=>exact r
 | len xs=>exact r
theorem Slo.exn {G:G3} {B0 B:Addr→Prop} {s:S3} {u:Sl3} {z:L2.St} {a:Addr} {c:String} {x:D} {dd:Option Addr} (h:Slo G (some (a,c,x,dd)) B0 B s u z) (xf:XFld G s c x dd) (i:Nat):Slo G (some (a,c,x,dd)) B0 B s (u.set i (some (.exn c x))) (z.set i (some (.ref a))):=by
 obtain⟨hl,ow,h1,h2⟩:=h
 refine⟨by simpa using hl,ow,fun j w e=>?_,fun j k w w' o1 o2 e1 e2 e=>?_⟩
 ·rcases get_set e with⟨rfl,rfl⟩ | ⟨ne,e⟩
  ·have hi:i<u.length:=by
    rcases Nat.lt_or_ge i u.length with q | q
    ·exact q
    ·rw[List.getElem?_eq_none (by simpa using q)] at e;cases e
   exact⟨.ref a,by rw[List.getElem?_set_self (by omega)],⟨a,dd,rfl,rfl,xf⟩,fun q=>by cases q⟩
  ·obtain⟨v',e1,r',q⟩:=h1 j w e
   exact⟨v',by rw[List.getElem?_set_ne ne];exact e1,r',q⟩
 ·rcases get_set e1 with⟨_,q⟩ | ⟨_,e1⟩
  ·subst q;cases o1
  ·rcases get_set e2 with⟨_,q⟩ | ⟨_,e2⟩
   ·subst q;cases o2
   ·exact h2 j k w w' o1 o2 e1 e2 e
abbrev P3.tr (P:P3) (pn:List (Addr×Obj)) (xe:Value→Shared→Prop) (W:WX):P3:=⟨P.X.tr pn xe,P.G,P.hx,W,P.hK,P.hw⟩
def sSuite (i:Option Nat) (ms:SM) (c:String) (x:D) (u:Sl3) (st:Store):SRes:=
 let put:=fun u:Sl3=>match i with | some i=>u.set i (some (.exn c x)) | none=>u
 let gone:=fun u:Sl3=>match i with | some i=>u.set i none | none=>u
 match ms (put u) st with
 | .nx u2 st2=>if noExn (gone u2)=true then .nx (gone u2) st2 else .bad
 | .bk u2 st2=>if noExn (gone u2)=true then .bk (gone u2) st2 else .bad
 | .ct u2 st2=>if noExn (gone u2)=true then .ct (gone u2) st2 else .bad
 | .rt w st2=>.rt w st2
 | _=>.bad
def sTry (i:Option Nat) (sub:String→Option Bool) (mb ms:SM):SM:=fun u st=>match mb u st with
 | .err c x u' st'=>match sub c with
  | some true=>if noExn u'=true then sSuite i ms c x u' st' else .bad
  | some false=>.err c x u' st'
  | none=>.bad
 | r=>r
def eIsE (i:Nat) (tab:String→Option Bool):EM:=fun u st=>match u[i]? with
 | some (some (.exn c _))=>match tab c with
  | some b=>.ok (.val (.bl b)) st
  | none=>.bad
 | _=>.bad
section
variable {P:P3} {pos p p1 p2:Pos}
def eXf (i:Nat) (cs:List String):EM:=fun u st=>match u[i]? with
 | some (some (.exn c x))=>if c∈cs then .ok (.val x) st else .bad
 | _=>.bad
end
end M3
namespace M3
open PySem PySem.Spec PyProof.Rows L2
section
variable {K:KW} {F H:Hp} {io:Io} {P:Program} {w:World} {h:Heap}
mutual
theorem nk_ok (hs:Same F H) (ok:HOk P w H h):∀{d:D} {v:V} {k:NestedKey} {u:Value},Rep K F io d v→d.nk=some k→RelV v u→NestedIs h k u
 | _,_,_,_,.non,e,r=>by rw[D.nk] at e;cases e;cases (show _=Value.none from r);exact .none
 | _,_,_,_,.bl,e,r=>by rw[D.nk] at e;cases e;cases (show _=Value.bool _ from r);exact .bool rfl
 | _,_,_,_,.int,e,r=>by rw[D.nk] at e;cases e;obtain⟨t,rfl⟩:=r;exact .int _ _
 | _,_,_,_,.str,e,r=>by rw[D.nk] at e;cases e;obtain⟨t,rfl⟩:=r;exact .text _ _
 | _,_,_,_,.ty,e,_=>by simp[D.nk] at e
 | _,_,_,_,.ref _,e,_=>by simp[D.nk] at e
 | _,_,_,_,.fn _ _ _ _ _,e,_=>by simp[D.nk] at e
 | _,_,_,_,.dict _ _ _,e,_=>by simp[D.nk] at e
 | _,_,_,_,.dd _ _ _ _ _,e,_=>by simp[D.nk] at e
 | _,_,_,_,.ctup _ _,e,_=>by simp[D.nk] at e
 | _,_,_,_,.lst _ _,e,_=>by simp[D.nk] at e
 | _,_,_,_,.ro _ _,e,_=>by simp[D.nk] at e
 | .tup xs,_,k,_,.tup s q,e,r=>by
  rw[D.nk] at e
  cases hx:D.nks xs with
  | none=>rw[hx] at e;cases e
  | some ks=>
   rw[hx] at e
   cases e
   cases (show _=Value.ref _ from r)
   obtain⟨o,hq,_⟩:=s
   obtain⟨hg,z,its,vs,o',h1,h2,n,h3⟩:=ok _ _ (hs _ _ hq)
   exact .tup h1 h2 h3 (by rw[List.toList_toArray];exact nks_ok hs ok q hx vs)
theorem nks_ok (hs:Same F H) (ok:HOk P w H h):∀{ds:List D} {vs:List V} {ks:List NestedKey} {us:List Value},RepL K F io ds vs→D.nks ds=some ks→Vals vs us→NestedAll h ks us
 | [],_,_,_,.nil,e,.nil=>by rw[D.nks] at e;cases e;exact .nil
 | d :: ds,_,ks,_,.cons r t,e,.cons q qs=>by
  rw[D.nks] at e
  cases h1:D.nk d with
  | none=>rw[h1] at e;cases e
  | some k=>
   cases h2:D.nks ds with
   | none=>rw[h1,h2] at e;cases e
   | some ks'=>rw[h1,h2] at e;cases e;exact .cons (nk_ok hs ok r h1 q) (nks_ok hs ok t h2 qs)
end
end
def KeyH (H:Hp) (k:NestedKey) (b:Addr):Prop:=∀(P:Program) (w:World) (h:Heap),HOk P w H h→(nestedKind P w).is h k b
theorem tk_ok {K:KW} {F H:Hp} {io:Io} {d:D} {v:V} {k:NestedKey} (hs:Same F H) (r:Rep K F io d v) (e:d.tk=some k):∃b,v=.ref b∧KeyH H k b:=by
 unfold D.tk at e
 split at e
 ·rename_i xs
  split at e
  ·rename_i ks h1
   split at e
   ·rename_i hd
    cases e
    cases r with
    | tup s q=>exact⟨_,rfl,fun P w h ok=>⟨nk_ok (d:=.tup xs) hs ok (.tup s q) (by rw[D.nk,h1];rfl) rfl,hd⟩⟩
   ·cases e
  ·cases e
 ·cases e
theorem DkR.keyH {K:KW} {F H:Hp} {io:Io} (hs:Same F H):∀{ks us:List D} {xs:DkX},DkR K F io ks us xs→∀x∈xs,KeyH H x.1 x.2.1:=by
 intro ks us xs h
 have h1:=h.keys
 have h2:=h.tk
 clear h
 induction xs generalizing ks with
 | nil=>intro x hx;cases hx
 | cons x xs ih=>
  cases ks with
  | nil=>cases h1
  | cons k ks=>
   rw[List.map_cons] at h1
   cases h1 with
   | cons r t=>
    simp only[List.map_cons,List.cons.injEq] at h2
    intro y hy
    rcases List.mem_cons.mp hy with e | hy
    ·subst e
     obtain⟨b,eb,hb⟩:=tk_ok hs r h2.1
     cases eb
     exact hb
    ·exact ih t h2.2 y hy
def ddAt:List D→List D→NestedKey→Option D
 | k :: ks,d :: ds,x=>if k.tk=some x then some d else ddAt ks ds x
 | _,_,_=>none
def ddSet:List D→List D→NestedKey→D→List D
 | k :: ks,d :: ds,x,y=>(if k.tk=some x then y else d) :: ddSet ks ds x y
 | _,ds,_,_=>ds
def ddHas (ks:List D) (x:NestedKey):Bool:=ks.any fun k=>decide (k.tk=some x)
def ddPut (ks us:List D) (kd:D) (x:NestedKey) (d:D):List D×List D:=if ddHas ks x=true then (ks,ddSet ks us x d) else (ks++[kd],us++[d])
section
variable {K:KW} {F H:Hp} {io:Io}
theorem dd_at {x:NestedKey}:∀{ks us:List D} {xs:DkX},DkR K F io ks us xs→(∀d,ddAt ks us x=some d→∃b u v,atKey xs x=some (b,u)∧RelV v u∧Rep K F io d v)∧(atKey xs x).isSome=ddHas ks x∧((ddAt ks us x).isSome=ddHas ks x):=by
 intro ks us xs h
 obtain⟨h1,h2,vs,h3,h4⟩:=h
 induction xs generalizing ks us vs with
 | nil=>
  cases ks with
  | nil=>exact⟨fun d e=>by simp[ddAt] at e,rfl,by simp[ddAt,ddHas]⟩
  | cons k ks=>cases h1
 | cons y xs ih=>
  cases ks with
  | nil=>cases h1
  | cons k ks=>
   rw[List.map_cons] at h1
   cases h1 with
   | cons r t=>
    rw[List.map_cons] at h3
    cases h3 with
    | cons q qs=>
     cases h4 with
     | cons g gs=>
      simp only[List.map_cons,List.cons.injEq] at h2
      obtain⟨i1,i2,i3⟩:=ih t h2.2 _ qs gs
      unfold ddAt ddHas atKey
      by_cases e:y.1=x
      ·rw[h2.1,e,if_pos rfl]
       simp only[List.find?_cons,e,decide_true,List.any_cons,h2.1]
       exact⟨fun d z=>by cases z;exact⟨y.2.1,y.2.2,_,rfl,q,g⟩,rfl,rfl⟩
      ·have e2:¬(k.tk=some x):=by rw[h2.1];exact fun z=>e (by injection z)
       rw[if_neg e2]
       simp only[List.find?_cons,e,decide_false,List.any_cons,e2,Bool.false_or]
       exact⟨i1,i2,i3⟩
theorem dd_put {x:NestedKey} {kd:D} {b:Addr} {d:D} {v:V} {u:Value} (hk:kd.tk=some x) (rk:Rep K F io kd (.ref b)) (rv:RelV v u) (rd:Rep K F io d v) {ks us:List D} {xs:DkX} (h:DkR K F io ks us xs) :
  DkR K F io (ddPut ks us kd x d).1 (ddPut ks us kd x d).2 (storedH xs x b u):=by
 have hh:=(dd_at (x:=x) h).2.1
 unfold ddPut storedH
 rw[hh]
 by_cases e:ddHas ks x=true
 ·rw[if_pos e,if_pos e]
  clear hh e
  obtain⟨h1,h2,vs,h3,h4⟩:=h
  induction xs generalizing ks us vs with
  | nil=>
   cases ks with
   | nil=>cases h3;cases h4;exact⟨.nil,rfl,[],.nil,.nil⟩
   | cons k ks=>cases h1
  | cons y xs ih=>
   cases ks with
   | nil=>cases h1
   | cons k ks=>
    rw[List.map_cons] at h1
    cases h1 with
    | cons r t=>
     rw[List.map_cons] at h3
     cases h3 with
     | cons q qs=>
      cases h4 with
      | cons g gs=>
       simp only[List.map_cons,List.cons.injEq] at h2
       obtain⟨j1,j2,ws,j3,j4⟩:=ih t h2.2 _ qs gs
       simp only[List.map_cons,ddSet]
       by_cases e:y.1=x
       ·rw[show putAt x u y=(y.1,y.2.1,u) from if_pos e,if_pos (by rw[h2.1,e])]
        exact⟨.cons r j1,by simp only[List.map_cons,h2.1];rw[j2],v :: ws,.cons rv j3,.cons rd j4⟩
       ·rw[show putAt x u y=y from if_neg e,if_neg (by rw[h2.1];exact fun z=>e (by injection z))]
        exact⟨.cons r j1,by simp only[List.map_cons,h2.1];rw[j2],_ :: ws,.cons q j3,.cons g j4⟩
 ·rw[if_neg e,if_neg e]
  obtain⟨h1,h2,vs,h3,h4⟩:=h
  refine⟨?_,?_,vs++[v],?_,h4.append (.cons rd .nil)⟩
  ·rw[List.map_append];exact h1.append (.cons rk .nil)
  ·rw[List.map_append,List.map_append,h2];simp[hk]
  ·rw[List.map_append];exact Paired.snoc h3 rv
theorem dd_len {ks us:List D} {xs:DkX} (h:DkR K F io ks us xs):ks.length=xs.length∧us.length=xs.length:=by
 obtain⟨h1,_,vs,h3,h4⟩:=h
 refine⟨by have:=h1.length;simpa using this,?_⟩
 rw[h4.length,Paired.length h3];simp
end
def RdD (H:Hp) (a:Addr) (u:HO):Prop:=H a=some u∨(∃o,H a=some (.frz o u))∨∃o,H a=some (.frz o (.frz o u))
theorem RdD.ok {P:Program} {w:World} {H:Hp} {h:Heap} {a:Addr} {u:HO} (r:RdD H a u) (x:HOk P w H h):ObjOk P w H h a u:=by
 rcases r with r | ⟨o,r⟩ | ⟨o,r⟩
 ·exact x a u r
 ·exact(x a _ r).2
 ·exact(x a _ r).2.2
theorem dkO_of {P:Program} {w:World} {H:Hp} {h:Heap} {a:Addr} {xs:DkX} (ok:HOk P w H h) (e:RdD H a (DkO w a xs)) (hk:∀x∈xs,KeyH H x.1 x.2.1) :
  (a == sysModules)=false∧xs.length≤sizeLine∧h.DictOfH (nestedKind P w) a xs:=by
 obtain⟨⟨h1,h2,h3,o,es,ep,g1,g2,g3,g4⟩,_,_⟩:=e.ok ok
 exact⟨h1,h3,o,es,ep,g1,g2,g3,g4,fun x hx=>hk x hx P w h ok,h2⟩
theorem dkO_new {P:Program} {w:World} {H':Hp} {h':Heap} {a:Addr} {xs:DkX} (h1:(a == sysModules)=false) (h3:xs.length≤sizeLine) (dd:h'.DictOfH (nestedKind P w) a xs):ObjOk P w H' h' a (DkO w a xs):=by
 obtain⟨o,es,ep,g1,g2,g3,g4,_,g5⟩:=dd
 exact⟨⟨h1,g5,h3,o,es,ep,g1,g2,g3,g4⟩,⟨o,g1⟩,fun k1 k2 ⟨q1,q2,q3,o,es,ep,f1,f2⟩ hk=>⟨q1,q2,q3,o,es,ep,hk o f1,f2⟩⟩
theorem nroom {A:Around} (hu:A.units+65<cLine) {P:Program} {w:World}:(nestedKind P w).room A.in1:=by
 show A.units+1+8<cLine
 omega
def rGetDD (w:World):R2:=fun x y H Q=>∃a b xs k c u v,x=.ref a∧y=.ref b∧RdD H a (DkO w a xs)∧(∀x∈xs,KeyH H x.1 x.2.1)∧KeyH H k b∧atKey xs k=some (c,u)∧RelV v u∧Q v H
theorem pe_getDD {X:Cx} {pos:Pos} {o i:Expr} {to ti:TE} (hu:X.A.units+65<cLine) (ho:PE X o to) (hi:PE X i ti) (hs:NoSl i):PE X (.Subscript o i pos) (tOp (rGetDD X.w) to ti):=
 ⟨fun pins now σ H Q inv wish=>subD_of PySem.F.slot_dict_getitem.lookup hs (thn (ho.run pins now σ H _ inv wish) fun v mid ⟨x,H1,J,rx,rest⟩=>
  thn (hi.run pins mid σ H1 _ J rest) fun iv last ⟨y,H2,L,ry,a,b,xs,k,c,u,v',ex,ey,hr,hk,kb,ea,rv,q⟩=>by
   subst ex ey
   cases (show v=Value.ref a from rx)
   cases (show iv=Value.ref b from ry)
   obtain⟨hd,_,dd⟩:=dkO_of L.hok hr hk
   exact⟨dd.typeIs,wpAny_getItem_heap (nroom hu) (kb _ _ _ L.hok) dd ea ⟨v',H2,L.tok _,rv,q⟩⟩)⟩
def rSetDD (w:World):TSet:=fun o i v H Q=>∃a b xs k,o=.ref a∧i=.ref b∧H a=some (DkO w a xs)∧(∀x∈xs,KeyH H x.1 x.2.1)∧KeyH H k b∧xs.length<sizeLine∧∀u,RelV v u→Q (upd H a (DkO w a (storedH xs k b u)))
theorem set_DD {X:Cx} (hu:X.A.units+65<cLine):PSet X (rSetDD X.w):=by
 intro pins s σ H o i v ov iv u Q I ro ri rv ⟨a,b,xs,k,eo,ei,hr,hk,kb,hz,q⟩
 subst eo ei
 cases (show ov=Value.ref a from ro)
 cases (show iv=Value.ref b from ri)
 obtain⟨hd,hl,dd⟩:=dkO_of I.hok (.inl hr) hk
 have hl2:(storedH xs k b u).length≤sizeLine:=by
  unfold storedH
  split <;> simp <;> omega
 refine wpAny_setItem_heap (hsz:=hl) (nroom hu) (kb _ _ _ I.hok) dd fun h' dd' sb=>?_
 have he:∃q,h'.get? a=some q:=let ⟨q,_,_,hq,_⟩:=dd';⟨q,hq⟩
 exact⟨_,d_write I (by rw[hr];exact True.intro) sb he (dkO_new hd hl2 dd'),q u rv⟩
def ddOf (w:W):M (List D×List D):=fun st=>match w with
 | .val (.dd ks us)=>.ok (ks,us) st
 | .bdd ks us=>.ok (ks,us) st
 | .val (.ref k)=>match st[k]? with
  | some (.ddi ks us)=>.ok (ks,us) st
  | some (.rdd ks us)=>.ok (ks,us) st
  | _=>.bad
 | _=>.bad
section
variable {α β:Type} {G:G3} {X:Hex} {B:Addr→Prop} {s:S3} {st:Store} {R:S3→α→β→Prop} {E:XK} {Q:β→Hp→Prop}
theorem Post.of_dd {w:M3.W} {v:V} {f:List D×List D→M α} (wd:Wd G B st s) (r:RepW G X B s w v) (h:Post G B R E s Q (M.bind (ddOf w) f st)) :
  ∃ks us a xs,ddOf w st=.ok (ks,us) st∧v=.ref a∧RdD s.H a (DkO G.w a xs)∧DkR G.R s.F s.io ks us xs∧Post G B R E s Q (f (ks,us) st):=by
 cases w with
 | val d=>
  cases d with
  | dd ks us=>
   cases r with
   | dd hF hk ht hv hr=>exact⟨ks,us,_,_,rfl,rfl,.inr (.inl ⟨_,wd.sub _ _ hF⟩),⟨hk,ht,_,hv,hr⟩,h⟩
  | ref k=>
   unfold M.bind ddOf at h
   cases e:st[k]? with
   | none=>simp only[e] at h;exact h.elim
   | some o=>
    cases o with
    | ddi ks us=>
     simp only[e] at h
     cases r with
     | ref eio=>
      obtain⟨a,e1,b1,f1,xs,o1,o2⟩:=wd.obj _ _ e rfl
      rw[eio] at e1
      cases e1
      exact⟨ks,us,_,xs,by unfold ddOf;simp only[e],rfl,.inl o1,o2,h⟩
    | rdd ks us=>
     simp only[e] at h
     cases r with
     | ref eio=>
      obtain⟨a,e1,od,xs,o1,o2⟩:=wd.unt _ _ e rfl
      rw[eio] at e1
      cases e1
      exact⟨ks,us,_,xs,by unfold ddOf;simp only[e],rfl,.inr (.inr ⟨od,wd.sub _ _ o1⟩),o2,h⟩
    | _=>simp only[e] at h;exact h.elim
  | _=>exact h.elim
 | bdd ks us=>
  obtain⟨p,xs,rfl,_,hp,hr⟩:=r
  exact⟨ks,us,p,xs,rfl,rfl,.inl hp,hr,h⟩
 | _=>exact h.elim
end
def eInDD (neg:Bool) (mk md:EM):EM:=fun u=>M.bind (mk u) fun k=>M.bind (md u) fun d=>M.bind (M.of k.d) fun kd=>M.bind (M.of kd.tk) fun x=>M.bind (ddOf d) fun q=>M.pure (.val (.bl (if neg then !ddHas q.1 x else ddHas q.1 x)))
def eGetDD (md mk:EM):EM:=fun u=>M.bind (md u) fun d=>M.bind (mk u) fun k=>M.bind (M.of k.d) fun kd=>M.bind (M.of kd.tk) fun x=>M.bind (ddOf d) fun q=>M.bind (M.of (ddAt q.1 q.2 x)) fun y=>M.pure (.val y)
theorem d_val {w:W} {d:D} (e:w.d=some d):w=.val d:=by cases w <;> cases e;rfl
section
variable {P:P3} {pos:Pos} {a b:Expr} {ma mb:EM}
theorem me_getDD (hu:P.X.A.units+65<cLine) (ha:ME P a ma) (hb:ME P b mb) (hs:NoSl b:=by intro _ _;rfl):ME P (.Subscript a b pos) (eGetDD ma mb):=by
 obtain⟨ta,pa,ha⟩:=ha.out
 obtain⟨tb,pb,hb⟩:=hb.out
 refine ME.mk' (pe_getDD hu pa pb hs) fun B0 B s st u z Q wd sl hp=>ha B0 B s st u z _ wd sl (Post.bind hp fun w1 st1 s1 v1 l1 wd1 r1 h1=>?_)
 refine hb B0 B s1 st1 u z _ wd1 (sl.mono l1) (Post.bind h1 fun w2 st2 s2 v2 l2 wd2 r2 h2=>?_)
 obtain⟨kd,ek,h3⟩:=Post.of_of h2
 obtain⟨x,ex,h4⟩:=Post.of_of h3
 obtain⟨ks,us,c,xs,_,rfl,hr,dr,h5⟩:=Post.of_dd wd2 (r1.mono l2) h4
 obtain⟨y,ey,h6⟩:=Post.of_of h5
 clear h2 h3 h4 h5
 obtain rfl:=d_val ek
 obtain⟨bb,rfl,kb⟩:=tk_ok (H:=s2.H) wd2.sub r2 ex
 obtain⟨cc,uu,v,e1,e2,e3⟩:=(dd_at (x:=x) dr).1 y ey
 exact⟨c,bb,xs,x,cc,uu,v,rfl,rfl,by rw[P.hw];exact hr,dr.keyH wd2.sub,kb,e1,e2,h6.pure wd2 e3⟩
end
end M3
namespace M3
open PySem PySem.Spec PyProof.Rows L2
def ItkD (w:World) (d:Addr) (o:Obj) (xs:DkX):It where
 go i H:=H d=some (.frz o (DkO w d xs))∧i<xs.length
 yld i H x H':=H'=H∧∃y,xs[i]?=some y∧x=.ref y.2.1
 stop i H:=H d=some (.frz o (DkO w d xs))∧xs.length≤i
theorem frzDD {X:Cx} {pins:List (Addr×Obj)} {σ:L2.St} {H:Hp} {s:Shared} {d:Addr} {o:Obj} {xs:DkX} (I:Inv X pins σ H s) (h:H d=some (.frz o (DkO X.w d xs))) :
  (d == sysModules)=false∧s.heap.get? d=some o∧o.ExactDict∧∃(es:Array DictEntry) (ep:Nat),o.data=.dict es ep∧es.size=xs.length∧∀(i:Nat) (y:NestedKey×Addr×Value),xs[i]?=some y→∃en:DictEntry,es[i]?=some en∧en.key=.ref y.2.1:=by
 obtain⟨hd,⟨h1,h2,h3,o',es,ep,g1,g2,g3,g4⟩,_,_⟩:=I.hok d _ h
 rw[hd] at g1
 cases g1
 refine⟨h1,hd,g2,es,ep,g3,by rw[←Array.length_toList,g4,List.length_map],fun i y hy=>?_⟩
 exact⟨_,by rw[←Array.getElem?_toList,g4,List.getElem?_map,hy];rfl,rfl⟩
theorem turn_DD {P:Program} {w:World} {K:PySem.W.Frag} {tg:Expr} {d:Addr} {o:Obj} {es:Array DictEntry} {ep:Nat} {xs:DkX} (it:Addr) (hod:o.data=.dict es ep) :
  Turn P w K tg (ItkD w d o xs) [it] it (fun i h=>h.IsKeyIter it d i xs.length ep):=by
 have T:=turn_keys (P:=P) (w:=w) (K:=K) (tg:=tg) (d:=d) (kvs:=xs.map fun _=>((.inl 0:Key),V.non)) it hod
 rw[List.length_map] at T
 refine⟨T.mem,T.obj,T.keep,?_,?_,T.self⟩
 ·intro X eP eW eK calm i pins now σ H E I fp st ⟨hd,hi⟩
  subst eP eW eK
  obtain⟨f0,f1,f2,f3,f4,f5⟩:=fp it List.mem_cons_self
  obtain⟨_,hg,_,es',ep',e1,e2,ent⟩:=frzDD I hd
  obtain⟨rfl,rfl⟩:=dict_ep hod e1
  have hy:xs[i]?=some xs[i]:=List.getElem?_eq_getElem hi
  obtain⟨en,h1,h2⟩:=ent i _ hy
  refine next_key_item st hg hod e2 h1 fun h' st' sb=>⟨en.key,rfl,?_⟩
  obtain⟨oi,q1,q2,q3⟩:=id st'
  refine go_of (s:={ now with heap:=h' }) q1 q2 q3 (by decide) ⟨.ref xs[i].2.1,H,I.turned (t':=now.toks) (fun b ob hb e=>(sb.2 b hb).trans e) f0 f1 f3 f4 f5,h2,⟨rfl,_,hy,rfl⟩,st',fun b hb=>(fp b hb).1⟩
 ·intro X eP eW eK calm i pins now σ H E I fp st ⟨hd,hi⟩
  subst eP eW eK
  obtain⟨f0,f1,f2,f3,f4,f5⟩:=fp it List.mem_cons_self
  obtain⟨_,hg,_,es',ep',e1,e2,ent⟩:=frzDD I hd
  obtain⟨rfl,rfl⟩:=dict_ep hod e1
  exact keyStop (calm.but I (fp it List.mem_cons_self)) st hg hod e2 hi fun h' eb=>⟨rfl,I.turned (t':=now.toks) (fun b ob hb e=>eb b ob hb e) f0 f1 f3 f4 f5⟩
def iKeysDDr (w:World) (td:TE):TI:=fun σ H R=>td σ H fun x H1=>∃d o xs,x=.ref d∧H1 d=some (.frz o (DkO w d xs))∧R (ItkD w d o xs) H1
theorem pi_keysDD {X:Cx} {tg e:Expr} {td:TE} (he:PE X e td):PI X tg e (iKeysDDr X.w td):=
 ⟨fun pins now σ H R inv wish=>thn (he.run pins now σ H _ inv wish) fun v mid ⟨x,H1,J,rx,d,o,xs,ex,hd,q⟩=>by
  subst ex
  cases (show v=Value.ref d from rx)
  obtain⟨h1,hg,hx,es,ep,e1,e2,ent⟩:=frzDD J hd
  exact iter_keys h1 hg hx e1 (pi_one (tk:=mid.toks) J _ (turn_DD _ e1) ⟨_,Heap.get?_push_size _ rfl,rfl,by rw[e2];rfl⟩ q)⟩
def iKeysDD (m:EM):FM:=fun u=>M.bind (m u) fun w=>match w with
 | .val (.dd ks _)=>M.pure ks
 | _=>M.bad
theorem mi_keysDD {P:P3} {tg e:Expr} {m:EM} (he:ME P e m):MI P tg e (iKeysDD m):=by
 obtain⟨t,pt,ht⟩:=he.out
 refine MI.mk' (pi_keysDD pt) fun B0 B s st u z R wd sl h=>ht B0 B s st u z _ wd sl (Post.bind h fun w st1 s1 v l1 wd1 r1 h1=>?_)
 cases w with
 | val d=>
  cases d with
  | dd ks us=>
   cases r1 with
   | @dd _ _ p od xs vs hF hk ht hv hr=>
    refine⟨p,od,xs,rfl,by rw[P.hw];exact wd1.sub _ _ hF,h1 s1 _ (Le.refl _) wd1 ?_⟩
    have ln:ks.length=xs.length:=by have:=hk.length;simpa using this
    refine⟨fun s' io ff sb i hi=>⟨by rw[P.hw];exact sb _ _ (ff _ _ hF),by omega⟩,?_,fun s' io ff sb i hi=>⟨by rw[P.hw];exact sb _ _ (ff _ _ hF),by omega⟩⟩
    rintro s' io ff sb i x H' hi ⟨rfl,y,hy,rfl⟩
    obtain⟨d,e1,e2⟩:=hk.get' (i:=i) (v:=.ref y.2.1) (by rw[List.getElem?_map,hy];rfl)
    exact⟨rfl,d,e1,e2.mono ff io⟩
  | _=>exact h1.elim
 | _=>exact h1.elim
theorem upd2 {H:Hp} {p:Addr} {a b:HO}:upd (upd H p a) p b=upd H p b:=upd_upd
theorem pe_newDD {X:Cx} {pos:Pos}:PE X (.Dict [] [] pos) (fun _ H Q=>∀p,H p=none→Q (.ref p) (upd H p (DkO X.w p []))):=
 ⟨fun pins now σ H Q inv wish=>thn (pe_dnewK.run pins now σ H (fun v H'=>∃p,v=.ref p∧H p=none∧H'=upd H p (.dK [])) inv fun p hp=>⟨p,rfl,hp,rfl⟩) fun v mid ⟨x,H1,J,rx,p,ex,hp,eH⟩=>by
  subst ex eH
  obtain⟨z,hd,vs,rel,o,es,ep,g1,g2,g3,_,g5,_⟩:=dk_of (a:=p) J.hok upd_same
  have hv:vs=[]:=by cases rel;rfl
  subst hv
  have hes:es.toList=[]:=by generalize es.toList=l at g5;cases g5;rfl
  have J2:=d_write (a:=p) (h':=mid.heap) (t':=mid.toks) (ob:=DkO X.w p []) J (by rw[upd_same];exact True.intro) ⟨rfl,fun _ _=>rfl⟩ ⟨o,g1⟩ (dkO_new hd (by simp) ⟨o,es,ep,g1,g2,g3,by rw[hes];rfl,by simp,List.nodup_nil⟩)
  rw[upd2] at J2
  exact⟨.ref p,_,J2,rx,wish p hp⟩⟩
def sOwnDD (i:Nat):SM:=fun u st=>.nx (u.set i (some (.bdd [] []))) st
def eNewDD:EM:=fun _ st=>.ok (.val (.ref st.length)) (st++[.ddi [] []])
theorem dkR_nil {K:KW} {F:Hp} {io:Io}:DkR K F io [] [] []:=⟨.nil,rfl,[],.nil,.nil⟩
section
variable {P:P3} {pos:Pos}
theorem ms_ownDD (i:Nat) {x:Str} {p dp:Pos} (hN:P.X.N.Nodup) (hi:P.X.N[i]?=some x:=by rfl) (hx:Loc P.X.env.scope x:=by first | exact Or.inl rfl | exact Or.inr rfl) (hs:swapsWith (.Dict [] [] dp) (some (.Name x p)) pos.line P.X.env=pure false:=by rfl)
  (hf:P.X.fn x=true∨P.X.env.scope.names.lookup x=some .local:=by first | exact .inl rfl | exact .inr rfl | assumption):MS P (.Assign [.Name x p] (.Dict [] [] dp) pos) (sOwnDD i):=by
 refine MS.mk' (ps_set hN hi hx pe_newDD hs hf) fun B0 B s o u z D b0 wd sl h=>fun p hp=>?_
 rw[P.hw]
 obtain⟨w2,l2⟩:=own_wd (ho:=DkO P.G.w p []) wd hp
 have nb:=wd.freshB hp
 exact h (plus B p) ⟨s.io,s.F,upd s.H p (DkO P.G.w p [])⟩ _ (fun a q=>.inl (b0 a q)) (l2.less b0) w2 ((sl.mono' l2).ownW (w0:=.bdd [] []) nb (fun q=>nb (b0 p q)) ⟨p,[],rfl,.inr rfl,upd_same,dkR_nil⟩ i)
theorem me_newDD:ME P (.Dict [] [] pos) eNewDD:=by
 refine ME.mk' pe_newDD fun B0 B s st u z Q wd sl h=>fun p hp=>?_
 rw[P.hw]
 obtain⟨w2,l2,e2⟩:=wd.newO (o:=.ddi [] []) (H':=upd s.H p (DkO P.G.w p [])) hp (same_upd hp) ⟨[],upd_same,dkR_nil⟩
 exact h _ _ l2 w2 (.ref e2)
def sFrzDD (i:Nat):SM:=fun u st=>match u[i]? with
 | some (some (.bdd ks us))=>.nx (u.set i (some (.val (.dd ks us)))) st
 | _=>.bad
theorem ms_frzDD {st:Stmt} {m:SM} (i:Nat) (h:MS P st m):MS P st (sSeq (sFrzDD i) m):=by
 obtain⟨t,pt,ht⟩:=h.out
 refine MS.mk' (ps_lockOn pt) fun B0 B s o u z D b0 wd sl h=>?_
 have eu:∃ks us,u[i]?=some (some (.bdd ks us))∧PostS P.G P.hx P.wx B0 s D (m (u.set i (some (.val (.dd ks us)))) o):=by
  unfold sSeq sFrzDD at h
  cases eu:u[i]? with
  | none=>rw[eu] at h;exact h.elim
  | some ow=>
   rw[eu] at h
   cases ow with
   | none=>exact h.elim
   | some w=>
    cases w with
    | bdd ks us=>exact⟨ks,us,rfl,h⟩
    | _=>exact h.elim
 obtain⟨ks,us,eu,h⟩:=eu
 obtain⟨p,ez,bp,nb,⟨p',xs,e',_,hp,dr⟩,fz⟩:=sl.frzG b0 wd eu rfl
 cases e'
 refine .inr ⟨p,_,hp,True.intro,fun od=>?_⟩
 have hF:=(wd.hid p bp).1
 have dr':=dr.mono (F':=upd s.F p (.frz od (DkO P.G.w p xs))) (same_upd hF) (IoLe.refl _)
 obtain⟨vs,hv,hr⟩:=dr'.vals
 obtain⟨B',s',eH,b',le,wd',sl'⟩:=fz (.frz od (DkO P.G.w p xs)) (.dd ks us) (by exact⟨fun _ q=>(by cases q),fun _ _ q=>(by first | exact dkO_code q | exact cellO_code q | (unfold LamX.CodeO at q;cases q))⟩) (.dd upd_same dr'.keys dr'.tk hv hr)
 rw[←eH]
 exact ht B0 B' s' o _ z D b' wd' sl' (PostS.mono le h)
def sSetDD (i:Nat) (mi me:EM):SM:=fun u st=>match u[i]? with
 | some (some (.bdd ks us))=>match me u st with
  | .ok (.val d) st1=>match mi u st1 with
   | .ok (.val k) st2=>match k.tk with
    | some x=>if ks.length<1000000 then .nx (u.set i (some (.bdd (ddPut ks us k x d).1 (ddPut ks us k x d).2))) st2 else .bad
    | none=>.bad
   | .err c x st2=>.err c x u st2
   | _=>.bad
  | .err c x st1=>.err c x u st1
  | _=>.bad
 | _=>.bad
theorem ms_setDD (i:Nat) {x:Str} {px ipos:Pos} {ei e:Expr} {mi me:EM} (hu:P.X.A.units+65<cLine) (hi:ME P ei mi) (he:ME P e me) (hN:P.X.N[i]?=some x:=by rfl) (hv:Vis P.X.env.scope x:=by first | exact Or.inl rfl | exact Or.inr (Or.inl rfl) | exact Or.inr (Or.inr rfl)) (hd:(x == ("__debug__" : Str))=false:=by decide)
  (hcd:(x == ("__classdict__" : Str))=false:=by decide)
  (ha:SubParts P.X (.Name x px) ei ipos:=by intro _;rfl)
  (hs:swapsWithSole [.Subscript (.Name x px) ei ipos] e pos.line P.X.env=pure false:=by rfl) (hw:swappedStores [.Subscript (.Name x px) ei ipos] e P.X.env=pure none:=by rfl)
  (h1:(assignEach [.Subscript (.Name x px) ei ipos] P.X.env).map (·.2)=[assign (.Subscript (.Name x px) ei ipos) P.X.env]:=by rfl) :
  MS P (.Assign [.Subscript (.Name x px) ei ipos] e pos) (sSetDD i mi me):=by
 obtain⟨t,pt,ht⟩:=he.out
 obtain⟨ti,pi,hti⟩:=hi.out
 refine MS.mk' (ps_asg pt (pg_sub (pe_var hN hv hd hcd) pi (set_DD hu) ha) hs hw h1) fun B0 B s o u z D b0 wd sl h=>ht B0 B s o u z _ wd sl ?_
 unfold sSetDD at h
 split at h
 ·rename_i ks us eu
  obtain⟨p,ez,bp,nb,_,_⟩:=sl.changeW wd eu rfl
  cases e:me u o with
  | bad=>rw[e] at h;exact h
  | err c x st'=>rw[e] at h;exact fun s' cv dd l w q=>h B s' z cv dd b0 (l.less b0) w (sl.mono' l) q
  | ok w st1=>
   rw[e] at h
   cases w with
   | val d=>
    dsimp only at h
    intro s1 v l1 wd1 r1
    refine⟨.ref p,ez,hti B0 B s1 st1 u z _ wd1 (sl.mono' l1) ?_⟩
    cases e3:mi u st1 with
    | bad=>rw[e3] at h;exact h
    | err c x st'=>rw[e3] at h;exact fun s' cv dd l w q=>h B s' z cv dd b0 ((l1.trans l).less b0) w (sl.mono' (l1.trans l)) q
    | ok w2 st2=>
     rw[e3] at h
     cases w2 with
     | val kd=>
      dsimp only at h
      cases ek:kd.tk with
      | none=>rw[ek] at h;exact h.elim
      | some k=>
       rw[ek] at h
       dsimp only at h
       by_cases hz:ks.length<1000000
       ·rw[if_pos hz] at h
        intro s2 v2 l2 wd2 r2
        obtain⟨p',ez',bp',nb',⟨p2,xs,ep2,_,hp,dr⟩,ch⟩:=(sl.mono' (l1.trans l2)).changeW wd2 eu rfl
        rw[ez] at ez'
        cases ez'
        cases ep2
        obtain⟨b,eb,kb⟩:=tk_ok (H:=s2.H) wd2.sub r2 ek
        subst eb
        refine⟨p,b,xs,k,rfl,rfl,by rw[P.hw];exact hp,dr.keyH wd2.sub,kb,by rw[←(dd_len dr).1];exact szl hz,fun uv ruv=>?_⟩
        obtain⟨sl3,w3,l3⟩:=ch (.bdd (ddPut ks us kd k d).1 (ddPut ks us kd k d).2) (DkO P.G.w p (storedH xs k b uv)) rfl ⟨p,_,rfl,bp,upd_same,dd_put ek r2 ruv (Rep.mono l2.fr l2.io r1) dr⟩
        rw[P.hw]
        exact h B _ z b0 (((l1.trans l2).less b0).trans l3) w3 sl3
       ·rw[if_neg hz] at h;exact h.elim
     | _=>exact h.elim
   | _=>exact h.elim
 ·exact h.elim
end
end M3
namespace M3
open PySem PySem.Spec PyProof.Rows L2
abbrev StepD:=Addr→V→V→Hp→(Hp→Prop)→Prop
def StoresD (P:Program) (w:World) (A:Around) (put:StepD):Prop:=∀(Y:Cx),Y.prog=P→Y.w=w→∀(pins:List (Addr×Obj)) (σ:L2.St) (H:Hp) (s:Shared) (D:Addr) (y z:V) (u r:Value) (Nx:Hp→Prop) (Q:Unit→Shared→Prop) (E:Value→Shared→Prop),
 Inv Y pins σ H s→RelV y u→RelV z r→put D y z H Nx→(∀H' s',Inv Y pins σ H' s'→Nx H'→Q () s')→wpAny (model P w) A (dictSet D u r) Q E s
section
variable {X:Cx}
def turnD (J:It) (g:TG) (tt:TT) (tk tv:TE) (put:StepD) (σ:L2.St) (own:List Nat) (D:Addr) (W:Nat→Nat→Hp→Prop) (i m:Nat) (H:Hp):Prop:=
 J.go i H∧∃Nx:Hp→Prop,(∀H',Nx H'→∃m',m'<m∧W (i+1) m' H')∧∀x H',J.yld i H x H'→g x (wipe σ own) H' fun σ2 H2=>wipe σ2 own=wipe σ own∧tt σ2 H2 fun b H3=>
  if b=true then tk σ2 H3 fun y H4=>tv σ2 H4 fun z H5=>put D y z H5 Nx else Nx H3
def tDcG (o0:Addr→HO) (put:StepD) (wi:TI) (g:TG) (tt:TT) (tk tv:TE) (own:List Nat):TE:=fun σ H Q=>wi σ H fun J H1=>∀D,H1 D=none→
 ∃W:Nat→Nat→Hp→Prop,(∃m,W 0 m (upd H1 D (o0 D)))∧∀i m H,W i m H→(J.stop i H∧Q (.ref D) H)∨turnD J g tt tk tv put σ own D W i m H
abbrev laidD (s:Shared):Shared:={ s with heap:=s.heap.push { cls:=.type "dict",data:=.dict #[] } }
theorem pe_dcG {o0:Addr→HO} {put:StepD} {kx vx tg iter:Expr} {ifs:List Expr} {scope:Scope} {own:List (Str×Nat)} {pos:Pos} {wi:TI} {g:TG} {tt:TT} {tk tv:TE}
  (h0:∀(h:Heap) (H':Hp),sysModules<h.objs.size→ObjOk X.prog X.w H' (h.push { cls:=.type "dict",data:=.dict #[] }) h.objs.size (o0 h.objs.size)) (hput:StoresD X.prog X.w X.A put)
  (calm:Cool X) (nd:X.N.Nodup) (hi:PI X tg iter wi) (ok:BlkOk X.N X.env.scope scope own) (hg:InBlk X scope fun Y=>PG Y tg g) (hc:InBlk X scope fun Y=>PTs Y ifs tt) (hkey:InBlk X scope fun Y=>PE Y kx tk) (hval:InBlk X scope fun Y=>PE Y vx tv)
  (nofold:∀x,foldedSetIterable iter X.env x=pure x:=by intro _;rfl):PE X (.DictComp kx vx [⟨tg,iter,ifs,0⟩] scope pos) (tDcG o0 put wi g tt tk tv (own.map (·.2))):=by
 constructor
 intro pins s z H Q I h
 rw[arm_eval_DictComp]
 refine wpAny_comprehension_free (use:=none) rfl nofold (closure_ok fun y hy e=>I.ok.has _ (ok.free y hy e)) ok.kind (fun y hy e=>(ok.uniq y hy).trans (congrArg some e)) (thn (hi.run pins s z H _ I h) fun _ s1 h1=>thn h1 ?_)
 rintro _ s2 ⟨it,fp,tn,J,H2,rfl,I2,T,st2,f2,q⟩
 refine wpAny_newObj_type (newEnv_comp ?_)
 obtain⟨W,⟨m0,w0⟩,turn⟩:=q s2.heap.objs.size (I2.hok.fresh (Nat.le_refl _))
 have O:=comp_open (ho:=o0 s2.heap.objs.size) (ob:={ cls:=.type "dict",data:=.dict #[] }) calm nd ok I2 T st2 f2 fun H'=>h0 s2.heap H' I2.big
 have gG:=InBlk.at hg (laidD s2) (upd H2 s2.heap.objs.size (o0 s2.heap.objs.size)) fp O.cools
 have gT:=InBlk.at hc (laidD s2) (upd H2 s2.heap.objs.size (o0 s2.heap.objs.size)) fp O.cools
 have gK:=InBlk.at hkey (laidD s2) (upd H2 s2.heap.objs.size (o0 s2.heap.objs.size)) fp O.cools
 have gV:=InBlk.at hval (laidD s2) (upd H2 s2.heap.objs.size (o0 s2.heap.objs.size)) fp O.cools
 refine(show codeAny _ _ (.compStart (.DictComp kx vx [⟨tg,iter,ifs,0⟩] scope pos) 0 (.ref it) (.ref s2.heap.objs.size) (blkEnv X scope (laidD s2))) (compPost _ _ _ none _ (.ref s2.heap.objs.size) (laidD s2).heap.objs.size) (blkFirst scope (laidD s2)) from ?_)
 revert O gG gT gK gV w0 turn
 show (∀i m H,W i m H→_)→W 0 m0 (upd H2 s2.heap.objs.size (o0 s2.heap.objs.size))→Opened X pins z scope own fp tn (laidD s2) (upd H2 s2.heap.objs.size (o0 s2.heap.objs.size)) (blkEnv X scope (laidD s2)) (blkFirst scope (laidD s2))→_
 generalize upd H2 s2.heap.objs.size (o0 s2.heap.objs.size)=Hd
 generalize s2.heap.objs.size=D
 generalize laidD s2=start
 generalize blkEnv X scope start=ce
 generalize blkFirst scope start=first
 intro turn w0 O gG gT gK gV
 refine(fun loop=>codeAny_compStart_dict loop (T.self X.A 0 _ _ _ O.st loop)) ?_
 refine compLoop_anyD (fun n now=>∃i H',(Inv (X.blk start Hd scope ce fp) [] (wipe z (own.map (·.2))) H' now∧tn i now.heap∧∀b∈fp,H' b=none)∧W i n H') (fun n s5=>?_) m0 ⟨0,Hd,⟨O.ins,O.st,O.clear⟩,w0⟩
 rintro⟨i,H5,⟨I5,st5,n5⟩,w5⟩
 rcases turn i n H5 w5 with⟨stop,qq⟩ | ⟨go,Nx,hNx,step⟩
 ·refine thnF (T.done (X.blk start Hd scope ce fp) rfl rfl rfl O.cool i [] s5 _ H5 (fun _ _=>False) I5 (O.foot I5 n5) st5 stop) ?_
  rintro _ s6 ⟨rfl,I6⟩
  obtain⟨I7,⟨m,hn⟩,fC⟩:=O.back I6
  exact out_val I7 qq hn fC
 ·refine thnF (T.item (X.blk start Hd scope ce fp) rfl rfl rfl O.cool i [] s5 _ H5 (fun _ _=>False) I5 (O.foot I5 n5) st5 go) ?_
  rintro _ s6 ⟨u,rfl,h6⟩
  refine thnF h6 fun _ s7 ⟨x,H7,I7,r7,y7,st7,n7⟩=>?_
  refine thnF (gG.run _ s7 _ H7 x u _ (I7.pinned (O.foot I7 n7) (T.obj _ _ st7)) r7 (step x H7 y7)) fun _ s8 ⟨z8,H8,I8,same,q8⟩=>?_
  have fin:∀{s':Shared} {H':Hp},Inv (X.blk start Hd scope ce fp) ([]++pinsAt fp s7.heap) z8 H' s'→Nx H'→∃m,m<n∧∃i H',(Inv (X.blk start Hd scope ce fp) [] (wipe z (own.map (·.2))) H' s'∧tn i s'.heap∧∀b∈fp,H' b=none)∧W i m H':=fun {s' H'} I' nx=>
   have ⟨m',less,w'⟩:=hNx H' nx
   ⟨m',less,i+1,H',Turn.next (X:=X.blk start Hd scope ce fp) T st7 I' (wiped same).1 (wiped same).2,w'⟩
  refine thnF (gT.run _ s8 z8 H8 _ I8 q8) fun b s9 ⟨H9,I9,q9⟩=>?_
  cases b with
  | false=>rw[if_neg Bool.false_ne_true] at q9⊢;exact fin I9 q9
  | true=>
   rw[if_pos rfl] at q9⊢
   refine thnF (gK.run _ s9 z8 H9 _ I9 q9) fun v s10 ⟨yk,H10,I10,r10,q10⟩=>?_
   refine thnF (gV.run _ s10 z8 H10 _ I10 q10) fun v2 s11 ⟨yv,H11,I11,r11,q11⟩=>?_
   exact hput (X.blk start Hd scope ce fp) rfl rfl _ _ _ _ _ _ _ _ _ _ _ _ I11 r10 r11 q11 fun H' s' I' nx=>fin I' nx
end
def putDD (w:World):StepD:=fun D y z H Nx=>∃b xs k,y=.ref b∧H D=some (DkO w D xs)∧(∀x∈xs,KeyH H x.1 x.2.1)∧KeyH H k b∧xs.length<sizeLine∧∀u,RelV z u→Nx (upd H D (DkO w D (storedH xs k b u)))
theorem stores_DD {P:Program} {w:World} {A:Around} (hu:A.units+65<cLine):StoresD P w A (putDD w):=by
 rintro Y eP eW pins σ H s D y z u r Nx Q E I ry rz ⟨b,xs,k,rfl,hD,hk,kb,hz,nx⟩ fin
 subst eP eW
 cases (show u=Value.ref b from ry)
 obtain⟨hd,hl,dd⟩:=dkO_of I.hok (.inl hD) hk
 refine wpAny_dictSet_heap (hsz:=hl) (show A.units+8<cLine by omega) (kb _ _ _ I.hok) dd fun h' dd' sb=>?_
 have hl2:(storedH xs k b r).length≤sizeLine:=by
  unfold storedH
  split <;> simp <;> omega
 exact fin _ _ (d_write I (by rw[hD];exact True.intro) sb (let ⟨q,_,_,hq,_⟩:=dd';⟨q,hq⟩) (dkO_new hd hl2 dd')) (nx r rz)
theorem new_DD {P:Program} {w:World} (h:Heap) (H':Hp) (big:sysModules<h.objs.size):ObjOk P w H' (h.push { cls:=.type "dict",data:=.dict #[] }) h.objs.size (DkO w h.objs.size []):=
 dkO_new (by rw[beq_eq_false_iff_ne];exact Nat.ne_of_gt big) (by simp) (Heap.DictOfH.new h)
end M3
namespace M3
open PySem PySem.Spec PyProof.Rows L2
def dcL (g:GM) (c:TM) (ek ev:EM) (u0:Sl3):List D→List D→List D→M (List D×List D)
 | [],ks,us=>M.pure (ks,us)
 | d :: ds,ks,us=>M.bind (M.of (g d u0)) fun u1=>M.bind (M.quiet (c u1)) fun b=>
  if b=true then M.bind (M.quiet (ek u1)) fun kw=>M.bind (M.quiet (ev u1)) fun vw=>M.bind (M.of kw.d) fun k=>M.bind (M.of vw.d) fun v=>M.bind (M.of k.tk) fun x=>M.bind (M.chk (ks.length<1000000)) fun _=>
   dcL g c ek ev u0 ds (ddPut ks us k x v).1 (ddPut ks us k x v).2
  else dcL g c ek ev u0 ds ks us
def eDc (mi:FM) (g:GM) (c:TM) (ek ev:EM) (own:List Nat):EM:=fun u=>M.bind (mi u) fun ds=>M.bind (dcL g c ek ev (wipe3 u own) ds [] []) fun q=>M.pure (.val (.dd q.1 q.2))
section
variable {P:P3} {pos:Pos}
theorem of_quietE {α β:Type} {m:M α} {f:α→M β} {st:Store} {γ:Type} {R:S3→β→γ→Prop} {G:G3} {B:Addr→Prop} {E:XK} {s:S3} {Q:γ→Hp→Prop} (h:Post G B R E s Q (M.bind (M.quiet m) f st)):∃a st',m st=.ok a st'∧Post G B R E s Q (f a st'):=by
 unfold M.bind M.quiet at h
 cases e:m st with
 | ok a st'=>rw[e] at h;exact⟨a,st',rfl,h⟩
 | err c x st'=>rw[e] at h;exact h.elim
 | bad=>rw[e] at h;exact h.elim
theorem me_dc {kx vx tg iter:Expr} {ifs:List Expr} {scope:Scope} {own:List (Str×Nat)} {mi:FM} {g:GM} {gs:List Nat} {c:TM} {mk mv:EM} (hu:P.X.A.units+65<cLine) (hc:Cool P.X) (hN:P.X.N.Nodup) (hi:MI P tg iter mi) (ok:BlkOk P.X.N P.X.env.scope scope own)
  (hg:∀(s:Shared) (H:Hp) (C:Addr) (cl:List (Str×Addr)) (fp:List Addr),CoolS P.X.A s H (frs P.X.stack) fp→MG (P.blk s H scope C cl fp) tg g gs) (ht:∀(s:Shared) (H:Hp) (C:Addr) (cl:List (Str×Addr)) (fp:List Addr),CoolS P.X.A s H (frs P.X.stack) fp→MIfs (P.blk s H scope C cl fp) ifs c)
  (hk:∀(s:Shared) (H:Hp) (C:Addr) (cl:List (Str×Addr)) (fp:List Addr),CoolS P.X.A s H (frs P.X.stack) fp→ME (P.blk s H scope C cl fp) kx mk) (hv:∀(s:Shared) (H:Hp) (C:Addr) (cl:List (Str×Addr)) (fp:List Addr),CoolS P.X.A s H (frs P.X.stack) fp→ME (P.blk s H scope C cl fp) vx mv)
  (hgs:∀i∈gs,i∈own.map (·.2):=by decide) (hs:∀x,foldedSetIterable iter P.X.env x=pure x:=by intro _;rfl) :
  ME P (.DictComp kx vx [⟨tg,iter,ifs,0⟩] scope pos) (eDc mi g c mk mv (own.map (·.2))):=by
 obtain⟨ti,pi,hti⟩:=hi.out
 refine ME.mk' (pe_lockOn (pe_dcG (own:=own) (o0:=fun p=>DkO P.X.w p []) (put:=putDD P.X.w) (g:=tG P.G P.hx g gs) (tt:=tT P.G P.hx noW c) (tk:=tE P.G P.hx noW mk) (tv:=tE P.G P.hx noW mv) (fun h H' big=>new_DD h H' big) (stores_DD hu) hc hN pi ok
  (fun s H C cl fp co=>(hg s H C cl fp co).pg) (fun s H C cl fp co=>(ht s H C cl fp co).pts) (fun s H C cl fp co=>(hk s H C cl fp co).pe) (fun s H C cl fp co=>(hv s H C cl fp co).pe) hs)) fun B0 B s st u z Q wd sl h=>?_
 refine hti B0 B s st u z _ wd sl (Post.bind h fun ds st1 s1 J l1 wd1 im h1=>?_)
 intro p hp
 rw[P.hw]
 obtain⟨wd2,l2⟩:=own_wd (ho:=DkO P.G.w p []) wd1 hp
 have nb:¬B p:=wd1.freshB hp
 have fin:∀(s':S3) (st':Store) (ks us:List D) (xs:DkX),Le B s1 s'→Wd P.G (plus B p) st' s'→s'.H p=some (DkO P.G.w p xs)→DkR P.G.R s'.F s'.io ks us xs→Post P.G B (RepW P.G P.hx B) (fun c d H=>P.wx c d z H) s' Q (M.pure (.val (.dd ks us)) st')→
   ∃d u,V.ref p=.ref d∧s'.H d=some u∧Mut (some u)∧∀od,Q (.ref p) (upd s'.H d (.frz od u)):=by
  intro s' st' ks us xs l' w' hq dr pf
  refine⟨p,_,rfl,hq,True.intro,fun od=>?_⟩
  have hF:=(w'.hid p (.inr rfl)).1
  have dr':=dr.mono (F':=upd s'.F p (.frz od (DkO P.G.w p xs))) (same_upd hF) (IoLe.refl _)
  obtain⟨vs,hv,hr⟩:=dr'.vals
  have wd1:Wd P.G B st' ⟨s'.io,upd s'.F p (.frz od (DkO P.G.w p xs)),upd s'.H p (.frz od (DkO P.G.w p xs))⟩:=freeze_wd (own_put w' nb _) nb upd_same
  exact pf ⟨s'.io,upd s'.F p (.frz od (DkO P.G.w p xs)),upd s'.H p (.frz od (DkO P.G.w p xs))⟩ (.ref p) ⟨IoLe.refl _,same_upd hF,fun a ba=>upd_ne fun y=>nb (y▸ba)⟩ wd1 (show Rep _ _ _ (.dd ks us) (.ref p) from .dd upd_same dr'.keys dr'.tk hv hr)
 refine⟨fun i n H'=>n=ds.length - i∧i≤ds.length∧∃(s':S3) (st':Store) (ks us:List D) (xs:DkX),s'.H=H'∧Le B s1 s'∧Wd P.G (plus B p) st' s'∧s'.H p=some (DkO P.G.w p xs)∧DkR P.G.R s'.F s'.io ks us xs∧
   Post P.G B (RepW P.G P.hx B) (fun c d H=>P.wx c d z H) s' Q (M.bind (dcL g c mk mv (wipe3 u (own.map (·.2))) (ds.drop i) ks us) (fun q=>M.pure (.val (.dd q.1 q.2))) st'),
  ⟨_,rfl,Nat.zero_le _,_,st1,[],[],[],rfl,l2,wd2,upd_same,dkR_nil,Post.mono l2 h1⟩,?_⟩
 rintro i n H' ⟨rfl,hi,s',st',ks,us,xs,rfl,l',w',hq,dr,pf⟩
 rcases Nat.lt_or_ge i ds.length with hlt | hge
 ·right
  refine⟨im.go s' l'.io l'.fr w'.sub i hlt,fun H2=>i+1≤ds.length∧∃(s':S3) (st':Store) (ks us:List D) (xs:DkX),s'.H=H2∧Le B s1 s'∧Wd P.G (plus B p) st' s'∧s'.H p=some (DkO P.G.w p xs)∧DkR P.G.R s'.F s'.io ks us xs∧
   Post P.G B (RepW P.G P.hx B) (fun c d H=>P.wx c d z H) s' Q (M.bind (dcL g c mk mv (wipe3 u (own.map (·.2))) (ds.drop (i+1)) ks us) (fun q=>M.pure (.val (.dd q.1 q.2))) st'),fun H2 q=>⟨_,by omega,rfl,q.1,q.2⟩,fun x H2 y=>?_⟩
  obtain⟨rfl,d,ed,rd⟩:=im.yld s' l'.io l'.fr w'.sub i x _ hlt y
  rw[List.drop_eq_getElem_cons hlt] at pf
  have ed':ds[i]=d:=by rw[List.getElem?_eq_getElem hlt] at ed;cases ed;rfl
  rw[ed'] at pf
  unfold dcL at pf
  have assoc:∀{α β γ:Type} (m:M α) (f:α→M β) (f2:β→M γ) (st:Store),M.bind (M.bind m f) f2 st=M.bind m (fun a=>M.bind (f a) f2) st:=fun m f f2 st=>by
   unfold M.bind
   cases m st <;> rfl
  rw[assoc] at pf
  obtain⟨u1,eg,pf⟩:=Post.of_of pf
  have slw:Slo P.G P.hx B0 (plus B p) s' (wipe3 u (own.map (·.2))) (L2.wipe z (own.map (·.2))):=((sl.mono' (l1.trans l')).more fun a b=>.inl b).wipe _
  refine⟨B0,plus B p,s',st',wipe3 u (own.map (·.2)),d,u1,rfl,w',slw,rd,eg,fun z2 sl2 b2=>⟨?_,?_⟩⟩
  ·rw[b2.wipe hgs,lc_ok.wipe_wipe]
  ·rw[assoc] at pf
   obtain⟨k,st3,ek,pf⟩:=of_quietE pf
   refine⟨B0,plus B p,s',st',u1,rfl,w',sl2,?_⟩
   rw[ek]
   intro s3 k' l3 w3 rk
   subst rk
   have hq3:s3.H p=some (DkO P.G.w p xs):=(l3.hid p (.inr rfl)).trans hq
   have dr3:=dr.mono l3.fr l3.io
   have pf:=Post.mono (plus_le l3) pf
   cases k with
   | false=>exact⟨hlt,s3,st3,ks,us,xs,rfl,l'.trans (plus_le l3),w3,hq3,dr3,pf⟩
   | true=>
    rw[if_pos rfl] at pf⊢
    rw[assoc] at pf
    obtain⟨kw,st4,ekw,pf⟩:=of_quietE pf
    refine⟨B0,plus B p,s3,st3,u1,rfl,w3,sl2.mono' l3,?_⟩
    rw[ekw]
    intro s4 v4 l4 w4 r4
    rw[assoc] at pf
    obtain⟨vw,st5,evw,pf⟩:=of_quietE pf
    refine⟨B0,plus B p,s4,st4,u1,rfl,w4,(sl2.mono' l3).mono' l4,?_⟩
    rw[evw]
    intro s5 v5 l5 w5 r5
    rw[assoc] at pf
    obtain⟨k,hk,pf1⟩:=Post.of_of pf
    clear pf
    rw[assoc] at pf1
    obtain⟨v,hv,pf2⟩:=Post.of_of pf1
    clear pf1
    rw[assoc] at pf2
    obtain⟨x,hx,pf3⟩:=Post.of_of pf2
    clear pf2
    rw[assoc] at pf3
    obtain⟨hz,pf9⟩:=Post.of_chk pf3
    clear pf3
    have ekd:=d_val hk
    have evd:=d_val hv
    subst ekd evd
    have dr5:=(dr3.mono l4.fr l4.io).mono l5.fr l5.io
    have hq5:s5.H p=some (DkO P.G.w p xs):=(l5.hid p (.inr rfl)).trans ((l4.hid p (.inr rfl)).trans hq3)
    have r4':Rep P.G.R s5.F s5.io k v4:=Rep.mono l5.fr l5.io r4
    obtain⟨b,eb,kb⟩:=tk_ok (H:=s5.H) w5.sub r4' hx
    subst eb
    refine⟨b,xs,x,rfl,hq5,dr5.keyH w5.sub,kb,by rw[←(dd_len dr5).1];exact szl hz,fun uv ruv=>?_⟩
    have w6:=own_put w5 nb (DkO P.G.w p (storedH xs x b uv))
    have l6:Le B s5 ⟨s5.io,s5.F,upd s5.H p (DkO P.G.w p (storedH xs x b uv))⟩:=⟨IoLe.refl _,Same.refl _,fun a ba=>upd_ne fun y=>nb (y▸ba)⟩
    exact⟨hlt,_,st5,_,_,_,rfl,(((l'.trans (plus_le l3)).trans (plus_le l4)).trans (plus_le l5)).trans l6,w6,upd_same,(dd_put hx r4' ruv r5 dr5),Post.mono (((plus_le l4).trans (plus_le l5)).trans l6) pf9⟩
 ·left
  have e:ds.drop i=[]:=List.drop_eq_nil_of_le hge
  rw[e] at pf
  exact⟨im.stop s' l'.io l'.fr w'.sub i hge,fin s' st' ks us xs l' w' hq dr pf⟩
end
end M3
namespace M3
open PySem PySem.Spec PyProof.Rows L2
structure MK (P:P3) (kws:List Keyword) (m:AM):Prop where
 pk:PK P.X kws (tA P.G P.hx P.wx m)
section
variable {P:P3} {pos p kpos:Pos} {x:Str} {e:Expr} {es:List Expr} {kws:List Keyword} {m:EM} {ma mk:AM} {nm:Option Str}
theorem mk_nil:MK P [] aNil:=⟨⟨fun pos pins s0 z H Q I ⟨B0,B,s,st,u,e,wd,sl,p⟩=>by subst e;exact pk_nil.run pos pins s0 z _ Q I (p.pure wd .nil)⟩⟩
theorem mk_cons (he:ME P e m) (hs:MK P kws mk):MK P (⟨nm,e,kpos⟩ :: kws) (aCons m mk):=by
 obtain⟨t,pt,ht⟩:=he.out
 refine⟨⟨fun pos pins s0 z H Q I ⟨B0,B,s,st,u,eH,wd,sl,h⟩=>?_⟩⟩
 subst eH
 refine(pk_cons pt hs.pk).run pos pins s0 z _ Q I (ht B0 B s st u z _ wd sl (Post.bind h fun w st1 s1 v l1 wd1 r1 h1=>?_))
 exact⟨B0,B,s1,st1,u,rfl,wd1,sl.mono l1,Post.bind h1 fun ws st2 s2 vs l2 wd2 r2 h2=>h2.pure wd2 (.cons (r1.mono l2) r2)⟩
structure MkOkK (Pg:Program) (w:World) (K:PySem.W.Frag) (mg:Str→Option Value) (base:Heap) (G:G3) (k:Nat) (x:Str) (c:String) (n:Nat) (ks:List Str) (arr:List D→List D→List D) (N:Nat) (mf:List D→M D):Prop where
 ex:∃(C f:Addr) (fd:FuncData) (ps:List Str) (g:List Value→List Value→List Value) (gV hV:List V→List V→List V),mg x=some (.ref C)∧G.cls c=some C∧Mk K C f∧KBn K fd ps (n+1) ks g gV∧
  (∀v vs zs,gV (v :: vs) zs=v :: hV vs zs)∧(∀F io vs zs ds es,RepL G.R F io ds vs→RepL G.R F io es zs→ds.length=n→es.length=ks.length→RepL G.R F io (arr ds es) (hV vs zs))∧(∀ds es,ds.length=n→es.length=ks.length→(arr ds es).length=N)∧
  FnOk Pg w K mg base (CXq Pg w) k f fd ps (spM G (N+1) mf)
def eCallK (n m N:Nat) (arr:List D→List D→List D) (mf:List D→M D) (ma mk:AM):EM:=fun u=>M.bind (ma u) fun ws=>M.bind (mk u) fun zs=>M.bind (M.of (asDs ws)) fun ds=>M.bind (M.of (asDs zs)) fun es=>M.bind (M.chk (ds.length=n∧es.length=m∧(arr ds es).length=N)) fun _=>
 M.bind (mf (arr ds es)) fun d=>M.pure (.val d)
def eMkK (c:String) (n m:Nat) (arr:List D→List D→List D) (mf:List D→M D) (ma mk:AM):EM:=fun u=>M.bind (ma u) fun ws=>M.bind (mk u) fun zs=>M.bind (M.of (asDs ws)) fun ds=>M.bind (M.of (asDs zs)) fun es=>M.bind (M.chk (ds.length=n∧es.length=m)) fun _=>mMake c mf (arr ds es)
theorem pe_mkKw {X:Cx} {CX:CXH} {k n:Nat} {f C:Addr} {fd:FuncData} {ps ks:List Str} {sp:Sp} {E:L2.St→XK} {t tk:TA} {g:List Value→List Value→List Value} {gV:List V→List V→List V}
  (M:Mk X.K C f) (F:FnOk X.prog X.w X.K X.mg X.base CX k f fd ps sp) (hr:Room (k+1) X) (hg:Gl X x) (hm:X.mg x=some (.ref C)) (hb:KBn X.K fd ps (n+1) ks g gV) (hx:∀σ,PassesAt (CX X.A.handled) X σ (E σ)) (ha:PA X (e :: es) t) (hkw:PK X kws tk)
  (hall:(backToKw pos (keywordEach kws X.env)).all (·.1.isSome)=true) (hks:(backToKw pos (keywordEach kws X.env)).filterMap (·.1)=ks) (hdb:(x == ("__debug__" : Str))=false) (he:starEach (e :: es) X.env=(false,eval e X.env) :: starEach es X.env)
  (hpl:((backTo pos (starEach (e :: es) X.env)).any (·.1) || (backToKw pos (keywordEach kws X.env)).any (·.1.isNone))=false) :
  PE X (.Call (.Name x p) (e :: es) kws pos) (fun σ H Q=>t σ H fun vs H1=>tk σ H1 fun zs H2=>vs.length=n∧zs.length=ks.length∧∀x dx,H2 x=none→H2 dx=none→dx≠x→sp (gV (.ref x :: vs) zs) (upd (upd H2 dx (.own x)) x (.ins C dx [])) (fun v H3=>v=.non∧Q (.ref x) H3) (E σ)):=
 ⟨fun pins now σ H Q inv wish=>wpAny_Call_Name_kw (ld_glob inv hg hm (PySem.W.callWith_KW (h₀:=X.base) inv.ok.mod.kin M.kp hall (thn (ha.run pos pins now σ H _ inv wish) fun us mid ⟨vs,H1,J,r,q⟩=>
  thn (hkw.run pos pins mid σ H1 _ J q) fun ws last ⟨zs,H2,L,rz,l1,l2,q2⟩=>⟨L.kIn,by
   rw[hks]
   have free:=L.hok.fresh (Nat.le_refl last.heap.objs.size)
   have free1:=L.hok.fresh (Nat.le_succ last.heap.objs.size)
   have J2:=Inv.made (C:=C) L
   have rself:Vals (V.ref (last.heap.objs.size+1) :: vs) (Value.ref (last.heap.objs.size+1) :: us):=.cons rfl r
   have len:(Value.ref (last.heap.objs.size+1) :: us).length=n+1:=by rw[List.length_cons,←r.length,l1]
   refine wpAny_call (make_map (f:=f) L.kIn M.makes M.init (beq_iff_eq.mp M.fn) (codeAny_mono (F.run _ X.stack _ _ ⟨Value.ref (last.heap.objs.size+1) :: us,ks.zip ws⟩ (g (Value.ref (last.heap.objs.size+1) :: us) ws) _ _ (E σ) ((hr.call J2).make C us (ks.zip ws))
    (J2.env0.make C us (ks.zip ws)) (hb.to _ _ ws J2.kIn len (rz.length.symm.trans l2)) (hb.rel rself rz) (q2 _ _ free1 free (Nat.ne_of_lt (Nat.lt_succ_self _)))) fun res s' got=>?_))
   match res,got with
   | .error er,got=>exact hx σ pins _ _ er s' J2 got
   | .ok (.ret u),got=>
    obtain⟨v,H',J',rv,ev,q⟩:=J2.after got
    subst ev
    exact⟨rv,V.ref (last.heap.objs.size+1),H',J',rfl,q⟩
   | .ok .next,got=>exact got.elim
   | .ok .brk,got=>exact got.elim
   | .ok .cont,got=>exact got.elim⟩) hpl he) hdb)⟩
theorem me_mkK {k j n m N:Nat} {c:String} {ks:List Str} {arr:List D→List D→List D} {mf:List D→M D} (h:MkOkK P.X.prog P.X.w P.X.K P.X.mg P.X.base P.G k x c n ks arr N mf) (hr:Room j P.X) (hk:k+1≤j) (tk:Takes P.X P.wx) (hg:Gl P.X x) (ha:MA P (e :: es) ma) (hkw:MK P kws mk) (hlk:ks.length=m:=by rfl)
  (hall:(backToKw pos (keywordEach kws P.X.env)).all (·.1.isSome)=true:=by rfl) (hks:(backToKw pos (keywordEach kws P.X.env)).filterMap (·.1)=ks:=by rfl) (hdb:(x == ("__debug__" : Str))=false:=by decide) (he:starEach (e :: es) P.X.env=(false,eval e P.X.env) :: starEach es P.X.env:=by rfl)
  (hpl:((backTo pos (starEach (e :: es) P.X.env)).any (·.1) || (backToKw pos (keywordEach kws P.X.env)).any (·.1.isNone))=false:=by rfl):ME P (.Call (.Name x p) (e :: es) kws pos) (eMkK c n m arr mf ma mk):=by
 obtain⟨C,f,fd,ps,g,gV,hV,hm,hc,M,hb,hgv,rel,hN,F⟩:=h.ex
 obtain⟨t,pt,ht⟩:=ha.out
 subst hlk
 refine ME.mk' (pe_mkKw M F (hr.mono hk) hg hm hb (fun σ=>passAt tk σ) pt hkw.pk hall hks hdb he hpl) fun B0 B s st u z Q wd sl h=>ht B0 B s st u z _ wd sl (Post.bind h fun ws st1 s1 vs l1 wd1 r1 h1=>?_)
 refine⟨B0,B,s1,st1,u,rfl,wd1,sl.mono l1,Post.bind h1 fun zs st2 s2 vz l2 wd2 r2 h2=>?_⟩
 obtain⟨ds,e,h2⟩:=Post.of_of h2
 obtain⟨es',e',h2⟩:=Post.of_of h2
 obtain⟨⟨hl,hl2⟩,h2⟩:=Post.of_chk h2
 have rl:=(asDs_ok r1 e).mono l2.fr l2.io
 have rz:=asDs_ok r2 e'
 refine⟨by rw[←rl.length];exact hl,by rw[←rz.length];exact hl2,fun x dx hx hdx ne=>?_⟩
 rw[hgv]
 exact make_post (n:=N) hc wd2 (rel _ _ _ _ _ _ rl rz hl hl2) (hN _ _ hl hl2) h2 hx hdx ne
def ddOw (w:W):M (List D×List D):=fun st=>match w with
 | .val (.ref k)=>match st[k]? with
  | some (.ddi ks us)=>.ok (ks,us) st
  | _=>.bad
 | _=>.bad
theorem ddOw_of (w:W) (st:Store):ddOw w st=.bad∨(ddOw w st=ddOf w st∧∃j ks us,w=.val (.ref j)∧st[j]?=some (.ddi ks us)∧ddOw w st=.ok (ks,us) st):=by
 cases w with
 | val d=>
  cases d with
  | ref j=>
   cases ej:st[j]? with
   | none=>exact .inl (by unfold ddOw;simp only[ej])
   | some o=>
    cases o with
    | ddi ks us=>exact .inr ⟨by unfold ddOw ddOf;simp only[ej],j,ks,us,rfl,ej,by unfold ddOw;simp only[ej]⟩
    | _=>exact .inl (by unfold ddOw;simp only[ej])
  | _=>exact .inl rfl
 | _=>exact .inl rfl
theorem Post.of_ddw {α β:Type} {G:G3} {X:Hex} {B:Addr→Prop} {s:S3} {st:Store} {R:S3→α→β→Prop} {E:XK} {Q:β→Hp→Prop} {w:M3.W} {v:V} {f:List D×List D→M α} (wd:Wd G B st s) (r:RepW G X B s w v) (h:Post G B R E s Q (M.bind (ddOw w) f st)) :
  ∃ks us a xs j,w=.val (.ref j)∧st[j]?=some (.ddi ks us)∧v=.ref a∧RdD s.H a (DkO G.w a xs)∧DkR G.R s.F s.io ks us xs∧Post G B R E s Q (f (ks,us) st):=by
 rcases ddOw_of w st with e | ⟨e,j,ks,us,rfl,ej,e2⟩
 ·unfold M.bind at h
  rw[e] at h
  exact h.elim
 ·have h:Post G B R E s Q (M.bind (ddOf (.val (.ref j))) f st):=by
   unfold M.bind at h⊢
   rw[e] at h
   exact h
  obtain⟨ks',us',a,xs,e3,h2⟩:=Post.of_dd wd r h
  rw[←e,e2] at e3
  cases e3
  exact⟨ks,us,a,xs,j,rfl,ej,h2⟩
def sSetDS (mo mi me:EM):SM:=fun u st=>match M.bind (me u) (fun w=>M.bind (M.of w.d) fun d=>M.bind (mo u) fun ow=>M.bind (mi u) fun k=>M.bind (M.of k.d) fun kd=>M.bind (M.of kd.tk) fun x=>M.bind (ddOw ow) fun q=>M.bind (M.chk (q.1.length<1000000)) fun _=>fun st=>match ow with
  | .val (.ref j)=>.ok () (st.set j (.ddi (ddPut q.1 q.2 kd x d).1 (ddPut q.1 q.2 kd x d).2))
  | _=>.bad) st with
 | .ok _ st'=>.nx u st'
 | .err c x st'=>.err c x u st'
 | .bad=>.bad
theorem ms_setDS {o ei:Expr} {ipos:Pos} {mo mi me:EM} (hu:P.X.A.units+65<cLine) (ho:ME P o mo) (hi:ME P ei mi) (he:ME P e me) (ha:SubParts P.X o ei ipos:=by intro _;rfl)
  (hs:swapsWithSole [.Subscript o ei ipos] e pos.line P.X.env=pure false:=by rfl) (hw:swappedStores [.Subscript o ei ipos] e P.X.env=pure none:=by rfl)
  (h1:(assignEach [.Subscript o ei ipos] P.X.env).map (·.2)=[assign (.Subscript o ei ipos) P.X.env]:=by rfl) :
  MS P (.Assign [.Subscript o ei ipos] e pos) (sSetDS mo mi me):=by
 obtain⟨t,pt,ht⟩:=he.out
 obtain⟨to,po,hto⟩:=ho.out
 obtain⟨ti,pi,hti⟩:=hi.out
 refine MS.mk' (ps_asg pt (pg_sub po pi (set_DD hu) ha) hs hw h1) fun B0 B s o u z D b0 wd sl h=>ht B0 B s o u z _ wd sl ?_
 unfold sSetDS at h
 generalize hm:M.bind (me u) (fun w=>M.bind (M.of w.d) fun d=>M.bind (mo u) fun ow=>M.bind (mi u) fun k=>M.bind (M.of k.d) fun kd=>M.bind (M.of kd.tk) fun x=>M.bind (ddOw ow) fun q=>M.bind (M.chk (q.1.length<1000000)) fun _=>fun st=>match ow with
  | .val (.ref j)=>Res.ok () (st.set j (.ddi (ddPut q.1 q.2 kd x d).1 (ddPut q.1 q.2 kd x d).2))
  | _=>.bad)=mm at h
 have hp:Post P.G B (fun _ (_:Unit) (_:Unit)=>True) (fun c d H=>P.wx c d z H) s (fun (_:Unit) H'=>D.nx z H') (mm o):=by
  cases e:mm o with
  | ok _ st'=>rw[e] at h;exact fun s' _ l w _=>h B s' z b0 (l.less b0) w (sl.mono' l)
  | err c x st'=>rw[e] at h;exact fun s' cv dd l w q=>h B s' z cv dd b0 (l.less b0) w (sl.mono' l) q
  | bad=>rw[e] at h;exact h
 rw[←hm] at hp
 refine Post.bind hp fun w st1 s1 v l1 wd1 r1 g1=>?_
 obtain⟨d,ed,g2⟩:=Post.of_of g1
 refine hto B0 B s1 st1 u z _ wd1 (sl.mono' l1) (Post.bind g2 fun ow st2 s2 v2 l2 wd2 r2 g3=>?_)
 refine hti B0 B s2 st2 u z _ wd2 (sl.mono' (l1.trans l2)) (Post.bind g3 fun k st3 s3 v3 l3 wd3 r3 g4=>?_)
 obtain⟨kd,ek,g5⟩:=Post.of_of g4
 obtain⟨x,ex,g6⟩:=Post.of_of g5
 obtain⟨ks,us,c,xs,j,eo,ej,ev,hr,dr,g7⟩:=Post.of_ddw wd3 (r2.mono l3) g6
 obtain⟨hz,g8⟩:=Post.of_chk g7
 clear g1 g2 g3 g4 g5 g6 g7
 have e1:=d_val ed
 have e2:=d_val ek
 subst e1 e2
 subst ev eo
 have eio:s3.io j=some c:=by
  have r2':=r2.mono l3
  cases r2' with
  | ref q=>exact q
 obtain⟨a,e1,nb,hF,xs',o1,o2⟩:=wd3.obj _ _ ej rfl
 rw[eio] at e1
 cases e1
 obtain⟨b,eb,kb⟩:=tk_ok (H:=s3.H) wd3.sub r3 ex
 subst eb
 refine⟨c,b,xs',x,rfl,rfl,by rw[P.hw];exact o1,o2.keyH wd3.sub,kb,by rw[←(dd_len o2).1];exact szl hz,fun uv ruv=>?_⟩
 have rd:Rep P.G.R s3.F s3.io d v:=Rep.mono (l2.fr.trans l3.fr) (l2.io.trans l3.io) r1
 obtain⟨w4,l4⟩:=wd3.setO (o':=.ddi (ddPut ks us kd x d).1 (ddPut ks us kd x d).2) (ho:=DkO P.G.w c (storedH xs' x b uv)) eio nb hF ⟨_,upd_same,dd_put ex r3 ruv rd o2⟩ ej
 rw[P.hw]
 exact g8 _ () l4 w4 trivial
theorem me_dd0:ME P (.Dict [] [] pos) (eC (.dd [] [])):=by
 refine ME.mk' (pe_lockOn pe_newDD) fun B0 B s st u z Q wd sl h=>fun p hp=>?_
 refine⟨p,_,rfl,upd_same,True.intro,fun od=>?_⟩
 rw[upd2,P.hw]
 obtain⟨w2,l2⟩:=wd.froz hp (.frz od (DkO P.G.w p []))
 exact h ⟨s.io,upd s.F p (.frz od (DkO P.G.w p [])),upd s.H p (.frz od (DkO P.G.w p []))⟩ (.ref p) l2 w2 (show Rep _ _ _ (.dd [] []) (.ref p) from .dd upd_same .nil rfl .nil .nil)
end
section
variable {P:P3}
def isi2F:List W→Option W
 | [.val (.dd _ _),.val (.ty T)]=>(kitB "dict" T).map fun b=>.val (.bl b)
 | ws=>isiF ws
theorem cm_isi2:CallM P (.builtin "isinstance") isi2F:=by
 obtain⟨r,hr,hq⟩:=cm_isi (P:=P)
 refine⟨fun vs H Q=>r vs H Q∨∃p T b xs,vs=[.ref p,.ty T]∧RdD H p (DkO P.X.w p xs)∧kitB "dict" T=some b∧Q (.bl b) H,?_,fun B s st ws w vs Q wd rs e k=>?_⟩
 ·rintro pins s σ H vs us Q I rv (h | ⟨p,T,b,xs,rfl,hp,e,q⟩)
  ·exact hr pins s σ H vs us Q I rv h
  ·obtain⟨u1,u2,rfl,r1,r2⟩:=vals2 rv
   cases (show u1=Value.ref p from r1)
   cases (show u2=Value.type T from r2)
   obtain⟨⟨h1,h2,h3,o,es,ep,g1,g2,g3,g4⟩,_,_⟩:=hp.ok I.hok
   exact PySem.W.kia_one PySem.W.kitx_dict I.kIn ⟨o,g1,g2.1⟩ (kit_ty e) (fun z=>nomatch z) fun tk=>⟨.bl b,H,I.tok tk,rfl,q⟩
 ·unfold isi2F at e
  split at e
  ·rename_i ks us T
   cases rs with
   | cons r1 rs=>
    cases rs with
    | cons r2 rs=>
     cases rs
     cases r2
     cases h3:kitB "dict" T with
     | none=>rw[h3] at e;cases e
     | some b=>
      rw[h3] at e
      cases e
      cases r1 with
      | dd hF hk ht hv hrr=>exact .inr ⟨_,_,b,_,rfl,by rw[P.hw];exact .inr (.inl ⟨_,wd.sub _ _ hF⟩),h3,k s _ (Le.refl _) wd .bl⟩
  ·exact .inl (hq B s st ws w vs Q wd rs e k)
end
end M3
namespace M3
open PySem PySem.Spec PyProof.Rows L2
theorem two {α:Type} {p:α→Prop} {a b:α} (h:p a) (h':p b):∀c∈[a,b],p c:=fun c hc=>by
 rcases List.mem_cons.mp hc with rfl | hc
 ·exact h
 ·exact List.mem_singleton.mp hc▸h'
theorem nil_all {α:Type} {p:α→Prop}:∀c∈([]:List α),p c:=fun _ h=>by cases h
theorem cons_all {α:Type} {p:α→Prop} {a:α} {l:List α} (h:p a) (t:∀c∈l,p c):∀c∈a :: l,p c:=fun c hc=>by
 rcases List.mem_cons.mp hc with rfl | hc
 ·exact h
 ·exact t c hc
section
variable {P:Program} {w:World} {K:PySem.W.Frag} {mg:Str→Option Value} {base:Heap}
theorem okD {CX:CXH} {x qual:Str} {params:Arguments} {body:List Stmt} {scope:Scope} {dvs:List V} {kws:List (Str×V)} {f:Addr} {fd:FuncData} {N ps:List Str} {k:Nat} {sp:Sp} (F:FunD K x qual params body scope dvs kws f fd) (S:FnScope N ps scope) (len:∀vs H Q E,sp vs H Q E→vs.length=ps.length)
  (hbody:∀(cdv:Value) (A:Around) (outer:List Env) (s:Shared) (H:Hp) (vs:List V) (Q:VK) (E:XK),Room k (cxOf CX P w K mg base N qual scope f cdv A outer s H E)→sp vs H Q E→
   ∃t,PSs (cxOf CX P w K mg base N qual scope f cdv A outer s H E) body t∧t { nx:=fun _ H'=>Q .non H',rt:=Q } (L2.start N vs) H):FnOk P w K mg base CX (k+1) f fd ps sp:=by
 obtain⟨oc,od,dV,kV,doc,pm,an,cdv,ct,osl,rfl,lk,hcd,_,_⟩:=F.ex
 exact fn_of lk hcd S len (hbody cdv)
theorem fn_okD {G:G3} (hK:K=G.K) (hw:w=G.w) {x qual:Str} {st:Stmt} {dvs:List V} {kws:List (Str×V)} {f:Addr} {fd:FuncData} {N ps:List Str} {k:Nat} {mb:SM} (F:FunD K x qual (defArgs st) (defBody st) (defScope st) dvs kws f fd) (S:FnScope N ps (defScope st))
  (h:∀(cdv:Value) (A:Around) (outer:List Env) (s:Shared) (H:Hp) (E:XK),Room k (cxOf (CXq P w) P w K mg base N qual (defScope st) f cdv A outer s H E)→
   MSs ⟨cxOf (CXq P w) P w K mg base N qual (defScope st) f cdv A outer s H E,G,none,fun cls d _ H=>E cls d H,hK,hw⟩ (defBody st) mb) :
  FnOk P w K mg base (CXq P w) (k+1) f fd ps (spM G ps.length (mfn N.length mb)):=by
 refine okD F S (fun vs H Q E h=>h.1) fun cdv A outer s0 H vs Q E hr ⟨hl,B,s,o,ds,e,wd,rl,hp⟩=>?_
 subst e
 obtain⟨t,pt,ht⟩:=(h cdv A outer s0 s.H E hr).out
 refine⟨t,pt,ht B B s o _ _ _ (fun _ b=>b) wd (slo_start (N:=N) rl) ?_⟩
 unfold mfn at hp
 cases em:mb (ds.map (fun d=>some (.val d))++List.replicate (N.length - ds.length) none) o with
 | nx u' st'=>rw[em] at hp;exact fun B' s' z' b l w sl=>hp s' .non l (w.less b) .non
 | rt w st'=>
  rw[em] at hp
  cases w with
  | val d=>exact fun B' s' v b l w r=>hp s' v l (w.less b) r
  | bor xs=>
   rintro B' s' v b l w ⟨p,vs',rfl,bp,nb,hq,r⟩
   have w':Wd G (plus B p) st' s':=w.less fun a q=>q.elim (b a) fun z=>z▸bp
   exact hp ⟨s'.io,upd s'.F p (.lst vs'),s'.H⟩ (.ref p) (l.trans (freeze_le w')) (freeze_wd w' nb hq) (.lst upd_same (r.mono (freeze_le w').fr (freeze_le w').io))
  | _=>exact hp.elim
 | bk u' st'=>rw[em] at hp;exact hp.elim
 | ct u' st'=>rw[em] at hp;exact hp.elim
 | err c x u' st'=>rw[em] at hp;exact fun B' s' z' cv dd b l w sl q=>hp s' cv dd l (w.less b) q
 | bad=>rw[em] at hp;exact hp.elim
end
end M3
namespace PySem
open Sem (wp)
def LsAt (h:Heap) (a:Addr) (xs:List Value):Prop:=∃n,h.get? a=some { cls:=.type "list",data:=.seq xs.toArray n }
theorem LsAt.is {h:Heap} {a:Addr} {xs:List Value} (l:LsAt h a xs):h.IsList a xs.toArray:=by obtain⟨n,e⟩:=l;exact⟨_,e,rfl,n,rfl⟩
def Kept2 (I S:Addr) (h h':Heap):Prop:=∀b o,b≠I→b≠S→h.get? b=some o→h'.get? b=some o
end PySem
namespace M3
open PySem PySem.Spec PyProof.Rows L2
def D.lists:List D→Option (List (List D))
 | []=>some []
 | .lst xs :: ds=>(D.lists ds).map (xs :: ·)
 | _ :: _=>none
def sumLF:List W→Option W
 | [.val (.lst ds),.val (.lst [])]=>(D.lists ds).bind fun xss=>if xss.flatten.length≤1000000 then some (.val (.lst xss.flatten)) else none
 | _=>none
end M3
namespace PySem
open Sem (wp)
def newTexts:List Str→List Str→Nat
 | _,[]=>0
 | acc,x :: xs=>(if x∈acc then 0 else 1)+newTexts (acc++[x]) xs
section
variable {prog:Program} {w:World} {A:Around} {R:Result→Shared→Prop} {I S ax:Addr} {vs:Array Value}
theorem texts_fill (hIS:I≠S) (haI:ax≠I) (haS:ax≠S):∀(rest acc:List Str) (s:Shared) (n:Nat),acc.length+rest.length=vs.size→vs.size≤1000→
  (∀(j:Nat) (x:Str),(acc++rest)[j]?=some x→∃t,vs[j]?=some (.str x t))→s.heap.IsListIter I ax acc.length→s.heap.IsList ax vs→s.heap.SetOf (strKind prog w) S (fun k=>acc.any (· == k)) n→n≤acc.length→M3.CoolBut2 A s.heap I S→
  (∀s':Shared,Kept2 I S s.heap s'.heap→s'={ s with heap:=s'.heap,toks:=s'.toks }→s'.heap.SetOf (strKind prog w) S (fun k=>(acc++rest).any (· == k)) (n+newTexts acc rest)→R (.ok (.ret .none)) s')→
  codeAny (model prog w) A (.builtin "set.update.loop" ⟨[.ref S,.ref I],[]⟩) R s:=by
 intro rest
 induction rest with
 | nil=>
  intro acc s n hl hz hv hit hls hS hn hh hR
  have sI:S≠I:=fun z=>hIS z.symm
  apply codeAny_builtin PyProof.Rows.F.entry_set_update_loop;rw[Around.under_plainId PyProof.Rows.F.plain_set_update_loop];change wpAny _ A.in1 (pyNext (.ref I) >>= _) _ _ s
  refine wpAny_bind (M3.listStop (A:=A.in1) (M3.CoolBut2.but hh) hit hls (by simp at hl;simp[hl]) fun h' eb=>?_)
  refine wpAny_pure (hR { s with heap:=h' } (fun b o b1 _ e=>eb b o b1 e) rfl ?_)
  obtain⟨o,es,ep,t,ho,more⟩:=hS
  rw[List.append_nil]
  exact⟨o,es,ep,t,eb S o sI ho,more⟩
 | cons x rest ih=>
  intro acc s n hl hz hv hit hls hS hn hh hR
  have sI:S≠I:=fun z=>hIS z.symm
  obtain⟨t,hx⟩:=hv acc.length x (by simp)
  apply codeAny_builtin PyProof.Rows.F.entry_set_update_loop;rw[Around.under_plainId PyProof.Rows.F.plain_set_update_loop];change wpAny _ A.in1 (pyNext (.ref I) >>= _) _ _ s
  refine wpAny_bind (wpAny_pyNext_list_item (A:=A.in1) hit hls hx fun h' hit' sb=>?_)
  have hS1:h'.SetOf (strKind prog w) S (fun k=>acc.any (· == k)) n:=by
   obtain⟨o,es,ep,tb,ho,more⟩:=hS
   exact⟨o,es,ep,tb,(sb.2 S sI).trans ho,more⟩
  change wpAny _ A.in1 (holding [Value.str x t] (setAdd S (.str x t)) >>= _) _ _ _
  apply wpAny_bind;apply wpAny_holding;unfold setAdd;apply wpAny_holding;apply wpAny_bind
  refine(strKind prog w).pyHash (k:=x) (strKind_is _ _ _ _) ?_
  refine wpAny_setAddHashed_of (knd:=strKind prog w) (strKind_is _ _ _ _) rfl hS1 (by unfold scanBound;simp at hl;omega) fun h2 sb2 hS2=>?_
  have old:∀b o,b≠S→h'.get? b=some o→h2.get? b=some o:=fun b o hb e=>(sb2.2 b hb).trans e
  refine wpAny_pure ⟨plainId_quiet PyProof.Rows.F.plain_set_update_loop _,ih (acc++[x]) _ _ (by simp at hl⊢;omega) hz (by simpa using hv) (by rw[List.length_append];exact hit'.at fun o e=>old _ _ hIS e) (hls.at fun o e=>old _ _ haS ((sb.2 _ haI).trans e))
   (PyProof.Rows.SetOf_congr hS2 (fun k=>?_) rfl) (by simp;split <;> omega) (hh.keep fun b o b1 b2 e=>old b o b2 ((sb.2 b b1).trans e)) fun s' q1 q2 q3=>hR s' (fun b o b1 b2 e=>q1 b o b1 b2 (old b o b2 ((sb.2 b b1).trans e))) q2 ?_⟩
  ·by_cases z:k=x
   ·subst z;simp
   ·have z':(x == k)=false:=by simpa using fun e:x=k=>z e.symm
    simp[z,z']
  ·have e:∀c:Nat,(if (acc.any fun y=>y == x)=true then n else n+1)+c=n+((if x∈acc then 0 else 1)+c):=fun c=>by
    by_cases z:x∈acc
    ·rw[if_pos (List.any_eq_true.mpr ⟨x,z,by simp⟩),if_pos z];omega
    ·rw[if_neg (fun q=>by obtain⟨y,hy,e⟩:=List.any_eq_true.mp q;exact z (beq_iff_eq.mp e▸hy)),if_neg z];omega
   rw[newTexts,←e]
   simpa using q3
end
section
variable {prog:Program} {w:World} {A:Around} {E:Value→Shared→Prop} {s:Shared}
abbrev newSetObj (led:Bool):Obj:={ cls:=.type "set",dict:=none,data:=.set #[] 0 (.fresh 0 0 led) }
set_option maxHeartbeats 3200000 in
theorem call_set_texts {l:Addr} {items:Array Value} {xs:List Str} {Q:Value→Shared→Prop} (hh:M3.CoolAt A s.heap) (hl:s.heap.IsList l items) (hi:PyProof.Rows.StrsAre items.toList xs) (hz:items.size≤1000)
  (h:∀(h':Heap) (tk:Nat),h'.SetOf (strKind prog w) s.heap.objs.size (fun k=>xs.any (· == k)) (newTexts [] xs)→(∀b o,b<s.heap.objs.size→s.heap.get? b=some o→h'.get? b=some o)→Q (.ref s.heap.objs.size) { s with heap:=h',toks:=tk }) :
  wpAny (model prog w) A (call (.type "set") [.ref l]) Q E s:=by
 obtain⟨mroHead,mroRest,hmro⟩:=F.called_set.mro
 have hmade:=F.called_set.made
 have hsub:=F.called_set.sub
 have hnt:=F.called_set.notType
 have hcc:=F.called_set.canCreate
 have hone:=F.typeCall_set_1 (.ref l)
 apply wpAny_call;apply codeAny_of_tree;change wpAny _ _ (callAny (.type "set") _) _ _ _
 refine wpAny_pure ⟨Code.quiet_builtin _ (by decide +kernel),codeAny_builtin F.entry_type_call ?_⟩;rw[Around.under_plain (weight_type_call_type "set" [.ref l] []) rfl]
 repeat (any_goals (first | assumption | wp_step))
 refine codeAny_mono (code_set_new_1 (.ref l) (E:=E) (Q₁:=fun obj s₁=>∃led:Bool,obj=.ref s.heap.objs.size∧s₁={ s with heap:=s.heap.push (newSetObj led) }) fun led=>⟨led,rfl,rfl⟩) fun r s₁ hr=>?_
 match r,hr with
 | .error e,hr=>exact hr
 | .ok .next,hr=>exact hr.elim
 | .ok .brk,hr=>exact hr.elim
 | .ok .cont,hr=>exact hr.elim
 | .ok (.ret obj),hr=>
 obtain⟨led,rfl,rfl⟩:=hr
 have new:(s.heap.push (newSetObj led)).get? s.heap.objs.size=some (newSetObj led):=Heap.get?_push_size _ rfl
 have ty:Shared.TypeIs { s with heap:=s.heap.push (newSetObj led) } (.ref s.heap.objs.size) "set":=⟨_,new,rfl⟩
 have hli:=F.called_set.init.lookup
 have hbi:=F.called_set.init.bind (.ref s.heap.objs.size)
 repeat (any_goals (first | assumption | wp_step))
 have lt:l<s.heap.objs.size:=hl.imp (fun _ q=>Heap.lt_size q.1) |>.choose_spec
 let Done:Value→Shared→Prop:=fun r s₂=>r=.none∧∃h' tk,s₂={ s with heap:=h',toks:=tk }∧h'.SetOf (strKind prog w) s.heap.objs.size (fun k=>xs.any (· == k)) (newTexts [] xs)∧∀b o,b<s.heap.objs.size→s.heap.get? b=some o→h'.get? b=some o
 refine codeAny_mono (codeAny_call_builtin (R:=wants Done E) F.called_set.init.plain F.entry_set_init (check_set_init_1 ty ?_)) fun r₂ s₂ hr₂=>?_
 ·obtain⟨⟨ocls,odict,odata,oslots⟩,there,isL,nl,body⟩:=hl
  dsimp only at isL body
  subst isL body
  have there1:(s.heap.push (newSetObj led)).get? l=some { cls:=.type "list",dict:=odict,data:=.seq items nl,slots:=oslots }:=Heap.get?_push_of_some _ there
  have lst1:(s.heap.push (newSetObj led)).IsList l items:=⟨_,there1,rfl,nl,rfl⟩
  have nd:(Value.type "list" == Value.type "dict")=false:=by decide
  have n1:=F.sub_list_set
  have n2:=F.sub_list_frozenset
  unfold Builtin.«set.__init__» noKeywords Builtin.Frozenset.updateFrom
  generalize walkIt:pyIter=it
  wp_walk
  subst walkIt
  refine wpAny_pyIter_list lst1 (wpAny_bind (wpAny_runValue ?_))
  have sz1:(s.heap.push (newSetObj led)).objs.size=s.heap.objs.size+1:=Heap.size_push ..
  have lenE:xs.length=items.size:=by rw[←PyProof.Rows.StrsAre.len_eq hi,Array.length_toList]
  refine texts_fill (I:=(s.heap.push (newSetObj led)).objs.size) (S:=s.heap.objs.size) (ax:=l) (vs:=items) (by rw[sz1];exact Nat.succ_ne_self _) (by rw[sz1];exact Nat.ne_of_lt (Nat.lt_succ_of_lt lt)) (Nat.ne_of_lt lt) xs [] _ 0 (by simpa using lenE) hz
   (fun j x e=>?_) ⟨_,Heap.get?_push_size _ rfl,rfl,rfl⟩ (lst1.push _) ?_ (Nat.le_refl _) ((hh.but2 (by rw[sz1];exact Nat.le_succ _) (Nat.le_refl _) fun b o e=>Heap.get?_push_of_some _ (Heap.get?_push_of_some _ e)).around (by first | rfl | simp)) fun s' q1 q2 q3=>?_
  ·have e:xs[j]?=some x:=by simpa using e
   obtain⟨lj,ej⟩:=List.getElem?_eq_some_iff.mp e
   have hj:j<items.size:=by rw[←lenE];exact lj
   obtain⟨t,ht⟩:=SS.strs_at hi j items[j] (by simp[hj])
   exact⟨t,by rw[Array.getElem?_eq_getElem hj,ht,List.getD_eq_getElem?_getD,e];rfl⟩
  ·have there2:((s.heap.push (newSetObj led)).push { cls:=.type "list_iterator",data:=.fields #[.ref l,.int 0 0] }).get? s.heap.objs.size=some (newSetObj led):=Heap.get?_push_of_some _ new
   exact PyProof.Rows.SetOf_congr ((PyProof.Rows.setObjOf_fresh (knd:=strKind prog w) led).setOf there2 (by unfold scanBound;omega)) (fun _=>rfl) rfl
  ·refine wpAny_pure (wpAny_pure ⟨rfl,s'.heap,s'.toks,by rw[q2],by simpa using q3,fun b o lb e=>?_⟩)
   exact q1 b o (by rw[sz1];exact Nat.ne_of_lt (Nat.lt_succ_of_lt lb)) (Nat.ne_of_lt lb) (Heap.get?_push_of_some _ (Heap.get?_push_of_some _ e))
 ·match r₂,hr₂ with
  | .error _,q=>exact q
  | .ok .next,q=>exact q.elim
  | .ok .brk,q=>exact q.elim
  | .ok .cont,q=>exact q.elim
  | .ok (.ret _),q=>
   obtain⟨rfl,h',tk,rfl,hS',hk'⟩:=q
   repeat (any_goals (first | assumption | wp_step))
   exact h _ _ hS' hk'
end
end PySem
namespace M3
open PySem PySem.Spec PyProof.Rows L2
section
variable {X:Cx} {a:Expr} {ta:TE} {p p2 q pos:Pos}
theorem pe_lenSet3 (hc:Cool X) (hg:Gl X "len") (hm:X.mg "len" = none) (hg2:Gl X "set") (hm2:X.mg "set" = none) (ha:PE X a ta) (na:starEach [a] X.env=(false,eval a X.env) :: starEach [] X.env:=by rfl) :
  PE X (.Call (.Name "len" p) [.Call (.Name "set" p2) [a] [] q] [] pos) (fun σ H Q=>ta σ H fun x H1=>∃(l:Addr) (xs:List Str),x=.ref l∧SqL X.K H1 l (xs.map V.str)∧xs.length≤1000∧Q (.int (newTexts [] xs)) H1):=by
 refine⟨fun pins now σ H Q inv wish=>Call_ (ld_blt inv hg hm boot_len (PyProof.Rows.callWith_builtin1 (PyProof.Rows.args_cons (Call_ (ld_blt inv hg2 hm2 boot_set ?_)) rfl) rfl rfl))⟩
 refine PyProof.Rows.callWith_type1 (PyProof.Rows.args_cons (thn (ha.run pins now σ H _ inv wish) fun v later got=>PyProof.Rows.args_nil ?_) na) na rfl
 obtain⟨_,H1,J,rx,l,xs,rfl,at_,few,rest⟩:=got
 obtain rfl:v=.ref l:=rx
 obtain⟨its,vals,lst,-⟩:=J.list at_
 have many:its.length=xs.length:=by rw[←vals.length,List.length_map]
 refine call_set_texts (hc.at J) lst.isList (by simpa using strsAre_of vals) (by simpa[many] using few) fun h' tk made kept=>PyProof.Rows.args_nil ?_
 have le:∀(ys acc:List Str),newTexts acc ys≤ys.length:=fun ys=>by
  induction ys with
  | nil=>intro acc;exact Nat.le_refl _
  | cons y ys ih=>intro acc;have:=ih (acc++[y]);unfold newTexts;split <;> simp <;> omega
 have:=le xs []
 obtain⟨o,es,ep,t,ho,hex,hd,-,-,-,hf,hn⟩:=made
 have J2:Inv X pins σ H1 { later with heap:=h',toks:=tk }:=J.kept fun b o e=>kept b o (Heap.lt_size e) e
 exact call_len_set ho hex hd hf (by rw[hn];omega) ⟨.int _,H1,J2.tok _,⟨_,by rw[hn]⟩,rest⟩
end
def lenSetF (w:W):Option W:=w.ls.bind fun ds=>(D.strs ds).bind fun xs=>if xs.length≤1000 then some (.val (.int (newTexts [] xs))) else none
def eLenSet (m:EM):EM:=fun u=>M.bind (m u) fun w=>M.of (lenSetF w)
theorem me_lenSet {P:P3} {a:Expr} {m:EM} {p p2 q pos:Pos} (hc:Cool P.X) (hg:Gl P.X "len") (hm:P.X.mg "len" = none) (hg2:Gl P.X "set") (hm2:P.X.mg "set" = none) (ha:ME P a m) (na:starEach [a] P.X.env=(false,eval a P.X.env) :: starEach [] P.X.env:=by rfl) :
  ME P (.Call (.Name "len" p) [.Call (.Name "set" p2) [a] [] q] [] pos) (eLenSet m):=by
 obtain⟨t,pt,ht⟩:=ha.out
 refine ME.mk' (pe_lenSet3 hc hg hm hg2 hm2 pt na) fun B0 B s st u z Q wd sl h=>ht B0 B s st u z _ wd sl (Post.bind h fun w st1 s1 v l1 wd1 r1 h1=>?_)
 obtain⟨w',e,h1⟩:=of_eq h1
 unfold lenSetF at e
 cases e1:w.ls with
 | none=>rw[e1] at e;cases e
 | some ds=>
  rw[e1,Option.bind_some] at e
  cases e2:D.strs ds with
  | none=>rw[e2] at e;cases e
  | some xs=>
   rw[e2,Option.bind_some] at e
   split at e
   ·rename_i hz
    cases e
    obtain⟨l,vs,rfl,hp,rl⟩:=ls_ok wd1 r1 e1
    obtain rfl:=strs_ok rl e2
    exact⟨l,xs,rfl,.inl (.inl hp),hz,h1.pure wd1 .int⟩
   ·cases e
end M3
namespace M3
open PySem PySem.W PySem.Calls PyProof.Rows
theorem weight_mem {n:Int}:∀{ns:List Int},n∈ns→(if n == 0 then 0 else n.natAbs.log2+1)≤WData.weightAll (ns.map WData.int)
 | m :: ns,h=>by
  rw[List.map_cons,WData.weightAll,WData.weight]
  rcases List.mem_cons.mp h with e | h
  ·rw[←e];omega
  ·have:=weight_mem h;omega
theorem bits_of {ns:List Int} (h:WData.layableAll [WData.list (ns.map WData.int)]=true):∀n∈ns,n.natAbs.log2≤1048576:=by
 intro n hn
 have h1:(WData.list (ns.map WData.int)).layable=true:=by simpa[WData.layableAll] using h
 have h2:=(layableW_iff.mp h1).2.2
 rw[WData.weight] at h2
 have h3:=weight_mem hn
 by_cases z:n=0
 ·subst z;decide
 ·rw[if_neg (by simpa using z)] at h3;omega
theorem walk3 {l:OpenLaw} {n k:Nat} {q:Program} {loose:List Str} {XP:(Str→Option Value)→Heap→Prop} {YP:World→Heap→Prop} {d:DefRec} {K:Params→Frag} {x:Str} {m:List D→M D}
  (hn:l.most=some n) (hn2:n≤sizeLine) (hdf:d.params.defaults=[]) (hr:L2.Room k callerA) (hY:∀(w:World) (h:Heap),YP w h→(K w.params).In h)
  (F:∀(w:World) (mg:Str→Option Value) (fa:Addr) (h:Heap),(K w.params).In h→h.Ns mainGlobals mg→mg d.name=some (.ref fa)→∃(G:G3) (fd:FuncData),G.K=K w.params∧G.tabs=[]∧(∀(s:Shared) (u:Value),BindsTo s fd ⟨[u],[]⟩ [(x,u)])∧
    ∀base:Heap,(K w.params).In base→base.Ns mainGlobals mg→L2.FnOk l.prog w (K w.params) mg base (L2.CX l.prog w) k fa fd [x] (spM G 1 m))
  (hm:∀ns:List Int,ns.length≤n→(∀i∈ns,i.natAbs.log2≤1048576)→∃st,m [.ro (ns.map .int)] []=.ok (.bl true) st):WalkO q loose XP YP l.row.toRowW d [] (fun f vs=>PySem.call f vs):=by
 intro w s₀ s₁ mg mb Gr Y fa o pm cd doc dV kV ho hd hcd hD hmg hg args vals as hpre hlay hrd hwl hlo
 cases Dflts.none hD hdf
 cases Dflts.noKw hD
 obtain⟨a,vs,ns,rfl,rfl,hobj,hints,hlen⟩:=Att.script_of hn hpre hwl
 have KX:=hY w _ Y
 obtain⟨G,fd,hK,hT0,hb,hF⟩:=F w mg fa _ KX Gr.T.g hmg
 obtain⟨st,hst⟩:=hm ns hlen (bits_of hlay)
 refine enter_call (codeAny_mono (L2.law_call (CX:=L2.CX l.prog w) KX Gr.T.g Gr.T.b Gr.T.builtins Gr.T.nolimit hg hobj hints (Nat.le_trans hlen hn2) hr hF hb (fun H hO hS=>?_) fun H e s' hq=>?_) fun r s' hq=>?_)
 ·refine⟨rfl,fun _=>False,⟨fun _=>none,H,H⟩,[],[.ro (ns.map .int)],rfl,⟨fun _ _ e=>e,fun _ z=>z.elim,(fun b o e ps q=>by subst q;rcases hO b with z | ⟨_,_,z⟩ <;> (rw[show H b=_ from e] at z;cases z)),(fun _ _ z=>nomatch z),(fun _ _ _ _ _ z=>nomatch z),(fun _ _ z=>nomatch z),(fun _ _ z=>nomatch z),(by rw[hT0];exact fun _ z=>nomatch z)⟩,.cons (.ro (by show L2.SqL G.K _ _ _;rw[hK];exact hS) ?_) .nil,?_⟩
  ·clear hst hobj hints hlen hS hlay hrd hwl hpre
   induction ns with
   | nil=>exact .nil
   | cons i ns ih=>exact .cons .int ih
  ·rw[hst]
   intro s2 v l2 w2 r2
   cases r2
   rfl
 ·obtain⟨_,_,_,_,_,_,_,_,_,_,_,_,z⟩:=hq
  exact z
 ·obtain⟨rfl,h2,h3,h4⟩:=hq
  exact⟨.inl ⟨.bool true,.bool true,[],rfl,fun _=>rfl,.bool true,Att.post_true l _,fun _=>⟨List.Pairwise.nil,fun _ hm=>(nomatch hm)⟩⟩,h2,h3,h4⟩
end M3
namespace M3
open PySem L2
def run {α:Type} (r:Res α) (k:Res α→Prop):Prop:=k r
def srun (r:SRes) (k:SRes→Prop):Prop:=k r
theorem of_run {α:Type} {r x:Res α} (h:run r (fun y=>y=x)):r=x:=h
theorem srun_mono {r:SRes} {k k':SRes→Prop} (h:srun r k) (i:∀r,k r→k' r):srun r k':=i _ h
section
variable {α β γ:Type} {k:Res α→Prop} {kb:Res β→Prop} {ks:SRes→Prop} {st:Store} {u:Sl3}
@[simp] theorem run_ok (a:α):run (.ok a st) k=k (.ok a st):=rfl
@[simp] theorem run_err (c x):run (.err c x st:Res α) k=k (.err c x st):=rfl
@[simp] theorem run_bad:run (.bad:Res α) k=k .bad:=rfl
@[simp] theorem srun_nx:srun (.nx u st) ks=ks (.nx u st):=rfl
@[simp] theorem srun_rt (w):srun (.rt w st) ks=ks (.rt w st):=rfl
@[simp] theorem srun_bk:srun (.bk u st) ks=ks (.bk u st):=rfl
@[simp] theorem srun_ct:srun (.ct u st) ks=ks (.ct u st):=rfl
@[simp] theorem srun_err (c x):srun (.err c x u st) ks=ks (.err c x u st):=rfl
@[simp] theorem srun_bad:srun .bad ks=ks .bad:=rfl
def kBind (f:α→M β) (k:Res β→Prop):Res α→Prop
 | .ok a st=>run (f a st) k
 | .err c x st=>k (.err c x st)
 | .bad=>k .bad
@[simp] theorem kBind_ok (f:α→M β) (a):kBind f kb (.ok a st)=run (f a st) kb:=rfl
@[simp] theorem kBind_err (f:α→M β) (c x):kBind f kb (.err c x st)=kb (.err c x st):=rfl
@[simp] theorem kBind_bad (f:α→M β):kBind f kb .bad=kb .bad:=rfl
@[simp] theorem run_bind (m:M α) (f:α→M β):run (M.bind m f st) kb=run (m st) (kBind f kb):=by
 unfold run M.bind kBind
 cases m st <;> rfl
@[simp] theorem run_pure (a:α):run (M.pure a st) k=k (.ok a st):=rfl
@[simp] theorem run_Mbad:run (M.bad st) k=k .bad:=rfl
@[simp] theorem run_of_some (a:α):run (M.of (some a) st) k=k (.ok a st):=rfl
@[simp] theorem run_of_none:run (M.of (none:Option α) st) k=k .bad:=rfl
@[simp] theorem run_of_ite (p:Prop) [Decidable p] (a b:Option α):run (M.of (if p then a else b) st) k=if p then run (M.of a st) k else run (M.of b st) k:=by split <;> rfl
@[simp] theorem run_chk (p:Prop) [Decidable p] {k:Res Unit→Prop}:run (M.chk p st) k=if p then k (.ok () st) else k .bad:=by unfold run M.chk;split <;> rfl
def kQuiet (k:Res α→Prop):Res α→Prop
 | .ok a st=>k (.ok a st)
 | _=>k .bad
@[simp] theorem kQuiet_ok (a):kQuiet k (.ok a st)=k (.ok a st):=rfl
@[simp] theorem kQuiet_err (c x):kQuiet k (.err c x st)=k .bad:=rfl
@[simp] theorem kQuiet_bad:kQuiet k (.bad:Res α)=k .bad:=rfl
@[simp] theorem run_quiet (m:M α):run (M.quiet m st) k=run (m st) (kQuiet k):=by unfold run M.quiet kQuiet;cases m st <;> rfl
end
section
variable {k:Res W→Prop} {ka:Res (List W)→Prop} {kt:Res Bool→Prop} {kf:Res (List D)→Prop} {kd:Res D→Prop} {ki:Res (Option Int)→Prop} {ks:SRes→Prop} {st:Store} {u:Sl3} {a b c m:EM} {ma ms:AM} {fm:FM} {t t':TM} {g g':W→W→Option W}
def kVar (st:Store) (k:Res W→Prop):Option (Option W)→Prop
 | some (some w)=>k (.ok w st)
 | _=>k .bad
@[simp] theorem kVar_some (w):kVar st k (some (some w))=k (.ok w st):=rfl
@[simp] theorem kVar_none:kVar st k (some none)=k .bad:=rfl
@[simp] theorem kVar_out:kVar st k none=k .bad:=rfl
@[simp] theorem run_eVar (i:Nat):run (eVar i u st) k=kVar st k u[i]?:=by
 unfold run eVar kVar
 cases u[i]? with
 | none=>rfl
 | some o=>cases o <;> rfl
@[simp] theorem run_eC (d:D):run (eC d u st) k=k (.ok (.val d) st):=rfl
@[simp] theorem run_aNil:run (aNil u st) ka=ka (.ok [] st):=rfl
@[simp] theorem run_aCons:run (aCons m ms u st) ka=run (m u st) (kBind (fun w=>M.bind (ms u) fun ws=>M.pure (w :: ws)) ka):=run_bind _ _
@[simp] theorem run_eTup:run (eTup ma u st) k=run (ma u st) (kBind (fun ws=>M.bind (M.of (asDs ws)) fun ds=>M.bind (M.chk (ds.length≤1000000)) fun _=>M.pure (.val (.tup ds))) k):=run_bind _ _
@[simp] theorem run_fLst:run (fLst ma u st) kf=run (ma u st) (kBind (fun ws=>M.bind (M.of (asDs ws)) fun ds=>M.bind (M.chk (ds.length≤1000000)) fun _=>M.pure ds) kf):=run_bind _ _
@[simp] theorem run_eF:run (eF fm u st) k=run (fm u st) (kBind (fun xs=>M.pure (.val (.lst xs))) k):=run_bind _ _
@[simp] theorem run_eBin:run (eBin g a b u st) k=run (a u st) (kBind (fun x=>M.bind (b u) fun y=>M.of (g x y)) k):=run_bind _ _
@[simp] theorem run_tOf:run (tOf m u st) kt=run (m u st) (kBind (fun w=>M.of w.bool) kt):=run_bind _ _
@[simp] theorem run_tTru:run (tTru m u st) kt=run (m u st) (kBind (fun w=>M.of w.tru) kt):=run_bind _ _
@[simp] theorem run_eAnd:run (eAnd a b u st) k=run (a u st) (kBind (fun w=>M.bind (M.of w.tru) fun c=>if c=true then b u else M.pure w) k):=run_bind _ _
@[simp] theorem run_eOr:run (eOr a b u st) k=run (a u st) (kBind (fun w=>M.bind (M.of w.tru) fun c=>if c=true then M.pure w else b u) k):=run_bind _ _
@[simp] theorem run_eNot:run (eNot a u st) k=run (a u st) (kBind (fun w=>M.bind (M.of w.tru) fun c=>M.pure (.val (.bl (!c)))) k):=run_bind _ _
@[simp] theorem run_tAnd3:run (tAnd3 t t' u st) kt=run (t u st) (kBind (fun c=>if c=true then t' u else M.pure false) kt):=run_bind _ _
@[simp] theorem run_tOr3:run (tOr3 t t' u st) kt=run (t u st) (kBind (fun c=>if c=true then M.pure true else t' u) kt):=run_bind _ _
@[simp] theorem run_tNot3:run (tNot3 t u st) kt=run (t u st) (kBind (fun c=>M.pure (!c)) kt):=run_bind _ _
@[simp] theorem run_ite {α:Type} {k:Res α→Prop} (p:Prop) [Decidable p] (x y:M α):run ((if p then x else y) st) k=if p then run (x st) k else run (y st) k:=by split <;> rfl
@[simp] theorem run_eChain:run (eChain g g' a b c u st) k=run (a u st) (kBind (fun x=>M.bind (b u) fun y=>M.bind (M.of (g x y)) fun q=>M.bind (M.of q.bool) fun q=>if q=true then M.bind (c u) fun w=>M.of (g' y w) else M.pure (.val (.bl false))) k):=run_bind _ _
@[simp] theorem run_eIf:run (eIf t a b u st) k=run (t u st) (kBind (fun c=>if c=true then a u else b u) k):=run_bind _ _
@[simp] theorem run_pNone:run (pNone u st) ki=ki (.ok none st):=rfl
@[simp] theorem run_pSome (i:Int) (h:m u st=.ok (.val (.int i)) st):run (pSome m u st) ki=ki (.ok (some i) st):=by unfold run pSome M.bind;rw[h];rfl
def kPart (k:Res (Option Int)→Prop):Res W→Prop
 | .ok (.val (.int i)) st=>k (.ok (some i) st)
 | .ok _ _=>k .bad
 | .err c x st=>k (.err c x st)
 | .bad=>k .bad
@[simp] theorem kPart_ok (i:Int):kPart ki (.ok (.val (.int i)) st)=ki (.ok (some i) st):=rfl
@[simp] theorem run_pSome':run (pSome m u st) ki=run (m u st) (kPart ki):=by
 unfold run pSome M.bind kPart
 cases m u st with
 | ok w st'=>
  cases w with
  | val d=>cases d <;> rfl
  | _=>rfl
 | _=>rfl
def slA (x:W) (a b:Option Int):Option W:=match x.ls with
 | some xs=>some (.val (.lst (cutD xs a b)))
 | none=>slF x a b
@[simp] theorem slA_lst (xs a b):slA (.val (.lst xs)) a b=some (.val (.lst (cutD xs a b))):=rfl
@[simp] theorem slA_bor (xs a b):slA (.bor xs) a b=some (.val (.lst (cutD xs a b))):=rfl
@[simp] theorem slA_tup (xs a b):slA (.val (.tup xs)) a b=some (.val (.tup (cutD xs a b))):=rfl
@[simp] theorem slA_str (z a b):slA (.val (.str z)) a b=if z.length≤1000000 then some (.val (.str (cutS z a b))) else none:=rfl
@[simp] theorem run_eSlA {l h:Sl3→M (Option Int)}:run (eSlA m l h u st) k=run (m u st) (kBind (fun x=>M.bind (l u) fun a=>M.bind (h u) fun b=>M.of (slA x a b)) k):=by
 have e:eSlA m l h u=M.bind (m u) fun x=>M.bind (l u) fun a=>M.bind (h u) fun b=>M.of (slA x a b):=by
  unfold eSlA slA
  congr 1
  funext x
  cases x.ls <;> rfl
 rw[e];exact run_bind _ _
@[simp] theorem run_eB (g:List W→Option W):run (eB g ma u st) k=run (ma u st) (kBind (fun ws=>M.of (g ws)) k):=run_bind _ _
@[simp] theorem run_fB (g:List W→Option (List D)):run (fB g ma u st) kf=run (ma u st) (kBind (fun ws=>M.of (g ws)) kf):=run_bind _ _
@[simp] theorem run_eCall (n:Nat) (f:List D→M D):run (eCall n f ma u st) k=run (ma u st) (kBind (fun ws=>M.bind (M.of (asDs ws)) fun ds=>M.bind (M.chk (ds.length=n)) fun _=>M.bind (f ds) fun d=>M.pure (.val d)) k):=run_bind _ _
def kSeqs (k:Res (List D)→Prop):Res W→Prop
 | .ok (.val d) st=>run (M.of d.walk st) k
 | .ok _ _=>k .bad
 | .err c x st=>k (.err c x st)
 | .bad=>k .bad
@[simp] theorem kSeqs_ok (d:D):kSeqs kf (.ok (.val d) st)=run (M.of d.walk st) kf:=rfl
@[simp] theorem run_iSeq:run (iSeq m u st) kf=run (m u st) (kSeqs kf):=by
 unfold run iSeq M.bind kSeqs
 cases m u st with
 | ok w st'=>cases w <;> rfl
 | _=>rfl
@[simp] theorem rng1_int (j:Int):rng1 [.val (.int j)]=if -1000000≤j∧j≤1000000 then some (rangeD 0 j.toNat) else none:=rfl
@[simp] theorem rng2_int (i j:Int):rng2 [.val (.int i),.val (.int j)]=if -1000000≤i∧i≤1000000∧-1000000≤j∧j≤1000000 then some (rangeD i (j - i).toNat) else none:=rfl
@[simp] theorem run_iRange1:run (iRange1 ma u st) kf=run (ma u st) (kBind (fun ws=>M.of (rng1 ws)) kf):=run_bind _ _
@[simp] theorem run_iRange2:run (iRange2 ma u st) kf=run (ma u st) (kBind (fun ws=>M.of (rng2 ws)) kf):=run_bind _ _
@[simp] theorem run_fLc {gm:GM} {own:List Nat}:run (fLc fm gm t m own u st) kf=run (fm u st) (kBind (fun ds=>lcL gm t m (wipe3 u own) ds []) kf):=run_bind _ _
@[simp] theorem lcL_nil {gm:GM} {u0:Sl3} (acc):lcL gm t m u0 [] acc=M.pure acc:=rfl
@[simp] theorem lcL_cons {gm:GM} {u0:Sl3} (d ds acc):run (lcL gm t m u0 (d :: ds) acc st) kf=run (M.of (gm d u0) st) (kBind (fun u1=>M.bind (M.quiet (t u1)) fun k=>
  if k=true then M.bind (M.quiet (m u1)) fun w=>M.bind (M.of w.d) fun x=>M.bind (M.chk (acc.length<1000000)) fun _=>lcL gm t m u0 ds (acc++[x])
  else lcL gm t m u0 ds acc) kf):=run_bind _ _
@[simp] theorem run_tYes3:run (tYes3 u st) kt=kt (.ok true st):=rfl
@[simp] theorem gName3_eq (i d):gName3 i d u=some (u.set i (some (.val d))):=rfl
@[simp] theorem gNil3_eq:gNil3 [] u=some u:=rfl
@[simp] theorem gCons3_eq (g gs d ds):gCons3 g gs (d :: ds) u=(g d u).bind (gs ds):=rfl
@[simp] theorem gTup3_eq (n gs ds):gTup3 n gs (.tup ds) u=if ds.length=n then gs ds u else none:=rfl
def kSeq (b:SM) (k:SRes→Prop):SRes→Prop
 | .nx u st=>srun (b u st) k
 | r=>k r
@[simp] theorem kSeq_nx (s:SM):kSeq s ks (.nx u st)=srun (s u st) ks:=rfl
@[simp] theorem kSeq_rt (s:SM) (w):kSeq s ks (.rt w st)=ks (.rt w st):=rfl
@[simp] theorem kSeq_bk (s:SM):kSeq s ks (.bk u st)=ks (.bk u st):=rfl
@[simp] theorem kSeq_ct (s:SM):kSeq s ks (.ct u st)=ks (.ct u st):=rfl
@[simp] theorem kSeq_err (s:SM) (c x):kSeq s ks (.err c x u st)=ks (.err c x u st):=rfl
@[simp] theorem kSeq_bad (s:SM):kSeq s ks .bad=ks .bad:=rfl
@[simp] theorem run_sSeq (s s':SM):srun (sSeq s s' u st) ks=srun (s u st) (kSeq s' ks):=by unfold srun sSeq kSeq;cases s u st <;> rfl
@[simp] theorem run_sNext:srun (sNext u st) ks=ks (.nx u st):=rfl
@[simp] theorem run_sBreak:srun (sBreak u st) ks=ks (.bk u st):=rfl
@[simp] theorem run_sCont:srun (sCont u st) ks=ks (.ct u st):=rfl
@[simp] theorem run_sRetN:srun (sRetN u st) ks=ks (.rt (.val .non) st):=rfl
def kSet (i:Nat) (u:Sl3) (k:SRes→Prop):Res W→Prop
 | .ok (.val d) st=>k (.nx (u.set i (some (.val d))) st)
 | .ok _ _=>k .bad
 | .err c x st=>k (.err c x u st)
 | .bad=>k .bad
def kRetV (u:Sl3) (k:SRes→Prop):Res W→Prop
 | .ok (.val d) st=>k (.rt (.val d) st)
 | .ok _ _=>k .bad
 | .err c x st=>k (.err c x u st)
 | .bad=>k .bad
def kDrop (u:Sl3) (k:SRes→Prop):Res W→Prop
 | .ok _ st=>k (.nx u st)
 | .err c x st=>k (.err c x u st)
 | .bad=>k .bad
def kOwnS (i:Nat) (u:Sl3) (k:SRes→Prop):Res (List D)→Prop
 | .ok xs st=>k (.nx (u.set i (some (.bor xs))) st)
 | .err c x st=>k (.err c x u st)
 | .bad=>k .bad
def kFor (gm:GM) (s:SM) (u:Sl3) (k:SRes→Prop):Res (List D)→Prop
 | .ok ds st=>srun (forL gm s ds u st) k
 | .err c x st=>k (.err c x u st)
 | .bad=>k .bad
def kIf (s s':SM) (u:Sl3) (k:SRes→Prop):Res Bool→Prop
 | .ok c st=>if c=true then srun (s u st) k else srun (s' u st) k
 | .err c x st=>k (.err c x u st)
 | .bad=>k .bad
@[simp] theorem kSet_ok (i d):kSet i u ks (.ok (.val d) st)=ks (.nx (u.set i (some (.val d))) st):=rfl
@[simp] theorem kSet_err (i c x):kSet i u ks (.err c x st)=ks (.err c x u st):=rfl
@[simp] theorem kSet_bad (i):kSet i u ks .bad=ks .bad:=rfl
@[simp] theorem kRetV_ok (d):kRetV u ks (.ok (.val d) st)=ks (.rt (.val d) st):=rfl
@[simp] theorem kRetV_err (c x):kRetV u ks (.err c x st)=ks (.err c x u st):=rfl
@[simp] theorem kRetV_bad:kRetV u ks .bad=ks .bad:=rfl
@[simp] theorem kDrop_ok (w):kDrop u ks (.ok w st)=ks (.nx u st):=rfl
@[simp] theorem kDrop_err (c x):kDrop u ks (.err c x st)=ks (.err c x u st):=rfl
@[simp] theorem kOwnS_ok (i xs):kOwnS i u ks (.ok xs st)=ks (.nx (u.set i (some (.bor xs))) st):=rfl
@[simp] theorem kFor_ok (gm s ds):kFor gm s u ks (.ok ds st)=srun (forL gm s ds u st) ks:=rfl
@[simp] theorem kFor_err (gm s c x):kFor gm s u ks (.err c x st)=ks (.err c x u st):=rfl
@[simp] theorem kIf_ok (s s' c):kIf s s' u ks (.ok c st)=if c=true then srun (s u st) ks else srun (s' u st) ks:=rfl
@[simp] theorem kIf_err (s s' c x):kIf s s' u ks (.err c x st)=ks (.err c x u st):=rfl
@[simp] theorem run_sSet (i:Nat):srun (sSet i m u st) ks=run (m u st) (kSet i u ks):=by
 unfold srun sSet run kSet
 cases m u st with
 | ok w st'=>cases w <;> rfl
 | _=>rfl
@[simp] theorem run_sRetV:srun (sRetV m u st) ks=run (m u st) (kRetV u ks):=by
 unfold srun sRetV run kRetV
 cases m u st with
 | ok w st'=>cases w <;> rfl
 | _=>rfl
@[simp] theorem run_sDrop:srun (sDrop m u st) ks=run (m u st) (kDrop u ks):=by unfold srun sDrop run kDrop;cases m u st <;> rfl
@[simp] theorem run_sOwn (i:Nat):srun (sOwn i fm u st) ks=run (fm u st) (kOwnS i u ks):=by unfold srun sOwn run kOwnS;cases fm u st <;> rfl
@[simp] theorem run_sIf (s s':SM):srun (sIf t s s' u st) ks=run (t u st) (kIf s s' u ks):=by
 unfold srun sIf run kIf
 cases t u st with
 | ok c st'=>cases c <;> rfl
 | _=>rfl
def kRetOwn (st:Store) (k:SRes→Prop):Option (Option W)→Prop
 | some (some (.bor xs))=>k (.rt (.bor xs) st)
 | _=>k .bad
@[simp] theorem kRetOwn_bor (xs):kRetOwn st ks (some (some (.bor xs)))=ks (.rt (.bor xs) st):=rfl
@[simp] theorem run_sRetO (i:Nat):srun (sRetO i u st) ks=kRetOwn st ks u[i]?:=by
 unfold srun sRetO kRetOwn
 cases u[i]? with
 | none=>rfl
 | some o=>
  cases o with
  | none=>rfl
  | some w=>cases w <;> rfl
def kApp (i:Nat) (u:Sl3) (xs:List D) (k:SRes→Prop):Res W→Prop
 | .ok (.val d) st=>if xs.length<1000000 then k (.nx (u.set i (some (.bor (xs++[d])))) st) else k .bad
 | .ok _ _=>k .bad
 | .err c x st=>k (.err c x u st)
 | .bad=>k .bad
def kAppTo (i:Nat) (m:EM) (u:Sl3) (st:Store) (k:SRes→Prop):Option (Option W)→Prop
 | some (some (.bor xs))=>run (m u st) (kApp i u xs k)
 | _=>k .bad
@[simp] theorem kApp_ok (i xs d):kApp i u xs ks (.ok (.val d) st)=if xs.length<1000000 then ks (.nx (u.set i (some (.bor (xs++[d])))) st) else ks .bad:=rfl
@[simp] theorem kAppTo_bor (i xs):kAppTo i m u st ks (some (some (.bor xs)))=run (m u st) (kApp i u xs ks):=rfl
@[simp] theorem run_sApp (i:Nat):srun (sApp i m u st) ks=kAppTo i m u st ks u[i]?:=by
 unfold srun sApp kAppTo run kApp
 cases u[i]? with
 | none=>rfl
 | some o=>
  cases o with
  | none=>rfl
  | some w=>
   cases w with
   | bor xs=>
    dsimp only
    cases m u st with
    | ok w st'=>
     cases w with
     | val d=>dsimp only;split <;> rfl
     | _=>rfl
    | _=>rfl
   | _=>rfl
@[simp] theorem run_sFor {gm:GM} (s:SM):srun (sFor fm gm s u st) ks=run (fm u st) (kFor gm s u ks):=by unfold srun sFor run kFor;cases fm u st <;> rfl
@[simp] theorem run_forL_nil {gm:GM} (s:SM):srun (forL gm s [] u st) ks=ks (.nx u st):=rfl
@[simp] theorem wipe3_nil:wipe3 u []=u:=rfl
@[simp] theorem wipe3_cons (v vs):wipe3 u (v :: vs)=(wipe3 u vs).set v none:=rfl
def kTurn (f:Sl3→Store→Prop) (k:SRes→Prop):SRes→Prop
 | .nx u st=>f u st
 | .ct u st=>f u st
 | .bk u st=>k (.nx u st)
 | r=>k r
@[simp] theorem kTurn_nx (f):kTurn f ks (.nx u st)=f u st:=rfl
@[simp] theorem kTurn_ct (f):kTurn f ks (.ct u st)=f u st:=rfl
@[simp] theorem kTurn_bk (f):kTurn f ks (.bk u st)=ks (.nx u st):=rfl
@[simp] theorem kTurn_rt (f w):kTurn f ks (.rt w st)=ks (.rt w st):=rfl
@[simp] theorem kTurn_err (f c x):kTurn f ks (.err c x u st)=ks (.err c x u st):=rfl
@[simp] theorem kTurn_bad (f):kTurn f ks .bad=ks .bad:=rfl
theorem run_forL_cons {gm:GM} (s:SM) {d:D} {ds:List D} {u1:Sl3} (h:gm d u=some u1):srun (forL gm s (d :: ds) u st) ks=srun (s u1 st) (kTurn (fun u st=>srun (forL gm s ds u st) ks) ks):=by
 unfold srun
 rw[forL,h]
 dsimp only
 unfold kTurn
 cases s u1 st <;> rfl
theorem forL_run {gm:GM} {s:SM} {ds:List D} (I:Nat→Sl3→Store→Prop) (h0:I 0 u st) (turn:∀i d u st,ds[i]?=some d→I i u st→∃u1,gm d u=some u1∧srun (s u1 st) (kTurn (I (i+1)) ks)) (fin:∀u st,I ds.length u st→ks (.nx u st)):srun (forL gm s ds u st) ks:=by
 have all:∀(n i:Nat) (u:Sl3) (st:Store),i+n=ds.length→I i u st→srun (forL gm s (ds.drop i) u st) ks:=by
  intro n
  induction n with
  | zero=>
   intro i u st hi hI
   rw[List.drop_eq_nil_of_le (by omega)]
   have:i=ds.length:=by omega
   subst this
   exact fin u st hI
  | succ n ih=>
   intro i u st hi hI
   have hl:i<ds.length:=by omega
   rw[List.drop_eq_getElem_cons hl]
   obtain⟨u1,e,t⟩:=turn i ds[i] u st (List.getElem?_eq_getElem hl) hI
   rw[run_forL_cons s e]
   refine srun_mono t fun r hr=>?_
   cases r with
   | nx u' st'=>exact ih (i+1) u' st' (by omega) hr
   | ct u' st'=>exact ih (i+1) u' st' (by omega) hr
   | _=>exact hr
 have:=all ds.length 0 u st (by omega) h0
 simpa using this
theorem whileL_run {t:TM} {s:SM} (I:Nat→Sl3→Store→Prop) (n m:Nat) (hn:m<n) (h0:I m u st) (turn:∀m u st,I m u st→run (t u st) (fun r=>match r with
  | .ok true st1=>srun (s u st1) (kTurn (fun u st=>∃m',m'<m∧I m' u st) ks)
  | .ok false st1=>ks (.nx u st1)
  | .err c x st1=>ks (.err c x u st1)
  | .bad=>ks .bad)):srun (whileL t s n u st) ks:=by
 induction n generalizing m u st with
 | zero=>omega
 | succ n ih=>
  have q:=turn m u st h0
  unfold run at q
  unfold srun
  rw[whileL]
  cases e:t u st with
  | ok c st1=>
   rw[e] at q
   cases c with
   | true=>
    dsimp only at q⊢
    unfold srun at q
    cases e2:s u st1 with
    | nx u' st'=>rw[e2] at q;obtain⟨m',hm,hI⟩:=q;exact ih m' (by omega) hI
    | ct u' st'=>rw[e2] at q;obtain⟨m',hm,hI⟩:=q;exact ih m' (by omega) hI
    | bk u' st'=>rw[e2] at q;exact q
    | rt w st'=>rw[e2] at q;exact q
    | err c x u' st'=>rw[e2] at q;exact q
    | bad=>rw[e2] at q;exact q
   | false=>exact q
  | err c x st1=>rw[e] at q;exact q
  | bad=>rw[e] at q;exact q
theorem lcL_eq {gm:GM} {u0:Sl3} (p:D→Bool) (f:D→D):∀(ds acc:List D),(∀d∈ds,∃u1,gm d u0=some u1∧t u1 st=.ok (p d) st∧(p d=true→m u1 st=.ok (.val (f d)) st))→acc.length+ds.length≤1000000→
  lcL gm t m u0 ds acc st=.ok (acc++(ds.filter p).map f) st
 | [],acc,_,_=>by simp[lcL,M.pure]
 | d :: ds,acc,h,hz=>by
  obtain⟨u1,e1,e2,e3⟩:=h d List.mem_cons_self
  have ih:=fun acc=>lcL_eq p f ds acc fun d hd=>h d (List.mem_cons_of_mem _ hd)
  simp only[List.length_cons] at hz
  apply of_run
  rw[lcL_cons,e1]
  simp only[run_of_some,kBind_ok,run_bind,run_quiet,e2,run_ok,kQuiet_ok,run_ite]
  cases hp:p d with
  | false=>
   rw[if_neg Bool.false_ne_true,ih acc (by omega)]
   simp[hp]
  | true=>
   rw[if_pos rfl,e3 hp]
   simp only[run_ok,kQuiet_ok,kBind_ok,run_bind,W.d,run_of_some,run_chk]
   rw[if_pos (by omega),ih _ (by simp;omega)]
   simp[hp]
def kRet (k:Res D→Prop):SRes→Prop
 | .nx _ st=>k (.ok .non st)
 | .rt (.val d) st=>k (.ok d st)
 | .rt (.bor xs) st=>k (.ok (.lst xs) st)
 | .err c x _ st=>k (.err c x st)
 | _=>k .bad
@[simp] theorem kRet_nx:kRet kd (.nx u st)=kd (.ok .non st):=rfl
@[simp] theorem kRet_rt (d):kRet kd (.rt (.val d) st)=kd (.ok d st):=rfl
@[simp] theorem kRet_bor (xs):kRet kd (.rt (.bor xs) st)=kd (.ok (.lst xs) st):=rfl
@[simp] theorem kRet_err (c x):kRet kd (.err c x u st)=kd (.err c x st):=rfl
@[simp] theorem kRet_bad:kRet kd .bad=kd .bad:=rfl
theorem run_mfn (N:Nat) (mb:SM) (ds:List D):run (mfn N mb ds st) kd=srun (mb (ds.map (fun d=>some (.val d))++List.replicate (N - ds.length) none) st) (kRet kd):=by
 unfold run mfn srun kRet
 cases mb (ds.map (fun d=>some (.val d))++List.replicate (N - ds.length) none) st with
 | rt w st'=>cases w <;> rfl
 | _=>rfl
end
@[simp] theorem asDs_nil:asDs []=some []:=rfl
@[simp] theorem asDs_cons (d:D) (ws:List W):asDs (.val d :: ws)=(asDs ws).map (d :: ·):=rfl
@[simp] theorem W_d_val (d:D):(W.val d).d=some d:=rfl
@[simp] theorem W_bool_bl (b:Bool):(W.val (.bl b)).bool=some b:=rfl
@[simp] theorem W_rd_val (d:D):(W.val d).rd=some d:=rfl
@[simp] theorem W_rd_bor (xs:List D):(W.bor xs).rd=some (.lst xs):=rfl
@[simp] theorem W_ls_lst (xs:List D):(W.val (.lst xs)).ls=some xs:=rfl
@[simp] theorem W_ls_bor (xs:List D):(W.bor xs).ls=some xs:=rfl
@[simp] theorem walk_tup (xs:List D):(D.tup xs).walk=some xs:=rfl
@[simp] theorem walk_ctup (xs:List D):(D.ctup xs).walk=some xs:=rfl
@[simp] theorem walk_lst (xs:List D):(D.lst xs).walk=some xs:=rfl
@[simp] theorem walk_ro (xs:List D):(D.ro xs).walk=some xs:=rfl
@[simp] theorem walk_str (x:Str):(D.str x).walk=some (x.cps.toList.map fun c=>.str ⟨#[c]⟩):=rfl
@[simp] theorem items_ctup (xs:List D):(D.ctup xs).items=some xs:=rfl
@[simp] theorem items_tup (xs:List D):(D.tup xs).items=some xs:=rfl
@[simp] theorem items_lst (xs:List D):(D.lst xs).items=some xs:=rfl
@[simp] theorem items_ro (xs:List D):(D.ro xs).items=some xs:=rfl
@[simp] theorem tru_non:(W.val .non).tru=some false:=rfl
@[simp] theorem tru_bl (b:Bool):(W.val (.bl b)).tru=some b:=rfl
@[simp] theorem tru_int (i:Int):(W.val (.int i)).tru=some (i != 0):=rfl
@[simp] theorem tru_tup (xs:List D):(W.val (.tup xs)).tru=some (!xs.isEmpty):=rfl
@[simp] theorem tru_lst (xs:List D):(W.val (.lst xs)).tru=some (!xs.isEmpty):=rfl
@[simp] theorem tru_bor (xs:List D):(W.bor xs).tru=some (!xs.isEmpty):=rfl
@[simp] theorem addF_int (i j:Int):addF (.val (.int i)) (.val (.int j))=some (.val (.int (i+j))):=rfl
@[simp] theorem addF_str (x y:Str):addF (.val (.str x)) (.val (.str y))=if x.length+y.length≤1000000 then some (.val (.str (x++y))) else none:=rfl
@[simp] theorem addF_tup (xs ys:List D):addF (.val (.tup xs)) (.val (.tup ys))=if xs.length+ys.length≤1000000 then some (.val (.tup (xs++ys))) else none:=rfl
@[simp] theorem addF_lst (xs ys:List D):addF (.val (.lst xs)) (.val (.lst ys))=if xs.length+ys.length≤1000000 then some (.val (.lst (xs++ys))) else none:=rfl
@[simp] theorem addF_bl (xs ys:List D):addF (.bor xs) (.val (.lst ys))=if xs.length+ys.length≤1000000 then some (.val (.lst (xs++ys))) else none:=rfl
@[simp] theorem addF_lb (xs ys:List D):addF (.val (.lst xs)) (.bor ys)=if xs.length+ys.length≤1000000 then some (.val (.lst (xs++ys))) else none:=rfl
@[simp] theorem addF_bb (xs ys:List D):addF (.bor xs) (.bor ys)=if xs.length+ys.length≤1000000 then some (.val (.lst (xs++ys))) else none:=rfl
@[simp] theorem subF_int (i j:Int):subF (.val (.int i)) (.val (.int j))=some (.val (.int (i - j))):=rfl
@[simp] theorem modF_int (i j:Int):modF (.val (.int i)) (.val (.int j))=if 0<j then some (.val (.int (i % j))) else none:=by simp[modF,intF]
@[simp] theorem divF_int (i j:Int):divF (.val (.int i)) (.val (.int j))=if 0<j∧j<1073741824 then some (.val (.int (i / j))) else none:=by simp[divF,intF]
@[simp] theorem powF_int (i j:Int):powF (.val (.int i)) (.val (.int j))=if 0≤j∧j≤1000∧i.natAbs<1000000 then some (.val (.int (i ^ j.toNat))) else none:=by simp[powF,intF]
@[simp] theorem mulF_int (i j:Int):mulF (.val (.int i)) (.val (.int j))=if mulC i j=true then some (.val (.int (i * j))) else none:=rfl
@[simp] theorem mulF_str (x:Str) (j:Int):mulF (.val (.str x)) (.val (.int j))=if MulS x j=true then some (.val (.str (Txt.mul x j))) else none:=rfl
@[simp] theorem ltF_int (i j:Int):ltF (.val (.int i)) (.val (.int j))=some (.val (.bl (decide (i<j)))):=rfl
@[simp] theorem leF_int (i j:Int):leF (.val (.int i)) (.val (.int j))=some (.val (.bl (decide (i≤j)))):=rfl
@[simp] theorem gtF_int (i j:Int):gtF (.val (.int i)) (.val (.int j))=some (.val (.bl (decide (j<i)))):=rfl
@[simp] theorem geF_int (i j:Int):geF (.val (.int i)) (.val (.int j))=some (.val (.bl (decide (j≤i)))):=rfl
@[simp] theorem isNF_non (b:Bool):isNF b (.val .non) (.val .non)=some (.val (.bl (!b))):=by cases b <;> rfl
@[simp] theorem isNF_int (b:Bool) (i):isNF b (.val (.int i)) (.val .non)=some (.val (.bl b)):=rfl
@[simp] theorem isNF_str (b:Bool) (i):isNF b (.val (.str i)) (.val .non)=some (.val (.bl b)):=rfl
@[simp] theorem isNF_tup (b:Bool) (i):isNF b (.val (.tup i)) (.val .non)=some (.val (.bl b)):=rfl
@[simp] theorem isNF_lst (b:Bool) (i):isNF b (.val (.lst i)) (.val .non)=some (.val (.bl b)):=rfl
@[simp] theorem lenF_str (z:Str):lenF [.val (.str z)]=if z.length≤1000000 then some (.val (.int z.length)) else none:=rfl
@[simp] theorem lenF_tup (xs:List D):lenF [.val (.tup xs)]=some (.val (.int xs.length)):=rfl
@[simp] theorem lenF_lst (xs:List D):lenF [.val (.lst xs)]=some (.val (.int xs.length)):=rfl
@[simp] theorem lenF_ro (xs:List D):lenF [.val (.ro xs)]=some (.val (.int xs.length)):=rfl
@[simp] theorem lenF_bor (xs:List D):lenF [.bor xs]=some (.val (.int xs.length)):=rfl
@[simp] theorem intCF_int (i:Int):intCF [.val (.int i)]=some (.val (.int i)):=rfl
@[simp] theorem intCF_bl (b:Bool):intCF [.val (.bl b)]=some (.val (.int (if b then 1 else 0))):=rfl
@[simp] theorem tupCF_lst (xs:List D):tupCF [.val (.lst xs)]=some (.val (.tup xs)):=rfl
@[simp] theorem tupCF_tup (xs:List D):tupCF [.val (.tup xs)]=some (.val (.tup xs)):=rfl
@[simp] theorem tupCF_bor (xs:List D):tupCF [.bor xs]=some (.val (.tup xs)):=rfl
@[simp] theorem lstCF_lst (xs:List D):lstCF [.val (.lst xs)]=some xs:=rfl
@[simp] theorem lstCF_tup (xs:List D):lstCF [.val (.tup xs)]=some xs:=rfl
@[simp] theorem lstCF_bor (xs:List D):lstCF [.bor xs]=some xs:=rfl
@[simp] theorem ixF_lst (xs:List D) (i:Int):ixF (.val (.lst xs)) (.val (.int i))=(atI xs i).map .val:=rfl
@[simp] theorem ixF_tup (xs:List D) (i:Int):ixF (.val (.tup xs)) (.val (.int i))=(atI xs i).map .val:=rfl
@[simp] theorem ixF_ro (xs:List D) (i:Int):ixF (.val (.ro xs)) (.val (.int i))=(atI xs i).map .val:=rfl
@[simp] theorem ixF_bor (xs:List D) (i:Int):ixF (.bor xs) (.val (.int i))=(atI xs i).map .val:=rfl
@[simp] theorem ixF_str (z:Str) (i:Int):ixF (.val (.str z)) (.val (.int i))=if z.length≤1000000 then (atI z.cps.toList i).map fun c=>.val (.str ⟨#[c]⟩) else none:=rfl
theorem atN {α:Type} (xs:List α) (i:Nat):atI xs (i:Int)=xs[i]?:=by
 unfold atI ixN
 rw[if_pos (by omega)]
 by_cases h:i<xs.length
 ·rw[if_pos (by omega)];simp
 ·rw[if_neg (by omega)];simp[List.getElem?_eq_none (by omega:xs.length≤i)]
theorem atI_int {α:Type} (xs:List α) {i:Int} (h:0≤i):atI xs i=xs[i.toNat]?:=by
 have:=atN xs i.toNat
 rwa [Int.toNat_of_nonneg h] at this
theorem atI_last {α:Type} (xs:List α):atI xs (-1)=xs.getLast?:=by
 unfold atI ixN
 rw[if_neg (by omega)]
 rw[List.getLast?_eq_getElem?]
 by_cases h:xs=[]
 ·subst h;rfl
 ·have:0<xs.length:=List.length_pos_iff.mpr h
  rw[if_pos (by omega)]
  simp only[Option.bind_some]
  congr 1
  omega
end M3
namespace M3
open PySem L2
section
variable {α β γ:Type} {k:Res α→Prop} {kw:Res W→Prop} {ks:SRes→Prop} {st:Store} {u:Sl3} {m a b:EM} {g:GM}
@[simp] theorem run_eM1 (g:Str→W→Option W):run (eM1 g a b u st) kw=run (a u st) (kBind (fun x=>M.bind (M.of x.str?) fun z=>M.bind (b u) fun y=>M.of (g z y)) kw):=run_bind _ _
@[simp] theorem run_eCnt:run (eCnt a b u st) kw=run (a u st) (kBind (fun x=>M.bind (M.of x.tup?) fun xs=>M.bind (b u) fun y=>M.of (cntF xs y)) kw):=run_bind _ _
def kNeg (k:Res W→Prop):Res W→Prop
 | .ok (.val (.int i)) st=>k (.ok (.val (.int (-i))) st)
 | .ok _ _=>k .bad
 | .err c x st=>k (.err c x st)
 | .bad=>k .bad
@[simp] theorem kNeg_ok (i):kNeg kw (.ok (.val (.int i)) st)=kw (.ok (.val (.int (-i))) st):=rfl
@[simp] theorem run_eNeg:run (eNeg a u st) kw=run (a u st) (kNeg kw):=by
 unfold run eNeg M.bind kNeg
 cases a u st with
 | ok w st'=>cases w with
  | val d=>cases d <;> rfl
  | _=>rfl
 | _=>rfl
@[simp] theorem str?_str (x:Str):(W.val (.str x)).str?=some x:=rfl
@[simp] theorem tup?_tup (xs:List D):(W.val (.tup xs)).tup?=some xs:=rfl
@[simp] theorem startsF_str (x y:Str):startsF x (.val (.str y))=some (.val (.bl (Txt.startswith x y))):=rfl
@[simp] theorem splitF_str (x y:Str):splitF x (.val (.str y))=if y.length≠0∧x.length≤900000 then some (.val (.lst ((Txt.split x y).map .str))) else none:=rfl
theorem strs_map:∀xs:List Str,D.strs (xs.map .str)=some xs
 | []=>rfl
 | x :: xs=>by rw[List.map_cons,D.strs,strs_map xs];rfl
@[simp] theorem joinF_strs (x:Str) (xs:List Str):joinF x (.val (.lst (xs.map .str)))=if (xs.map (·.length)).sum+xs.length * x.length≤1000000 then some (.val (.str (Txt.join x xs))) else none:=by
 show (D.strs (xs.map .str)).bind _=_
 rw[strs_map];rfl
theorem bls_map:∀xs:List Bool,D.bls (xs.map .bl)=some xs
 | []=>rfl
 | x :: xs=>by rw[List.map_cons,D.bls,bls_map xs];rfl
@[simp] theorem allF_bls (xs:List Bool):allF [.val (.lst (xs.map .bl))]=some (.val (.bl (xs.all id))):=by
 show (D.bls (xs.map .bl)).map _=_
 rw[bls_map];rfl
@[simp] theorem anyF_bls (xs:List Bool):anyF [.val (.lst (xs.map .bl))]=some (.val (.bl (xs.any id))):=by
 show (D.bls (xs.map .bl)).map _=_
 rw[bls_map];rfl
theorem bls_mapF {α:Type} (f:α→Bool) (xs:List α):(xs.map fun x=>D.bl (f x))=(xs.map f).map .bl:=by rw[List.map_map];rfl
@[simp] theorem allF_mapF {α:Type} (f:α→Bool) (xs:List α):allF [.val (.lst (xs.map fun x=>D.bl (f x)))]=some (.val (.bl (xs.all f))):=by
 rw[bls_mapF,allF_bls,List.all_map];rfl
@[simp] theorem anyF_mapF {α:Type} (f:α→Bool) (xs:List α):anyF [.val (.lst (xs.map fun x=>D.bl (f x)))]=some (.val (.bl (xs.any f))):=by
 rw[bls_mapF,anyF_bls,List.any_map];rfl
@[simp] theorem inF_sign (neg:Bool) (c:Nat) (b:Str):inF neg (.val (.str ⟨#[c]⟩)) (.val (.str b))=some (.val (.bl (if neg then !decide (c∈b.cps.toList) else decide (c∈b.cps.toList)))):=rfl
@[simp] theorem srun_sFrz (i:Nat) (xs:List D) (h:u[i]?=some (some (.bor xs))):srun (sFrz i u st) ks=ks (.nx (u.set i (some (.val (.lst xs)))) st):=by
 unfold srun sFrz;rw[h]
def kAsg (g:GM) (u:Sl3) (ks:SRes→Prop):Res W→Prop
 | .ok (.val d) st=>(match g d u with
  | some u'=>ks (.nx u' st)
  | none=>ks .bad)
 | .ok _ _=>ks .bad
 | .err c x st=>ks (.err c x u st)
 | .bad=>ks .bad
def kAsg2 (st:Store) (ks:SRes→Prop):Option Sl3→Prop
 | some u'=>ks (.nx u' st)
 | none=>ks .bad
@[simp] theorem kAsg2_some (u'):kAsg2 st ks (some u')=ks (.nx u' st):=rfl
@[simp] theorem kAsg_ok (d:D):kAsg g u ks (.ok (.val d) st)=kAsg2 st ks (g d u):=by unfold kAsg kAsg2;rfl
@[simp] theorem srun_sAsg:srun (sAsg m g u st) ks=run (m u st) (kAsg g u ks):=by
 unfold srun sAsg run kAsg
 cases m u st with
 | ok w st'=>cases w with
  | val d=>dsimp only;cases g d u <;> rfl
  | _=>rfl
 | _=>rfl
@[simp] theorem srun_sPop (i:Nat) (xs:List D) (h:u[i]?=some (some (.bor xs))):srun (sPop i u st) ks=if xs.isEmpty=true then ks .bad else ks (.nx (u.set i (some (.bor xs.dropLast))) st):=by
 unfold srun sPop;rw[h];dsimp only;split <;> rfl
end
end M3
namespace M3
open PySem L2
section
variable {α β γ:Type} {k:Res α→Prop} {kw:Res W→Prop} {kf:Res (List D)→Prop} {ks:SRes→Prop} {kd:Res D→Prop} {st:Store} {u:Sl3} {m a b mo:EM} {ma mk:AM} {g:GM}
def kIns (st:Store) (k:Res (Nat×String×List (Str×D))→Prop) (i:Nat):Option MO→Prop
 | some (.ins c fs)=>k (.ok (i,c,fs) st)
 | _=>k .bad
@[simp] theorem kIns_ins {k} (i c fs):kIns st k i (some (.ins c fs))=k (.ok (i,c,fs) st):=rfl
@[simp] theorem run_insOf (i:Nat) (k):run (insOf (.val (.ref i)) st) k=kIns st k i st[i]?:=by
 unfold run insOf kIns
 dsimp only
 cases st[i]? with
 | none=>rfl
 | some o=>cases o <;> rfl
@[simp] theorem run_eFld (cs:List String) (f:Str):run (eFld cs f m u st) kw=run (m u st) (kBind (fun w=>M.bind (insOf w) fun q=>M.bind (M.chk (q.2.1∈cs)) fun _=>M.bind (M.of (q.2.2.lookup f)) fun d=>M.pure (.val d)) kw):=run_bind _ _
def kNx (u:Sl3) (k:SRes→Prop):Res Unit→Prop
 | .ok _ st=>k (.nx u st)
 | .err c x st=>k (.err c x u st)
 | .bad=>k .bad
@[simp] theorem kNx_ok (x):kNx u ks (.ok x st)=ks (.nx u st):=rfl
@[simp] theorem kNx_err (c x):kNx u ks (.err c x st)=ks (.err c x u st):=rfl
@[simp] theorem kNx_bad:kNx u ks .bad=ks .bad:=rfl
@[simp] theorem run_sFldS (cs:List String) (f:Str):srun (sFldS cs f mo m u st) ks=run (m u st) (kBind (fun w=>M.bind (M.of w.d) fun d=>M.bind (mo u) fun x=>M.bind (insOf x) fun q=>M.bind (M.chk (q.2.1∈cs∧q.2.2.length<500)) fun _=>fun st=>.ok () (st.set q.1 (.ins q.2.1 (put3 f d q.2.2)))) (kNx u ks)):=by
 rw[←run_bind]
 unfold srun sFldS run kNx
 cases (M.bind (m u) (fun w=>M.bind (M.of w.d) fun d=>M.bind (mo u) fun x=>M.bind (insOf x) fun q=>M.bind (M.chk (q.2.1∈cs∧q.2.2.length<500)) fun _=>fun st=>Res.ok () (st.set q.1 (.ins q.2.1 (put3 f d q.2.2)))) st) <;> rfl
@[simp] theorem run_fun (f:Store→Res α):run ((fun st=>f st) st) k=run (f st) k:=rfl
def kMade (i:Nat) (k:Res W→Prop):Res D→Prop
 | .ok .non st=>k (.ok (.val (.ref i)) st)
 | .ok _ _=>k .bad
 | .err c x st=>k (.err c x st)
 | .bad=>k .bad
@[simp] theorem kMade_non (i):kMade i kw (.ok .non st)=kw (.ok (.val (.ref i)) st):=rfl
@[simp] theorem kMade_err (i c x):kMade i kw (.err c x st)=kw (.err c x st):=rfl
@[simp] theorem run_mMake (c:String) (mf:List D→M D) (ds:List D):run (mMake c mf ds st) kw=run (mf (.ref st.length :: ds) (st++[.ins c []])) (kMade st.length kw):=by
 unfold run mMake kMade
 cases mf (.ref st.length :: ds) (st++[.ins c []]) with
 | ok d st'=>cases d <;> rfl
 | _=>rfl
@[simp] theorem run_eMk3 (c:String) (n:Nat) (dd:List D) (mf:List D→M D):run (eMk3 c n dd mf ma u st) kw=run (ma u st) (kBind (fun ws=>M.bind (M.of (asDs ws)) fun ds=>M.bind (M.chk (ds.length=n)) fun _=>mMake c mf (ds++dd)) kw):=run_bind _ _
@[simp] theorem run_eMkK (c:String) (n k:Nat) (arr) (mf:List D→M D):run (eMkK c n k arr mf ma mk u st) kw=run (ma u st) (kBind (fun ws=>M.bind (mk u) fun zs=>M.bind (M.of (asDs ws)) fun ds=>M.bind (M.of (asDs zs)) fun es=>M.bind (M.chk (ds.length=n∧es.length=k)) fun _=>mMake c mf (arr ds es)) kw):=run_bind _ _
@[simp] theorem run_eCallK (n k N:Nat) (arr) (mf:List D→M D):run (eCallK n k N arr mf ma mk u st) kw=run (ma u st) (kBind (fun ws=>M.bind (mk u) fun zs=>M.bind (M.of (asDs ws)) fun ds=>M.bind (M.of (asDs zs)) fun es=>M.bind (M.chk (ds.length=n∧es.length=k∧(arr ds es).length=N)) fun _=>M.bind (mf (arr ds es)) fun d=>M.pure (.val d)) kw):=run_bind _ _
@[simp] theorem run_eMeth (f:Str) (n:Nat) (tab:List (String×(List D→M D))):run (eMeth f n tab mo ma u st) kw=run (mo u st) (kBind (fun w=>M.bind (insOf w) fun q=>M.bind (M.chk (q.2.2.lookup f=none)) fun _=>M.bind (M.of (tab.lookup q.2.1)) fun mf=>
 M.bind (ma u) fun ws=>M.bind (M.of (asDs ws)) fun ds=>M.bind (M.chk (ds.length=n)) fun _=>M.bind (mf (.ref q.1 :: ds)) fun d=>M.pure (.val d)) kw):=run_bind _ _
@[simp] theorem run_eProp (c:String) (mf:List D→M D):run (eProp c mf mo u st) kw=run (mo u st) (kBind (fun w=>M.bind (insOf w) fun q=>M.bind (M.chk (q.2.1=c)) fun _=>M.bind (M.quiet (mf [.ref q.1])) fun d=>M.pure (.val d)) kw):=run_bind _ _
@[simp] theorem run_eNewDD:run (eNewDD u st) kw=kw (.ok (.val (.ref st.length)) (st++[.ddi [] []])):=rfl
@[simp] theorem run_sRaise (c):srun (sRaise c u st) ks=ks (.err c .non u st):=rfl
@[simp] theorem run_sBad:srun (sBad u st) ks=ks .bad:=rfl
def kTry0 (k:SRes→Prop):SRes→Prop
 | .err _ _ _ _=>k .bad
 | r=>k r
@[simp] theorem kTry0_nx:kTry0 ks (.nx u st)=ks (.nx u st):=rfl
@[simp] theorem kTry0_rt (w):kTry0 ks (.rt w st)=ks (.rt w st):=rfl
@[simp] theorem run_sTry0 (s:SM):srun (sTry0 s u st) ks=srun (s u st) (kTry0 ks):=by unfold srun sTry0 kTry0;cases s u st <;> rfl
def kTry (i:Option Nat) (sub:String→Option Bool) (ms:SM) (k:SRes→Prop):SRes→Prop
 | .err c x u st=>srun (match sub c with
  | some true=>if noExn u=true then sSuite i ms c x u st else .bad
  | some false=>.err c x u st
  | none=>.bad) k
 | r=>k r
@[simp] theorem kTry_nx (i sub ms):kTry i sub ms ks (.nx u st)=ks (.nx u st):=rfl
@[simp] theorem kTry_rt (i sub ms w):kTry i sub ms ks (.rt w st)=ks (.rt w st):=rfl
@[simp] theorem kTry_bk (i sub ms):kTry i sub ms ks (.bk u st)=ks (.bk u st):=rfl
@[simp] theorem kTry_ct (i sub ms):kTry i sub ms ks (.ct u st)=ks (.ct u st):=rfl
@[simp] theorem kTry_err (i sub ms c x):kTry i sub ms ks (.err c x u st)=srun (match sub c with
  | some true=>if noExn u=true then sSuite i ms c x u st else .bad
  | some false=>.err c x u st
  | none=>.bad) ks:=rfl
@[simp] theorem run_sTry (i sub) (mb ms:SM):srun (sTry i sub mb ms u st) ks=srun (mb u st) (kTry i sub ms ks):=by unfold srun sTry kTry;cases mb u st <;> rfl
def kSuite (i:Option Nat) (k:SRes→Prop):SRes→Prop
 | .nx u2 st2=>if noExn (match i with | some i=>u2.set i none | none=>u2)=true then k (.nx (match i with | some i=>u2.set i none | none=>u2) st2) else k .bad
 | .bk u2 st2=>if noExn (match i with | some i=>u2.set i none | none=>u2)=true then k (.bk (match i with | some i=>u2.set i none | none=>u2) st2) else k .bad
 | .ct u2 st2=>if noExn (match i with | some i=>u2.set i none | none=>u2)=true then k (.ct (match i with | some i=>u2.set i none | none=>u2) st2) else k .bad
 | .rt w st2=>k (.rt w st2)
 | _=>k .bad
@[simp] theorem kSuite_rt (i w):kSuite i ks (.rt w st)=ks (.rt w st):=rfl
@[simp] theorem kSuite_nx (i):kSuite i ks (.nx u st)=if noExn (match i with | some i=>u.set i none | none=>u)=true then ks (.nx (match i with | some i=>u.set i none | none=>u) st) else ks .bad:=rfl
@[simp] theorem run_sSuite (i:Option Nat) (ms:SM) (c x):srun (sSuite i ms c x u st) ks=srun (ms (match i with | some i=>u.set i (some (.exn c x)) | none=>u) st) (kSuite i ks):=by
 unfold srun sSuite kSuite
 dsimp only
 cases i <;> (dsimp only;generalize ms _ st=r;cases r <;> (try rfl) <;> (dsimp only;split <;> rfl))
def kIsE (tab:String→Option Bool) (st:Store) (k:Res W→Prop):Option (Option W)→Prop
 | some (some (.exn c _))=>(match tab c with
  | some b=>k (.ok (.val (.bl b)) st)
  | none=>k .bad)
 | _=>k .bad
@[simp] theorem run_eIsE (i:Nat) (tab):run (eIsE i tab u st) kw=kIsE tab st kw u[i]?:=by
 unfold run eIsE kIsE
 cases u[i]? with
 | none=>rfl
 | some o=>
  cases o with
  | none=>rfl
  | some w=>
   cases w with
   | exn c x=>dsimp only;cases tab c <;> rfl
   | _=>rfl
@[simp] theorem kIsE_exn (tab) (c x):kIsE tab st kw (some (some (.exn c x)))=(match tab c with
  | some b=>kw (.ok (.val (.bl b)) st)
  | none=>kw .bad):=rfl
@[simp] theorem run_sOwnD (i:Nat):srun (sOwnD i u st) ks=ks (.nx (u.set i (some (.bod [] []))) st):=rfl
@[simp] theorem run_sOwnDD (i:Nat):srun (sOwnDD i u st) ks=ks (.nx (u.set i (some (.bdd [] []))) st):=rfl
theorem run_sFrzDD (i:Nat) {xs us} (h:u[i]?=some (some (.bdd xs us))):srun (sFrzDD i u st) ks=ks (.nx (u.set i (some (.val (.dd xs us)))) st):=by unfold srun sFrzDD;rw[h]
theorem run_sRetD (i:Nat) {xs us} (h:u[i]?=some (some (.bod xs us))):srun (sRetD i u st) ks=ks (.rt (.val (.dict xs us)) st):=by unfold srun sRetD;rw[h]
def kPutK (i:Nat) (u:Sl3) (ds:List Key) (us:List D) (d:D) (k:SRes→Prop):Res W→Prop
 | .ok (.val kd) st=>(match kd.key with
  | some x=>if ds.length<1000000 then k (.nx (u.set i (some (.bod (putK3 ds us x d).1 (putK3 ds us x d).2))) st) else k .bad
  | none=>k .bad)
 | .err c x st=>k (.err c x u st)
 | _=>k .bad
def kSetK (i:Nat) (mi:EM) (u:Sl3) (ds:List Key) (us:List D) (k:SRes→Prop):Res W→Prop
 | .ok (.val d) st=>run (mi u st) (kPutK i u ds us d k)
 | .err c x st=>k (.err c x u st)
 | _=>k .bad
@[simp] theorem kPutK_str (i ds us d) (z:Str):kPutK i u ds us d ks (.ok (.val (.str z)) st)=if ds.length<1000000 then ks (.nx (u.set i (some (.bod (putK3 ds us (.inr z) d).1 (putK3 ds us (.inr z) d).2))) st) else ks .bad:=rfl
@[simp] theorem kSetK_ok (i mi ds us d):kSetK i mi u ds us ks (.ok (.val d) st)=run (mi u st) (kPutK i u ds us d ks):=rfl
theorem run_sSetK (i:Nat) (mi me:EM) {ds us} (h:u[i]?=some (some (.bod ds us))):srun (sSetK i mi me u st) ks=run (me u st) (kSetK i mi u ds us ks):=by
 unfold srun sSetK kSetK run kPutK
 rw[h]
 dsimp only
 cases me u st with
 | ok w st1=>
  cases w with
  | val d=>
   dsimp only
   cases mi u st1 with
   | ok w2 st2=>
    cases w2 with
    | val kd=>
     dsimp only
     cases kd.key with
     | none=>rfl
     | some x=>dsimp only;split <;> rfl
    | _=>rfl
   | _=>rfl
  | _=>rfl
 | _=>rfl
def kPutDD (i:Nat) (u:Sl3) (xs us:List D) (d:D) (k:SRes→Prop):Res W→Prop
 | .ok (.val kd) st=>(match kd.tk with
  | some x=>if xs.length<1000000 then k (.nx (u.set i (some (.bdd (ddPut xs us kd x d).1 (ddPut xs us kd x d).2))) st) else k .bad
  | none=>k .bad)
 | .err c x st=>k (.err c x u st)
 | _=>k .bad
def kSetDD (i:Nat) (mi:EM) (u:Sl3) (xs us:List D) (k:SRes→Prop):Res W→Prop
 | .ok (.val d) st=>run (mi u st) (kPutDD i u xs us d k)
 | .err c x st=>k (.err c x u st)
 | _=>k .bad
theorem kPutDD_ok (i xs us d) (kd:D) {x} (e:kd.tk=some x):kPutDD i u xs us d ks (.ok (.val kd) st)=if xs.length<1000000 then ks (.nx (u.set i (some (.bdd (ddPut xs us kd x d).1 (ddPut xs us kd x d).2))) st) else ks .bad:=by unfold kPutDD;dsimp only;rw[e]
@[simp] theorem kSetDD_ok (i mi xs us d):kSetDD i mi u xs us ks (.ok (.val d) st)=run (mi u st) (kPutDD i u xs us d ks):=rfl
theorem run_sSetDD (i:Nat) (mi me:EM) {xs us} (h:u[i]?=some (some (.bdd xs us))):srun (sSetDD i mi me u st) ks=run (me u st) (kSetDD i mi u xs us ks):=by
 unfold srun sSetDD kSetDD run kPutDD
 rw[h]
 dsimp only
 cases me u st with
 | ok w st1=>
  cases w with
  | val d=>
   dsimp only
   cases mi u st1 with
   | ok w2 st2=>
    cases w2 with
    | val kd=>
     dsimp only
     cases kd.tk with
     | none=>rfl
     | some x=>dsimp only;split <;> rfl
    | _=>rfl
   | _=>rfl
  | _=>rfl
 | _=>rfl
@[simp] theorem run_eInDD (neg:Bool):run (eInDD neg a b u st) kw=run (a u st) (kBind (fun k=>M.bind (b u) fun d=>M.bind (M.of k.d) fun kd=>M.bind (M.of kd.tk) fun x=>M.bind (ddOf d) fun q=>M.pure (.val (.bl (if neg then !ddHas q.1 x else ddHas q.1 x)))) kw):=run_bind _ _
@[simp] theorem run_eGetDD:run (eGetDD a b u st) kw=run (a u st) (kBind (fun d=>M.bind (b u) fun k=>M.bind (M.of k.d) fun kd=>M.bind (M.of kd.tk) fun x=>M.bind (ddOf d) fun q=>M.bind (M.of (ddAt q.1 q.2 x)) fun y=>M.pure (.val y)) kw):=run_bind _ _
@[simp] theorem run_ddOf_dd (xs us) (k):run (ddOf (.val (.dd xs us)) st) k=k (.ok (xs,us) st):=rfl
@[simp] theorem run_ddOf_bdd (xs us) (k):run (ddOf (.bdd xs us) st) k=k (.ok (xs,us) st):=rfl
def kDdi (st:Store) (k:Res (List D×List D)→Prop):Option MO→Prop
 | some (.ddi ks us)=>k (.ok (ks,us) st)
 | some (.rdd ks us)=>k (.ok (ks,us) st)
 | _=>k .bad
def kDdw (st:Store) (k:Res (List D×List D)→Prop):Option MO→Prop
 | some (.ddi ks us)=>k (.ok (ks,us) st)
 | _=>k .bad
@[simp] theorem kDdi_ddi {k} (xs us):kDdi st k (some (.ddi xs us))=k (.ok (xs,us) st):=rfl
@[simp] theorem kDdi_rdd {k} (xs us):kDdi st k (some (.rdd xs us))=k (.ok (xs,us) st):=rfl
@[simp] theorem kDdw_ddi {k} (xs us):kDdw st k (some (.ddi xs us))=k (.ok (xs,us) st):=rfl
@[simp] theorem run_ddOw_ref (i:Nat) (k):run (ddOw (.val (.ref i)) st) k=kDdw st k st[i]?:=by
 unfold run ddOw kDdw
 dsimp only
 cases st[i]? with
 | none=>rfl
 | some o=>cases o <;> rfl
@[simp] theorem run_ddOf_ref (i:Nat) (k):run (ddOf (.val (.ref i)) st) k=kDdi st k st[i]?:=by
 unfold run ddOf kDdi
 dsimp only
 cases st[i]? with
 | none=>rfl
 | some o=>cases o <;> rfl
@[simp] theorem run_iKeysDD (xs us) (h:m u st=.ok (.val (.dd xs us)) st):run (iKeysDD m u st) kf=kf (.ok xs st):=by unfold run iKeysDD M.bind;rw[h];rfl
@[simp] theorem run_eDc {mi:FM} {c:TM} {own:List Nat}:run (eDc mi g c a b own u st) kw=run (mi u st) (kBind (fun ds=>M.bind (dcL g c a b (wipe3 u own) ds [] []) fun q=>M.pure (.val (.dd q.1 q.2))) kw):=run_bind _ _
@[simp] theorem dcL_nil {c:TM} {u0:Sl3} (xs us):dcL g c a b u0 [] xs us=M.pure (xs,us):=rfl
def kAug (i:Nat) (u:Sl3) (k:SRes→Prop):Res W→Prop
 | .ok (.val d) st=>k (.nx (u.set i (some (.val d))) st)
 | .err c x st=>k (.err c x u st)
 | _=>k .bad
@[simp] theorem kAug_ok (i d):kAug i u ks (.ok (.val d) st)=ks (.nx (u.set i (some (.val d))) st):=rfl
@[simp] theorem run_sSetDS (mi:EM):srun (sSetDS mo mi m u st) ks=run (m u st) (kBind (fun w=>M.bind (M.of w.d) fun d=>M.bind (mo u) fun ow=>M.bind (mi u) fun k=>M.bind (M.of k.d) fun kd=>M.bind (M.of kd.tk) fun x=>M.bind (ddOw ow) fun q=>M.bind (M.chk (q.1.length<1000000)) fun _=>fun st=>match ow with
  | .val (.ref j)=>.ok () (st.set j (.ddi (ddPut q.1 q.2 kd x d).1 (ddPut q.1 q.2 kd x d).2))
  | _=>.bad) (kNx u ks)):=by
 rw[←run_bind]
 unfold srun sSetDS run kNx
 generalize (M.bind (m u) _) st=r
 cases r <;> rfl
end
@[simp] theorem atI_l0 {α:Type} (xs:List α):atI xs 0=xs[0]?:=atI_int xs (by decide)
@[simp] theorem atI_l1 {α:Type} (xs:List α):atI xs 1=xs[1]?:=atI_int xs (by decide)
@[simp] theorem atI_l2 {α:Type} (xs:List α):atI xs 2=xs[2]?:=atI_int xs (by decide)
@[simp] theorem atI_l3 {α:Type} (xs:List α):atI xs 3=xs[3]?:=atI_int xs (by decide)
@[simp] theorem atI_l4 {α:Type} (xs:List α):atI xs 4=xs[4]?:=atI_int xs (by decide)
@[simp] theorem atI_l5 {α:Type} (xs:List α):atI xs 5=xs[5]?:=atI_int xs (by decide)
@[simp] theorem atI_l6 {α:Type} (xs:List α):atI xs 6=xs[6]?:=atI_int xs (by decide)
@[simp] theorem atI_l7 {α:Type} (xs:List α):atI xs 7=xs[7]?:=atI_int xs (by decide)
@[simp] theorem atI_l8 {α:Type} (xs:List α):atI xs 8=xs[8]?:=atI_int xs (by decide)
@[simp] theorem atI_l9 {α:Type} (xs:List α):atI xs 9=xs[9]?:=atI_int xs (by decide)
@[simp] theorem atI_l10 {α:Type} (xs:List α):atI xs 10=xs[10]?:=atI_int xs (by decide)
@[simp] theorem atI_l11 {α:Type} (xs:List α):atI xs 11=xs[11]?:=atI_int xs (by decide)
@[simp] theorem atI_l12 {α:Type} (xs:List α):atI xs 12=xs[12]?:=atI_int xs (by decide)
@[simp] theorem atI_l13 {α:Type} (xs:List α):atI xs 13=xs[13]?:=atI_int xs (by decide)
@[simp] theorem atI_l14 {α:Type} (xs:List α):atI xs 14=xs[14]?:=atI_int xs (by decide)
@[simp] theorem atI_l15 {α:Type} (xs:List α):atI xs 15=xs[15]?:=atI_int xs (by decide)
@[simp] theorem isi2F_tup (xs:List D) (T):isi2F [.val (.tup xs),.val (.ty T)]=isiF [.val (.tup xs),.val (.ty T)]:=rfl
@[simp] theorem isi2F_ctup (xs:List D) (T):isi2F [.val (.ctup xs),.val (.ty T)]=isiF [.val (.ctup xs),.val (.ty T)]:=rfl
@[simp] theorem isi2F_lst (xs:List D) (T):isi2F [.val (.lst xs),.val (.ty T)]=isiF [.val (.lst xs),.val (.ty T)]:=rfl
@[simp] theorem isi2F_str (x:Str) (T):isi2F [.val (.str x),.val (.ty T)]=isiF [.val (.str x),.val (.ty T)]:=rfl
theorem kit_dict:kitB "dict" "dict" = some true:=by decide +kernel
theorem kit_list:kitB "list" "list" = some true:=by decide +kernel
theorem kit_str:kitB "str" "str" = some true:=by decide +kernel
theorem kit_tup:kitB "tuple" "tuple" = some true:=by decide +kernel
@[simp] theorem isi2F_dd (xs us:List D):isi2F [.val (.dd xs us),.val (.ty "dict")]=some (.val (.bl true)):=by unfold isi2F;simp[kit_dict]
@[simp] theorem isiF_lst (xs:List D):isiF [.val (.lst xs),.val (.ty "list")]=some (.val (.bl true)):=by unfold isiF;simp[D.tyn,kit_list]
@[simp] theorem isiF_str (x:Str):isiF [.val (.str x),.val (.ty "str")]=some (.val (.bl true)):=by unfold isiF;simp[D.tyn,kit_str]
@[simp] theorem isiF_ctup (xs:List D):isiF [.val (.ctup xs),.val (.ty "tuple")]=some (.val (.bl true)):=by unfold isiF;simp[D.tyn,kit_tup]
@[simp] theorem dgF_str (xs:List Key) (us:List D) (z:Str):dgF (.val (.dict xs us)) (.val (.str z))=(atK xs us (.inr z)).map .val:=by
 show ((some (atK xs us (.inr z):Option D)).bind fun o=>o.map W.val)=_
 rfl
@[simp] theorem dgF_bod (xs:List Key) (us:List D) (z:Str):dgF (.bod xs us) (.val (.str z))=(atK xs us (.inr z)).map .val:=by
 show ((some (atK xs us (.inr z):Option D)).bind fun o=>o.map W.val)=_
 rfl
theorem lists_map:∀xss:List (List D),D.lists (xss.map .lst)=some xss
 | []=>rfl
 | xs :: xss=>by rw[List.map_cons,D.lists,lists_map xss];rfl
@[simp] theorem sumLF_lists (xss:List (List D)):sumLF [.val (.lst (xss.map .lst)),.val (.lst [])]=if xss.flatten.length≤1000000 then some (.val (.lst xss.flatten)) else none:=by
 show (D.lists (xss.map .lst)).bind _=_
 rw[lists_map];rfl
end M3
namespace M3
open PySem PySem.Spec PyProof.Rows L2
abbrev QM:=Sl3→M (List (D×D))
inductive RepPs (K:KW) (F:Hp) (io:Io):List (D×D)→List (V×V)→Prop where
 | nil:RepPs K F io [] []
 | cons {k v x y ps qs}:Rep K F io k x→Rep K F io v y→RepPs K F io ps qs→RepPs K F io ((k,v) :: ps) ((x,y) :: qs)
theorem RepPs.length {K:KW} {F:Hp} {io:Io}:∀{ps qs},RepPs K F io ps qs→ps.length=qs.length
 | _,_,.nil=>rfl
 | _,_,.cons _ _ t=>congrArg Nat.succ (RepPs.length t)
structure MQ (P:P3) (pos:Pos) (keys:List (Option Expr)) (values:List Expr) (m:QM):Prop where
 out:∃trs,PPs P.X pos keys values trs∧∀(B0 B:Addr→Prop) (s:S3) (st:Store) (u:Sl3) (z:L2.St) (Q:List (V×V)→Hp→Prop),Wd P.G B st s→Slo P.G P.hx B0 B s u z→
  Post P.G B (fun s=>RepPs P.G.R s.F s.io) (fun c d H=>P.wx c d z H) s Q (m u st)→tPairs trs z s.H Q
def qNil:QM:=fun _=>M.pure []
def qCons (mk mv:EM) (q:QM):QM:=fun u=>M.bind (mk u) fun k=>M.bind (M.of k.d) fun kd=>M.bind (mv u) fun v=>M.bind (M.of v.d) fun vd=>M.bind (q u) fun ps=>M.pure ((kd,vd) :: ps)
section
variable {P:P3} {pos:Pos}
theorem mq_nil:MQ P pos [] [] qNil:=⟨_,pps_nil,fun B0 B s st u z Q wd sl h=>h.pure wd .nil⟩
theorem mq_cons {k v:Expr} {ks:List (Option Expr)} {vs:List Expr} {mk mv:EM} {q:QM} (hk:ME P k mk) (hv:ME P v mv) (hr:MQ P pos ks vs q):MQ P pos (some k :: ks) (v :: vs) (qCons mk mv q):=by
 obtain⟨tk,pk,hk⟩:=hk.out
 obtain⟨tv,pv,hv⟩:=hv.out
 obtain⟨tr,pr,hr⟩:=hr.out
 refine⟨_,pps_cons pk pv pr,fun B0 B s st u z Q wd sl h=>hk B0 B s st u z _ wd sl (Post.bind h fun kw st1 s1 x l1 wd1 r1 h1=>?_)⟩
 obtain⟨kd,ek,h1⟩:=Post.of_of h1
 refine hv B0 B s1 st1 u z _ wd1 (sl.mono l1) (Post.bind h1 fun vw st2 s2 y l2 wd2 r2 h2=>?_)
 obtain⟨vd,ev,h2⟩:=Post.of_of h2
 refine hr B0 B s2 st2 u z _ wd2 ((sl.mono l1).mono l2) (Post.bind h2 fun ps st3 s3 qs l3 wd3 r3 h3=>?_)
 cases d_val ek
 cases d_val ev
 exact h3.pure wd3 (.cons (Rep.mono (l2.trans l3).fr (l2.trans l3).io r1) (Rep.mono l3.fr l3.io r2) r3)
end
def dkAll:List (D×D)→List Key→List D→Option (List Key×List D)
 | [],ks,us=>some (ks,us)
 | (k,v) :: r,ks,us=>k.key.bind fun x=>dkAll r (putK3 ks us x v).1 (putK3 ks us x v).2
abbrev BX:=List (NestedKey×Addr×V)
abbrev PX:BX→DkX→Prop:=Paired fun b x=>x.1=b.1∧x.2.1=b.2.1∧RelV b.2.2 x.2.2
theorem storedAllH_len:∀(xs acc:DkX),(storedAllH acc xs).length≤acc.length+xs.length
 | [],acc=>by show acc.length≤_;simp
 | (k,a,v) :: xs,acc=>by
  have h1:=storedAllH_len xs (storedH acc k a v)
  have h2:=storedH_length acc k a v
  show (storedAllH (storedH acc k a v) xs).length≤_
  rw[List.length_cons];omega
theorem carriesH_of {P:Program} {w:World} {H:Hp} {h:Heap} (ok:HOk P w H h):∀{bs:BX} {ws:List (Value×Value)},(∀x∈bs,KeyH H x.1 x.2.1)→VV (bs.map fun x=>(V.ref x.2.1,x.2.2)) ws→∃xs:DkX,CarriesH (nestedKind P w) h ws xs∧PX bs xs
 | [],_,_,r=>by rw[List.map_nil] at r;cases r;exact⟨[],True.intro,.nil⟩
 | (k,a,v) :: bs,_,hk,r=>by
  rw[List.map_cons] at r
  cases r with
  | @cons p b as bs' h t=>
   obtain⟨xs,c,q⟩:=carriesH_of ok (fun x hx=>hk x (List.mem_cons_of_mem _ hx)) t
   obtain⟨b1,b2⟩:=b
   exact⟨(k,a,b2) :: xs,⟨h.1,rfl,hk (k,a,v) List.mem_cons_self _ _ _ ok,c⟩,.cons ⟨rfl,rfl,h.2⟩ q⟩
def tDispD (w:World) (trs:List (TE×TE)):TE:=fun σ H Q=>∀p,H p=none→tPairs trs σ (upd H p (DkO w p [])) fun ps H2=>H2 p=some (DkO w p [])∧∃bs:BX,ps=bs.map (fun x=>(V.ref x.2.1,x.2.2))∧(∀x∈bs,KeyH H2 x.1 x.2.1)∧bs.length≤15∧
 ∀xs,PX bs xs→Q (.ref p) (upd H2 p (DkO w p (storedAllH [] xs)))
theorem PX.length:∀{bs:BX} {xs:DkX},PX bs xs→bs.length=xs.length
 | _,_,.nil=>rfl
 | _,_,.cons _ t=>congrArg Nat.succ (PX.length t)
theorem pe_dispD {X:Cx} {pos:Pos} {keys:List (Option Expr)} {values:List Expr} {trs:List (TE×TE)} (hu:X.A.units+65<cLine) (h:PPs X pos keys values trs) (hall:keys.all (·.isSome)=true) (hl:keys.length=values.length) (h0:keys≠[])
  (h15:keys.length≤15):PE X (.Dict keys values pos) (tDispD X.w trs):=by
 refine⟨fun pins now σ H Q inv wish=>?_⟩
 have free:=inv.hok.fresh (Nat.le_refl now.heap.objs.size)
 have I1:=inv.laid (a:=now.heap.objs.size) (o:=DkO X.w now.heap.objs.size []) (h':=now.heap.push { cls:=.type "dict",data:=.dict #[] }) (t':=now.toks) (fun _ _ q=>Heap.get?_push_of_some _ q) (Nat.le_refl _) (new_DD now.heap _ inv.big)
 have hp:=pairTrees_length keys values X.env pos hall hl
 have ne:pairTrees keys values X.env pos≠[]:=fun e=>by rw[e] at hp;exact h0 (List.length_eq_zero_iff.mp hp.symm)
 rw[arm_eval_Dict,zip_pairTrees keys values X.env pos hall hl,dictDisplay_pairs _ ne (by omega)]
 refine wpAny_bind (wpAny_standAt (wpAny_bind (wpAny_subDictH (knd:=nestedKind X.prog X.w) (show X.A.units+8<cLine by omega) (by omega) (thn (h.run pins _ σ _ _ I1 (wish _ free)) fun ws s2 ⟨ps,H2,I2,rel,e,bs,ep,kH,lk,q2⟩=>?_))))
 subst ep
 obtain⟨xs,c,px⟩:=carriesH_of I2.hok kH rel
 obtain⟨hd,_,dd⟩:=dkO_of I2.hok (.inl e) (fun x hx=>by cases hx)
 refine⟨xs,c,dd,fun h' tk dd' hs=>wpAny_pure ?_⟩
 have hz:(storedAllH [] xs).length≤sizeLine:=by
  have h1:=storedAllH_len xs []
  have:=px.length
  rw[List.length_nil] at h1
  rw[sizeLine_eq];omega
 have there:∃q,h'.get? now.heap.objs.size=some q:=let ⟨q,_,_,hq,_⟩:=dd';⟨q,hq⟩
 exact⟨.ref now.heap.objs.size,_,d_write I2 (by rw[e];exact True.intro) hs there (dkO_new hd hz dd'),rfl,q2 xs px⟩
def ddAll:List (D×D)→List D→List D→Option (List D×List D)
 | [],ks,us=>some (ks,us)
 | (k,v) :: r,ks,us=>k.tk.bind fun x=>ddAll r (ddPut ks us k x v).1 (ddPut ks us k x v).2
theorem ddAll_ok {K:KW} {F H:Hp} {io:Io} (hs:Same F H):∀{ps:List (D×D)} {qs:List (V×V)} {ks us:List D} {r:List D×List D},RepPs K F io ps qs→ddAll ps ks us=some r→
  ∃bs:BX,qs=bs.map (fun x=>(V.ref x.2.1,x.2.2))∧(∀x∈bs,KeyH H x.1 x.2.1)∧∀acc,DkR K F io ks us acc→∀xs,PX bs xs→DkR K F io r.1 r.2 (storedAllH acc xs)
 | [],_,ks,us,r,.nil,e=>by cases e;exact⟨[],rfl,fun x hx=>(by cases hx),fun acc h xs q=>by cases q;exact h⟩
 | (k,v) :: ps,_,ks,us,r,.cons (x:=x) (y:=y) rk rv t,e=>by
  unfold ddAll at e
  cases ek:k.tk with
  | none=>rw[ek] at e;cases e
  | some z=>
   rw[ek] at e
   obtain⟨b,eb,kb⟩:=tk_ok hs rk ek
   subst eb
   obtain⟨bs,e1,e2,e3⟩:=ddAll_ok hs t (show ddAll ps (ddPut ks us k z v).1 (ddPut ks us k z v).2=some r from e)
   refine⟨(z,b,y) :: bs,by rw[e1];rfl,fun x hx=>?_,fun acc h xs q=>?_⟩
   ·rcases List.mem_cons.mp hx with q | q
    ·rw[q];exact kb
    ·exact e2 x q
   ·cases q with
    | @cons _ b' _ xs' q qs=>
     obtain⟨k',b2,u⟩:=b'
     obtain⟨q1,q2,q3⟩:=q
     dsimp only at q1 q2 q3
     subst q1
     subst q2
     exact e3 _ (dd_put ek rk q3 rv h) xs' qs
end M3
namespace M3
open PySem PySem.Spec PyProof.Rows L2
def lc2L (g:GM) (c:TM) (mi1:FM) (g1:GM) (c1:TM) (e:EM) (vs1:List Nat) (u0:Sl3):List D→List D→M (List D)
 | [],acc=>M.pure acc
 | d :: ds,acc=>M.bind (M.of (g d u0)) fun u1=>M.bind (M.quiet (c u1)) fun k=>
  if k=true then M.bind (M.quiet (mi1 u1)) fun ds1=>M.bind (lcL g1 c1 e (wipe3 u1 vs1) ds1 acc) fun acc'=>lc2L g c mi1 g1 c1 e vs1 u0 ds acc'
  else lc2L g c mi1 g1 c1 e vs1 u0 ds acc
def fLc2 (mi:FM) (g:GM) (c:TM) (mi1:FM) (g1:GM) (c1:TM) (e:EM) (own vs1:List Nat):FM:=fun u=>M.bind (mi u) fun ds=>lc2L g c mi1 g1 c1 e vs1 (wipe3 u own) ds []
def sOwnDsD (i:Nat) (q:QM):SM:=fun u st=>match q u st with
 | .ok ps st'=>if ps.length≤15 then match ddAll ps [] [] with
  | some r=>.nx (u.set i (some (.bdd r.1 r.2))) st'
  | none=>.bad
  else .bad
 | _=>.bad
section
variable {P:P3} {pos:Pos}
theorem ms_ownDsD (i:Nat) {x:Str} {p dp:Pos} {keys:List (Option Expr)} {values:List Expr} {q:QM} (hu:P.X.A.units+65<cLine) (hN:P.X.N.Nodup) (h:MQ P dp keys values q) (hi:P.X.N[i]?=some x:=by rfl) (hx:Loc P.X.env.scope x:=by first | exact Or.inl rfl | exact Or.inr rfl) (hs:swapsWith (.Dict keys values dp) (some (.Name x p)) pos.line P.X.env=pure false:=by rfl)
  (hf:P.X.fn x=true∨P.X.env.scope.names.lookup x=some .local:=by first | exact .inl rfl | exact .inr rfl | assumption) (hall:keys.all (·.isSome)=true:=by rfl) (hl:keys.length=values.length:=by rfl) (h0:keys≠[]:=by intro e;cases e) (h15:keys.length≤15:=by decide) :
  MS P (.Assign [.Name x p] (.Dict keys values dp) pos) (sOwnDsD i q):=by
 obtain⟨trs,pp,ht⟩:=h.out
 refine MS.mk' (ps_set hN hi hx (pe_dispD hu pp hall hl h0 h15) hs hf) fun B0 B s o u z D b0 wd sl h=>fun p hp=>?_
 rw[P.hw]
 obtain⟨wd2,l2⟩:=own_wd (ho:=DkO P.G.w p []) wd hp
 have nb:¬B p:=wd.freshB hp
 refine ht B0 (plus B p) _ o u z _ wd2 ((sl.mono' l2).more fun a b=>.inl b) ?_
 unfold sOwnDsD at h
 cases eq:q u o with
 | bad=>rw[eq] at h;exact h
 | err c x st'=>rw[eq] at h;exact h.elim
 | ok ps st1=>
  rw[eq] at h
  dsimp only at h
  split at h
  ·rename_i hz
   split at h
   ·rename_i r er
    intro s3 qs l3 w3 r3
    have hq:s3.H p=some (DkO P.G.w p []):=(l3.hid p (.inr rfl)).trans upd_same
    obtain⟨bs,e1,e2,e3⟩:=ddAll_ok w3.sub r3 er
    subst e1
    refine⟨hq,bs,rfl,e2,by have:=r3.length;simp at this;omega,fun xs px=>?_⟩
    have w4:=own_put w3 nb (DkO P.G.w p (storedAllH [] xs))
    have l4:Le B s3 ⟨s3.io,s3.F,upd s3.H p (DkO P.G.w p (storedAllH [] xs))⟩:=⟨IoLe.refl _,Same.refl _,fun a ba=>upd_ne fun y=>nb (y▸ba)⟩
    have l5:=(l2.trans (plus_le l3)).trans l4
    exact h (plus B p) ⟨s3.io,s3.F,upd s3.H p (DkO P.G.w p (storedAllH [] xs))⟩ _ (fun a q=>.inl (b0 a q)) (l5.less b0) w4 ((sl.mono' l5).ownW (w0:=.bdd r.1 r.2) nb (fun q=>nb (b0 p q)) ⟨p,_,rfl,.inr rfl,upd_same,e3 [] dkR_nil xs px⟩ i)
   ·exact h.elim
  ·exact h.elim
end
end M3
namespace M3
open PySem PySem.Spec PyProof.Rows L2
section
variable {P:P3} {pos:Pos}
def idxF (xs:List D) (w:W):Option W:=match w with
 | .val (.str x)=>(D.strs xs).bind fun ys=>(ys.findIdx? fun y=>decide (y=x)).map fun j=>.val (.int (j:Int))
 | _=>none
def fRev (m:EM):FM:=fun u=>M.bind (m u) fun w=>M.of (w.ls.map List.reverse)
theorem rev_rep {K:KW} {F:Hp} {io:Io}:∀{xs:List D} {vs:List V},RepL K F io xs vs→RepL K F io xs.reverse vs.reverse
 | _,_,.nil=>.nil
 | _,_,.cons r t=>by
  rw[List.reverse_cons,List.reverse_cons]
  exact(rev_rep t).append (.cons r .nil)
theorem mf_rev {e:Expr} {m:EM} {k:Nat} {p1 p2 p3:Pos} (he:ME P e m):MF P (.Subscript e (.Slice none none (some (.UnaryOp .USub (.Constant (.int 1) k p1) p2)) p3) pos) (fRev m):=by
 obtain⟨t,pt,ht⟩:=he.out
 refine MF.mk' (pe_revL pt) fun B0 B s st u z Q wd sl h=>ht B0 B s st u z _ wd sl (PostF.bind h fun w st1 s1 v l1 wd1 r1 h1=>?_)
 cases e1:w.ls with
 | none=>rw[e1] at h1;exact h1.elim
 | some xs=>
  rw[e1] at h1
  obtain⟨p,vs,rfl,hp,rl⟩:=ls_ok wd1 r1 e1
  exact⟨p,vs,rfl,.inl (.inl hp),fun q hq=>PostF.fresh h1 wd1 (rev_rep rl) hq⟩
end
def eGetD2 (a b c:EM):EM:=fun u=>M.bind (a u) fun d=>M.bind (ddOf d) fun _=>M.bind (b u) fun k=>M.bind (M.of k.d) fun kd=>M.bind (M.of kd.tk) fun x=>M.bind (c u) fun z=>M.bind (M.of z.d) fun zd=>M.bind (ddOf d) fun q=>M.pure (.val ((ddAt q.1 q.2 x).getD zd))
end M3
namespace M3
open PySem PySem.Spec PyProof.Rows L2
section
variable {a b c:EM} {u:Sl3} {st:Store} {kw} {ks}
@[simp] theorem run_eGetD2:run (eGetD2 a b c u st) kw=run (a u st) (kBind (fun d=>M.bind (ddOf d) fun _=>M.bind (b u) fun k=>M.bind (M.of k.d) fun kd=>M.bind (M.of kd.tk) fun x=>M.bind (c u) fun z=>M.bind (M.of z.d) fun zd=>M.bind (ddOf d) fun q=>M.pure (.val ((ddAt q.1 q.2 x).getD zd))) kw):=run_bind _ _
end
end M3
namespace M3
open PySem PySem.Spec PyProof.Rows L2
def W.arg:W→Option W
 | .val d=>some (.val d)
 | .len xs=>some (.len xs)
 | _=>none
def argsW:List W→Option (List W)
 | []=>some []
 | w :: ws=>match w.arg,argsW ws with
  | some a,some as=>some (a :: as)
  | _,_=>none
theorem arg_eq {w a:W} (e:w.arg=some a):a=w∧a.own=false∧∀c x,a≠.exn c x:=by
 cases w <;> cases e <;> exact⟨rfl,rfl,fun _ _ z=>by cases z⟩
theorem argsW_eq:∀{ws as:List W},argsW ws=some as→as=ws∧∀a∈as,a.own=false∧∀c x,a≠.exn c x
 | [],_,e=>by cases e;exact⟨rfl,fun a h=>by cases h⟩
 | w :: ws,as,e=>by
  unfold argsW at e
  split at e
  ·rename_i a as' h1 h2
   cases e
   obtain⟨rfl,h⟩:=arg_eq h1
   obtain⟨rfl,hs⟩:=argsW_eq h2
   exact⟨rfl,fun b hb=>(List.mem_cons.mp hb).elim (fun z=>z▸h) (hs b)⟩
  ·cases e
def mfnW (N:Nat) (mb:SM):List W→M D:=fun ws st=>match mb (ws.map some++List.replicate (N - ws.length) none) st with
 | .nx _ st'=>.ok .non st'
 | .rt (.val d) st'=>.ok d st'
 | .rt (.bor xs) st'=>.ok (.lst xs) st'
 | .err c x _ st'=>.err c x st'
 | _=>.bad
def spMW (G:G3) (n:Nat) (m:List W→M D):Sp:=fun vs H Q E=>vs.length=n∧∃(B:Addr→Prop) (s:S3) (st:Store) (ws:List W),s.H=H∧Wd G B st s∧RepWs G none B s ws vs∧(∀a∈ws,a.own=false∧∀c x,a≠.exn c x)∧
 Post G B (fun s d v=>Rep G.R s.F s.io d v) E s Q (m ws st)
theorem RepWs.get {G:G3} {X:Hex} {B:Addr→Prop} {s:S3}:∀{ws:List W} {vs:List V} {i:Nat} {w:W},RepWs G X B s ws vs→ws[i]?=some w→∃v,vs[i]?=some v∧RepW G X B s w v
 | _,_,_,_,.nil,e=>by simp at e
 | _,_,0,_,.cons r _,e=>by simp at e;subst e;exact⟨_,rfl,r⟩
 | _,_,i+1,_,.cons _ t,e=>by
  obtain⟨v,h1,h2⟩:=RepWs.get (i:=i) t (by simpa using e)
  exact⟨v,by simpa using h1,h2⟩
theorem RepW.any {G:G3} {X X':Hex} {B:Addr→Prop} {s:S3} {w:W} {v:V} (r:RepW G X B s w v) (h:∀c x,w≠.exn c x):RepW G X' B s w v:=by
 cases w with
 | exn c x=>exact absurd rfl (h c x)
 | _=>exact r
theorem RepWs.any {G:G3} {X X':Hex} {B:Addr→Prop} {s:S3}:∀{ws:List W} {vs:List V},RepWs G X B s ws vs→(∀a∈ws,a.own=false∧∀c x,a≠.exn c x)→RepWs G X' B s ws vs
 | _,_,.nil,_=>.nil
 | _,_,.cons r t,h=>.cons (r.any (h _ List.mem_cons_self).2) (RepWs.any t fun a ha=>h a (List.mem_cons_of_mem _ ha))
theorem slo_startW {G:G3} {X:Hex} {B0 B:Addr→Prop} {s:S3} {N:List Str} {ws:List W} {vs:List V} (r:RepWs G X B s ws vs) (h:∀a∈ws,a.own=false∧∀c x,a≠.exn c x) :
  Slo G X B0 B s (ws.map some++List.replicate (N.length - ws.length) none) (L2.start N vs):=by
 have hl:=r.length
 have at_:∀{i:Nat} {w:W},(ws.map some++List.replicate (N.length - ws.length) none)[i]?=some (some w)→ws[i]?=some w:=fun {i w} e=>by
  by_cases hi:i<ws.length
  ·rw[List.getElem?_append_left (by simpa using hi),List.getElem?_map] at e
   cases q:ws[i]? with
   | none=>rw[q] at e;cases e
   | some d=>rw[q] at e;cases e;rfl
  ·rw[List.getElem?_append_right (by simpa using hi),List.getElem?_replicate] at e
   split at e <;> cases e
 refine⟨by unfold L2.start;simp[hl],fun _=>0,fun i w e=>?_,fun i j w w' o1 o2 e1 e2 _=>?_⟩
 ·obtain⟨v,e2,rv⟩:=r.get (at_ e)
  refine⟨v,?_,rv,fun q=>?_⟩
  ·unfold L2.start
   have hi:i<vs.length:=(List.getElem?_eq_some_iff.mp e2).1
   rw[List.getElem?_append_left (by simpa using hi),List.getElem?_map,e2]
   rfl
  ·rw[(h w (List.mem_of_getElem? (at_ e))).1] at q;cases q
 ·rw[(h w (List.mem_of_getElem? (at_ e1))).1] at o1;cases o1
section
variable {P:Program} {w:World} {K:PySem.W.Frag} {mg:Str→Option Value} {base:Heap}
theorem fn_okW {G:G3} (hK:K=G.K) (hw:w=G.w) {x qual:Str} {st:Stmt} {f:Addr} {fd:FuncData} {N ps:List Str} {k:Nat} {mb:SM} (F:Fun K x qual st f fd) (S:FnScope N ps (defScope st))
  (h:∀(cdv:Value) (A:Around) (outer:List Env) (s:Shared) (H:Hp) (E:XK),Room k (cxOf (CXq P w) P w K mg base N qual (defScope st) f cdv A outer s H E)→
   MSs ⟨cxOf (CXq P w) P w K mg base N qual (defScope st) f cdv A outer s H E,G,none,fun cls d _ H=>E cls d H,hK,hw⟩ (defBody st) mb) :
  FnOk P w K mg base (CXq P w) (k+1) f fd ps (spMW G ps.length (mfnW N.length mb)):=by
 refine okX F S (fun vs H Q E h=>h.1) fun cdv A outer s0 H vs Q E hr ⟨hl,B,s,o,ws,e,wd,rl,ha,hp⟩=>?_
 subst e
 obtain⟨t,pt,ht⟩:=(h cdv A outer s0 s.H E hr).out
 refine⟨t,pt,ht B B s o _ _ _ (fun _ b=>b) wd (slo_startW (N:=N) rl ha) ?_⟩
 unfold mfnW at hp
 cases em:mb (ws.map some++List.replicate (N.length - ws.length) none) o with
 | nx u' st'=>rw[em] at hp;exact fun B' s' z' b l w sl=>hp s' .non l (w.less b) .non
 | rt w st'=>
  rw[em] at hp
  cases w with
  | val d=>exact fun B' s' v b l w r=>hp s' v l (w.less b) r
  | bor xs=>
   rintro B' s' v b l w ⟨p,vs',rfl,bp,nb,hq,r⟩
   have w':Wd G (plus B p) st' s':=w.less fun a q=>q.elim (b a) fun z=>z▸bp
   exact hp ⟨s'.io,upd s'.F p (.lst vs'),s'.H⟩ (.ref p) (l.trans (freeze_le w')) (freeze_wd w' nb hq) (.lst upd_same (r.mono (freeze_le w').fr (freeze_le w').io))
  | _=>exact hp.elim
 | bk u' st'=>rw[em] at hp;exact hp.elim
 | ct u' st'=>rw[em] at hp;exact hp.elim
 | err c x u' st'=>rw[em] at hp;exact fun B' s' z' cv dd b l w sl q=>hp s' cv dd l (w.less b) q
 | bad=>rw[em] at hp;exact hp.elim
end
structure CalW (Pg:Program) (w:World) (K:PySem.W.Frag) (mg:Str→Option Value) (base:Heap) (G:G3) (k:Nat) (x:Str) (n:Nat) (m:List W→M D):Prop where
 ex:∃f fd ps,mg x=some (.ref f)∧PySem.W.keepIn K (.ref f)=true∧Binds K fd ps []∧ps.length=n∧FnOk Pg w K mg base (CXq Pg w) k f fd ps (spMW G n m)
def eCallW (n:Nat) (m:List W→M D) (ma:AM):EM:=fun u=>M.bind (ma u) fun ws=>M.bind (M.of (argsW ws)) fun as=>M.bind (M.chk (as.length=n)) fun _=>M.bind (m as) fun d=>M.pure (.val d)
section
variable {P:P3} {pos p:Pos} {x:Str} {e:Expr} {es:List Expr} {ma:AM} {m:List W→M D} {k j n:Nat}
theorem me_callW (c:CalW P.X.prog P.X.w P.X.K P.X.mg P.X.base P.G k x n m) (hr:Room j P.X) (hk:k≤j) (tk:Takes P.X P.wx) (hg:Gl P.X x) (ha:MA P (e :: es) ma)
  (hdb:(x == ("__debug__" : Str))=false:=by decide) (he:starEach (e :: es) P.X.env=(false,eval e P.X.env) :: starEach es P.X.env:=by rfl) (hpl:(backTo pos (starEach es P.X.env)).any (·.1)=false:=by rfl) :
  ME P (.Call (.Name x p) (e :: es) [] pos) (eCallW n m ma):=by
 obtain⟨f,fd,ps,hm,hkp,hb,hn,F⟩:=c.ex
 obtain⟨t,pt,ht⟩:=ha.out
 refine ME.mk' (pe_callS F (hr.mono hk) hg hm hkp hb (fun σ=>passAt tk σ) pt hdb he hpl) fun B0 B s st u z Q wd sl h=>ht B0 B s st u z _ wd sl (Post.bind h fun ws st1 s1 vs l1 wd1 r1 h1=>?_)
 obtain⟨as,e,h2⟩:=Post.of_of h1
 obtain⟨hl,h3⟩:=Post.of_chk h2
 clear h1 h2
 obtain⟨ea,hh⟩:=argsW_eq e
 subst ea
 refine⟨by rw[←r1.length];exact hl,B,s1,st1,as,rfl,wd1,r1.any hh,hh,?_⟩
 unfold M.bind at h3
 cases em:m as st1 with
 | ok d st'=>rw[em] at h3;exact fun s' v l w r=>h3 s' v l w r
 | err c x st'=>rw[em] at h3;exact h3
 | bad=>rw[em] at h3;exact h3
def eLend (i:Nat) (m:EM):EM:=fun u st=>match u[i]? with
 | some (some (.bor xs))=>match m (u.set i (some (.len xs))) st with
  | .ok (.val d) st'=>.ok (.val d) st'
  | _=>.bad
 | _=>.bad
theorem me_lend (i:Nat) {m:EM} (h:ME P e m):ME P e (eLend i m):=by
 obtain⟨t,pt,ht⟩:=h.out
 refine ME.mk' (pe_lock pt) fun B0 B s st u z Q wd sl h=>?_
 unfold eLend at h
 cases eu:u[i]? with
 | none=>rw[eu] at h;exact h.elim
 | some ow=>
  rw[eu] at h
  cases ow with
  | none=>exact h.elim
  | some w=>
   cases w with
   | bor xs=>
    dsimp only at h
    obtain⟨p,ez,bp,nb,⟨p',vs,e',_,hp,rl⟩,ch⟩:=sl.changeW wd eu rfl
    cases e'
    refine⟨p,.lst vs,hp,True.intro,fun od=>?_⟩
    have hF:=(wd.hid p bp).1
    have sl2:Slo P.G P.hx B0 B ⟨s.io,s.F,upd s.H p (.frz od (.lst vs))⟩ (u.set i (some (.len xs))) z:=by
     obtain⟨hl,ow,h1,h2⟩:=sl
     obtain⟨v0,ez0,r0,q0⟩:=h1 i _ eu
     rw[ez] at ez0
     cases ez0
     obtain⟨eow,_⟩:=q0 rfl
     injection eow with eow
     refine⟨by simpa using hl,ow,fun j w ej=>?_,fun j k w w' o1 o2 e1 e2 e=>?_⟩
     ·rcases get_set ej with⟨rfl,rfl⟩ | ⟨ne,ej⟩
      ·exact⟨.ref p,ez,⟨p,vs,od,rfl,bp,upd_same,rl⟩,fun q=>by cases q⟩
      ·obtain⟨v,ev,rv,qv⟩:=h1 j w ej
       refine⟨v,ev,?_,qv⟩
       have away:w.own=true→∀p',v=.ref p'→p'≠p:=fun ow' p' e' y=>by
        obtain⟨e4,_⟩:=qv ow'
        rw[e'] at e4
        injection e4 with e4
        exact ne (h2 i j (.bor xs) w rfl ow' eu ej (by rw[←e4,y,eow]))
       cases w with
       | val d=>exact rv
       | exn c x=>exact rv
       | bor xs'=>obtain⟨p',vs',rfl,b',hp',rl'⟩:=rv;exact⟨p',vs',rfl,b',(upd_ne (away rfl p' rfl)).trans hp',rl'⟩
       | bod ks us=>obtain⟨p',vs',rfl,b',hp',rl'⟩:=rv;exact⟨p',vs',rfl,b',(upd_ne (away rfl p' rfl)).trans hp',rl'⟩
       | bdd ks us=>obtain⟨p',vs',rfl,b',hp',rl'⟩:=rv;exact⟨p',vs',rfl,b',(upd_ne (away rfl p' rfl)).trans hp',rl'⟩
       | len ys=>obtain⟨p',vs',o,rfl,b',hp',rl'⟩:=rv;exact⟨p',vs',o,rfl,b',(upd_ne (fun y=>by subst y;rw[hp] at hp';cases hp')).trans hp',rl'⟩
     ·rcases get_set e1 with⟨_,q⟩ | ⟨_,e1⟩
      ·subst q;cases o1
      ·rcases get_set e2 with⟨_,q⟩ | ⟨_,e2⟩
       ·subst q;cases o2
       ·exact h2 j k w w' o1 o2 e1 e2 e
    have put:∀{st:Store} {s:S3} {o:HO},OwnH o→Wd P.G B st s→Wd P.G B st ⟨s.io,s.F,upd s.H p o⟩:=fun {st s o} nt w=>by
     refine⟨fun b v eb=>?_,fun a ba=>?_,w.ftb,w.dom,w.inj,fun k v ek t=>?_,w.untM (IoLe.refl _) (Same.refl _),w.tabM (Same.refl _) (upd_tbl (w.ntbl bp))⟩
     ·show upd s.H p o b=some v
      rw[upd_ne (fun y=>by subst y;have eb:s.F b=some v:=eb;rw[(w.hid b bp).1] at eb;cases eb)]
      exact w.sub b v eb
     ·obtain⟨a1,v,a2,a3⟩:=w.hid a ba
      by_cases q:a=p
      ·subst q;exact⟨a1,_,upd_same,nt⟩
      ·exact⟨a1,v,(upd_ne q).trans a2,a3⟩
     ·obtain⟨a,a1,a2,a3,a4⟩:=w.obj k v ek t
      have na:a≠p:=fun y=>a2 (y▸bp)
      exact⟨a,a1,a2,a3,ObjR.mono (s:=s) (s':=⟨s.io,s.F,upd s.H p o⟩) (IoLe.refl _) (Same.refl _) (upd_ne na) a4⟩
    refine ht B0 B ⟨s.io,s.F,upd s.H p (.frz od (.lst vs))⟩ st _ z _ (put (by exact⟨fun _ q=>(by cases q),fun _ _ q=>(by first | exact dkO_code q | exact cellO_code q | (unfold LamX.CodeO at q;cases q))⟩) wd) sl2 ?_
    cases em:m (u.set i (some (.len xs))) st with
    | bad=>rw[em] at h;exact h.elim
    | err c x st'=>rw[em] at h;exact h.elim
    | ok w st'=>
     rw[em] at h
     cases w with
     | val d=>
      intro s' v l w' r
      have at_:s'.H p=some (.frz od (.lst vs)):=(l.hid p bp).trans upd_same
      refine⟨at_,h ⟨s'.io,s'.F,upd s'.H p (.lst vs)⟩ v ⟨l.io,l.fr,fun a ba=>?_⟩ (put (by exact⟨fun _ q=>(by cases q),fun _ _ q=>(by first | exact dkO_code q | exact cellO_code q | (unfold LamX.CodeO at q;cases q))⟩) w') r⟩
      show upd s'.H p (.lst vs) a=s.H a
      by_cases q:a=p
      ·subst q;rw[upd_same,hp]
      ·rw[upd_ne q];exact(l.hid a ba).trans (upd_ne q)
     | _=>exact h.elim
   | _=>exact h.elim
end
section
variable {k:Res W→Prop} {kd:Res D→Prop} {st:Store} {u:Sl3} {m:EM} {ma:AM}
theorem run_mfnW (N:Nat) (mb:SM) (ws:List W):run (mfnW N mb ws st) kd=srun (mb (ws.map some++List.replicate (N - ws.length) none) st) (kRet kd):=by
 unfold run mfnW srun kRet
 cases mb (ws.map some++List.replicate (N - ws.length) none) st with
 | rt w st'=>cases w <;> rfl
 | _=>rfl
@[simp] theorem run_eCallW (n:Nat) (f:List W→M D):run (eCallW n f ma u st) k=run (ma u st) (kBind (fun ws=>M.bind (M.of (argsW ws)) fun as=>M.bind (M.chk (as.length=n)) fun _=>M.bind (f as) fun d=>M.pure (.val d)) k):=run_bind _ _
def kLend (k:Res W→Prop):Res W→Prop
 | .ok (.val d) st'=>k (.ok (.val d) st')
 | _=>k .bad
@[simp] theorem kLend_ok (d:D):kLend k (.ok (.val d) st)=k (.ok (.val d) st):=rfl
theorem run_eLend (i:Nat) {xs:List D} (h:u[i]?=some (some (.bor xs))):run (eLend i m u st) k=run (m (u.set i (some (.len xs))) st) (kLend k):=by
 unfold run eLend kLend
 rw[h]
 dsimp only
 cases m (u.set i (some (.len xs))) st with
 | ok w st'=>cases w <;> rfl
 | _=>rfl
@[simp] theorem lstCF_len (xs:List D):lstCF [.len xs]=some xs:=rfl
@[simp] theorem lenF_len (xs:List D):lenF [.len xs]=some (.val (.int xs.length)):=rfl
@[simp] theorem ixF_len (xs:List D) (i:Int):ixF (.len xs) (.val (.int i))=(atI xs i).map .val:=rfl
@[simp] theorem argsW_nil:argsW []=some []:=rfl
@[simp] theorem argsW_val (d:D) (ws:List W):argsW (.val d :: ws)=(argsW ws).map (.val d :: ·):=by
 rw[argsW];cases argsW ws <;> rfl
@[simp] theorem argsW_len (xs:List D) (ws:List W):argsW (.len xs :: ws)=(argsW ws).map (.len xs :: ·):=by
 rw[argsW];cases argsW ws <;> rfl
end
end M3
namespace M3
open PySem PySem.Spec PyProof.Rows L2
def cntL (xs:List D) (w:W):Option W:=w.rd.bind fun d=>match D.pys xs,d.py with
 | some ps,some p=>if SeqAt.shaped p=true∧SeqAt.shaped (.list ps)=true then some (.val (.int ((ps.countP fun z=>PyData.eqv z p:Nat):Int))) else none
 | _,_=>none
def eCntL (a b:EM):EM:=fun u=>M.bind (a u) fun x=>M.bind (M.of x.ls) fun xs=>M.bind (b u) fun y=>M.bind (M.of x.ls) fun _=>M.of (cntL xs y)
@[simp] theorem run_eCntL {a b:EM} {u:Sl3} {st:Store} {kw:Res W→Prop}:run (eCntL a b u st) kw=run (a u st) (kBind (fun x=>M.bind (M.of x.ls) fun xs=>M.bind (b u) fun y=>M.bind (M.of x.ls) fun _=>M.of (cntL xs y)) kw):=run_bind _ _
theorem Wd.share {G:G3} {B:Addr→Prop} {s:S3} {st:Store} {p:Addr} {xs:List D} {vs:List V} (w:Wd G (plus B p) st s) (nb:¬B p) (hp:s.H p=some (.lst vs)) (rl:RepL G.R s.F s.io xs vs) :
  Wd G B (st++[.lst xs]) ⟨ioNew s.io st.length p,s.F,s.H⟩∧IoLe s.io (ioNew s.io st.length p)∧ioNew s.io st.length p st.length=some p:=by
 have hF:=(w.hid p (.inr rfl)).1
 have grow:IoLe s.io (ioNew s.io st.length p):=fun k a e=>by
  have:=w.dom k a e
  unfold ioNew
  rw[if_neg (by omega)]
  exact e
 have out:∀k a o,s.io k=some a→st[k]?=some o→o.tr=true→a≠p:=fun k a o e eo t q=>by
  obtain⟨b,e2,nb2,_⟩:=w.obj k o eo t
  rw[e] at e2
  cases e2
  exact nb2 (.inr q)
 refine⟨⟨w.sub,fun a b=>w.hid a (.inl b),w.ftb,fun k a e=>?_,fun j k a oj ok e1 e2 q1 t1 q2 t2=>?_,fun k o e t=>?_,fun k o e t=>?_,w.tabM (Same.refl _) fun _ _ e=>e⟩,grow,if_pos rfl⟩
 ·have e:(if k=st.length then some p else s.io k)=some a:=e
  rw[List.length_append]
  split at e
  ·simp;omega
  ·have:=w.dom k a e
   omega
 ·have e1:(if j=st.length then some p else s.io j)=some a:=e1
  have e2:(if k=st.length then some p else s.io k)=some a:=e2
  split at e1 <;> split at e2
  ·omega
  ·cases e1;rw[List.getElem?_append_left (w.dom k _ e2)] at q2;exact absurd rfl (out _ _ _ e2 q2 t2)
  ·cases e2;rw[List.getElem?_append_left (w.dom j _ e1)] at q1;exact absurd rfl (out _ _ _ e1 q1 t1)
  ·rw[List.getElem?_append_left (w.dom j _ e1)] at q1
   rw[List.getElem?_append_left (w.dom k _ e2)] at q2
   exact w.inj j k a _ _ e1 e2 q1 t1 q2 t2
 ·by_cases q:k<st.length
  ·rw[List.getElem?_append_left q] at e
   obtain⟨a,e1,b1,f1,o1⟩:=w.obj k o e t
   exact⟨a,grow k a e1,fun z=>b1 (.inl z),f1,ObjR.mono (s:=s) (s':=⟨ioNew s.io st.length p,s.F,s.H⟩) grow (Same.refl _) rfl o1⟩
  ·have hk:=(List.getElem?_eq_some_iff.mp e).1
   rw[List.length_append] at hk
   simp at hk
   obtain rfl:k=st.length:=by omega
   rw[List.getElem?_append_right (Nat.le_refl _)] at e
   simp at e
   subst e
   exact⟨p,if_pos rfl,nb,hF,vs,hp,rl.mono (Same.refl _) grow⟩
 ·by_cases q:k<st.length
  ·rw[List.getElem?_append_left q] at e
   exact w.untM (s':=⟨ioNew s.io st.length p,s.F,s.H⟩) grow (Same.refl _) k o e t
  ·have hk:=(List.getElem?_eq_some_iff.mp e).1
   rw[List.length_append] at hk
   simp at hk
   rw[List.getElem?_append_right (by omega),show k - st.length=0 by omega] at e
   simp at e
   subst e
   cases t
theorem Slo.share {G:G3} {X:Hex} {B0 B:Addr→Prop} {s:S3} {u:Sl3} {z:L2.St} {i:Nat} {xs:List D} {st:Store} (h:Slo G X B0 B s u z) (b0:∀a,B0 a→B a) (wd:Wd G B st s) (e:u[i]?=some (some (.bor xs))) :
  ∃(B':Addr→Prop) (s':S3),s'.H=s.H∧(∀a,B0 a→B' a)∧Le B0 s s'∧Wd G B' (st++[.lst xs]) s'∧Slo G X B0 B' s' (u.set i (some (.val (.ref st.length)))) z:=by
 obtain⟨hl,ow,h1,h2⟩:=h
 obtain⟨v,e1,⟨p,vs,rfl,bp,hp,rl⟩,q⟩:=h1 i _ e
 obtain⟨e3,nb⟩:=q rfl
 injection e3 with e3
 subst e3
 have wd':Wd G (plus (fun a=>B a∧a≠ow i) (ow i)) st s:=wd.less fun a z=>z.elim (fun z=>z.1) fun z=>z▸bp
 have nB:¬(fun a=>B a∧a≠ow i) (ow i):=fun z=>z.2 rfl
 obtain⟨wn,gr,at_⟩:=wd'.share nB hp rl
 refine⟨fun a=>B a∧a≠ow i,⟨ioNew s.io st.length (ow i),s.F,s.H⟩,rfl,fun a q=>⟨b0 a q,fun z=>nb (z▸q)⟩,⟨gr,Same.refl _,fun _ _=>rfl⟩,wn,by simpa using hl,ow,fun j w ej=>?_,fun j k w w' o1 o2 q1 q2 q3=>?_⟩
 ·rcases get_set ej with⟨rfl,rfl⟩ | ⟨ne,ej⟩
  ·exact⟨.ref (ow i),e1,Rep.ref at_,fun q'=>by cases q'⟩
  ·obtain⟨v,ev,rv,qv⟩:=h1 j w ej
   refine⟨v,ev,?_,qv⟩
   have away:w.own=true→∀p',v=.ref p'→p'≠ow i:=fun ow' p' e' z=>by
    obtain⟨e4,_⟩:=qv ow'
    rw[e'] at e4
    injection e4 with e4
    exact ne (h2 i j (.bor xs) w rfl ow' e ej (by rw[←e4,z]))
   cases w with
   | val d=>exact Rep.mono (Same.refl _) gr rv
   | exn c x=>
    obtain⟨ax,dd,x1,x2,xf⟩:=rv
    exact⟨ax,dd,x1,x2,xf.mono gr (Same.refl _)⟩
   | bor xs'=>
    obtain⟨p',vs',rfl,b',hp',rl'⟩:=rv
    exact⟨p',vs',rfl,⟨b',away rfl p' rfl⟩,hp',rl'.mono (Same.refl _) gr⟩
   | bod ks us=>
    obtain⟨p',vs',rfl,b',hp',e',rl'⟩:=rv
    exact⟨p',vs',rfl,⟨b',away rfl p' rfl⟩,hp',e',rl'.mono (Same.refl _) gr⟩
   | bdd ks us=>
    obtain⟨p',vs',rfl,b',hp',rl'⟩:=rv
    exact⟨p',vs',rfl,⟨b',away rfl p' rfl⟩,hp',rl'.mono (Same.refl _) gr⟩
   | len ys=>
    obtain⟨p',vs',o,rfl,b',hp',rl'⟩:=rv
    exact⟨p',vs',o,rfl,⟨b',fun z=>by subst z;rw[hp] at hp';cases hp'⟩,hp',rl'.mono (Same.refl _) gr⟩
 ·rcases get_set q1 with⟨_,z⟩ | ⟨_,q1⟩
  ·subst z;cases o1
  ·rcases get_set q2 with⟨_,z⟩ | ⟨_,q2⟩
   ·subst z;cases o2
   ·exact h2 j k w w' o1 o2 q1 q2 q3
section
variable {P:P3} {pos:Pos}
theorem me_newL {e:Expr} {m:FM} (h:MF P e m):ME P e (eNewL m):=by
 obtain⟨t,pt,ht⟩:=h.out
 refine ME.mk' pt fun B0 B s st u z Q wd sl h=>ht B0 B s st u z _ wd sl ?_
 unfold eNewL at h
 cases e:m u st with
 | ok xs st'=>
  rw[e] at h
  intro s' p vs l w nb hp r
  obtain⟨wn,gr,at_⟩:=w.share nb hp r
  exact h ⟨ioNew s'.io st'.length p,s'.F,s'.H⟩ (.ref p) (l.trans ⟨gr,Same.refl _,fun _ _=>rfl⟩) wn (Rep.ref at_)
 | err c x st'=>rw[e] at h;exact h
 | bad=>rw[e] at h;exact h
end
def lstOf (w:W):M (Nat×List D):=fun st=>match w with
 | .val (.ref k)=>match st[k]? with
  | some (.lst xs)=>.ok (k,xs) st
  | _=>.bad
 | _=>.bad
theorem lst_of {w:W} {st st':Store} {q:Nat×List D} (e:lstOf w st=.ok q st'):st'=st∧w=.val (.ref q.1)∧st[q.1]?=some (.lst q.2):=by
 unfold lstOf at e
 split at e
 ·split at e
  ·rename_i h;cases e;exact⟨rfl,rfl,h⟩
  ·cases e
 ·cases e
section
variable {α β:Type} {G:G3} {X:Hex} {B:Addr→Prop} {s:S3} {st:Store} {R:S3→α→β→Prop} {E:XK} {Q:β→Hp→Prop}
theorem Post.of_lst {w:M3.W} {v:V} {f:Nat×List D→M α} (wd:Wd G B st s) (r:RepW G X B s w v) (h:Post G B R E s Q (M.bind (lstOf w) f st)) :
  ∃k xs a vs,w=.val (.ref k)∧v=.ref a∧s.io k=some a∧st[k]?=some (.lst xs)∧s.H a=some (.lst vs)∧RepL G.R s.F s.io xs vs∧¬B a∧s.F a=none∧Post G B R E s Q (f (k,xs) st):=by
 unfold M.bind at h
 cases e:lstOf w st with
 | bad=>rw[e] at h;exact h.elim
 | err c x st'=>
  exfalso
  unfold lstOf at e
  split at e
  ·split at e <;> cases e
  ·cases e
 | ok q st'=>
  rw[e] at h
  obtain⟨rfl,rfl,ek⟩:=lst_of e
  have r:Rep G.R s.F s.io (.ref q.1) v:=r
  cases r with
  | ref eio=>
   obtain⟨a,e1,b1,f1,vs,eh,rl⟩:=wd.obj _ _ ek rfl
   rw[eio] at e1
   cases e1
   exact⟨q.1,q.2,_,vs,rfl,rfl,eio,ek,eh,rl,b1,f1,h⟩
end
def eLenS (m:EM):EM:=fun u=>M.bind (m u) fun w=>M.bind (lstOf w) fun q=>M.pure (.val (.int (q.2.length:Int)))
def ePop0S (m:EM):EM:=fun u=>M.bind (m u) fun w=>M.bind (lstOf w) fun q=>fun st=>match q.2 with
 | d :: ds=>.ok (.val d) (st.set q.1 (.lst ds))
 | []=>.bad
def eAppS (mo m:EM):EM:=fun u=>M.bind (mo u) fun w=>M.bind (lstOf w) fun _=>M.bind (m u) fun y=>M.bind (M.of y.d) fun d=>M.bind (lstOf w) fun q=>M.bind (M.chk (q.2.length<1000000)) fun _=>fun st=>.ok (.val .non) (st.set q.1 (.lst (q.2++[d])))
section
variable {P:P3} {pos p apos cpos:Pos} {x:Str} {o e:Expr} {es:List Expr} {mo m:EM}
theorem me_appS (ho:ME P o mo) (he:ME P e m)
  (hbase:attributeBase o "append" P.X.env (eval o P.X.env)=eval o P.X.env:=by rfl)
  (hfew:((backTo cpos (starEach [e] P.X.env)).all (fun x=>!x.1) && (backToKw cpos (keywordEach [] P.X.env)).all (fun x=>x.1.isSome) && decide (([e]:List Expr).length+([]:List Keyword).length+(if ([]:List Keyword).isEmpty then 0 else 1)<30))=true:=by rfl)
  (hline:(apos.endLine == cpos.line)=true:=by rfl) (hst:starEach [e] P.X.env=(false,eval e P.X.env) :: starEach [] P.X.env:=by rfl) (hplain:(backTo cpos (starEach [] P.X.env)).any (·.1)=false:=by rfl) :
  ME P (.Call (.Attribute o "append" apos) [e] [] cpos) (eAppS mo m):=by
 obtain⟨to,po,hto⟩:=ho.out
 obtain⟨te,pe,hte⟩:=he.out
 refine ME.mk' (pe_bm PySem.F.plainAttrs_list PySem.F.slot_list_append PySem.F.type_list_append mt_append po (pa_cons pe pa_nil hst) hbase hfew hline hst hplain) fun B0 B s st u z Q wd sl h=>hto B0 B s st u z _ wd sl (Post.bind h fun w st1 s1 v l1 wd1 r1 h1=>?_)
 obtain⟨k,xs,a,vs,rfl,rfl,eio,ek,eh,rl,nb,hF,h1⟩:=Post.of_lst wd1 r1 h1
 refine⟨.inl ⟨rfl,vs,.inl (.inl eh)⟩,hte B0 B s1 st1 u z _ wd1 (sl.mono' l1) (Post.bind h1 fun w2 st2 s2 v2 l2 wd2 r2 h2=>?_)⟩
 obtain⟨d,ed,h2⟩:=Post.of_of h2
 obtain rfl:w2=.val d:=by cases w2 <;> cases ed;rfl
 obtain⟨k',xs',a',vs',e1,e2,eio',ek',eh',rl',nb',hF',h3⟩:=Post.of_lst wd2 (r1.mono l2) h2
 cases e1
 cases e2
 obtain⟨hz,h3⟩:=Post.of_chk h3
 have rd:Rep P.G.R s2.F s2.io d v2:=r2
 obtain⟨w3,l3⟩:=wd2.setO (o':=.lst (xs'++[d])) (ho:=.lst (vs'++[v2])) eio' nb' hF' ⟨_,upd_same,rl'.append (.cons rd .nil)⟩ ek'
 exact⟨_,_,v2,rfl,rfl,eh',by rw[←rl'.length];exact szl hz,h3 _ _ l3 w3 .non⟩
end
def mulLF:W→W→Option W
 | .val (.lst xs),.val (.int n)=>if 0≤n∧n≤1000∧xs.length≤1000 then some (.val (.lst (List.replicate n.toNat xs).flatten)) else none
 | _,_=>none
@[simp] theorem mulLF_lst (xs:List D) (n:Int):mulLF (.val (.lst xs)) (.val (.int n))=if 0≤n∧n≤1000∧xs.length≤1000 then some (.val (.lst (List.replicate n.toNat xs).flatten)) else none:=rfl
structure CalD (Pg:Program) (w:World) (K:PySem.W.Frag) (mg:Str→Option Value) (base:Heap) (G:G3) (k:Nat) (x:Str) (n:Nat) (dd:List D) (mf:List D→M D):Prop where
 ex:∃f fd ps dvs dsv,mg x=some (.ref f)∧PySem.W.keepIn K (.ref f)=true∧Binds K fd ps dsv∧Vals dvs dsv∧(∀F io,RepL G.R F io dd dvs)∧FnOk Pg w K mg base (CXq Pg w) k f fd ps (spM G (n+dd.length) mf)
def eCallD (n:Nat) (dd:List D) (mf:List D→M D) (ma:AM):EM:=fun u=>M.bind (ma u) fun ws=>M.bind (M.of (asDs ws)) fun ds=>M.bind (M.chk (ds.length=n)) fun _=>M.bind (mf (ds++dd)) fun d=>M.pure (.val d)
@[simp] theorem run_eCallD {n:Nat} {dd:List D} {mf:List D→M D} {ma:AM} {u:Sl3} {st:Store} {kw:Res W→Prop}:run (eCallD n dd mf ma u st) kw=run (ma u st) (kBind (fun ws=>M.bind (M.of (asDs ws)) fun ds=>M.bind (M.chk (ds.length=n)) fun _=>M.bind (mf (ds++dd)) fun d=>M.pure (.val d)) kw):=run_bind _ _
section
variable {α:Type} {kw:Res W→Prop} {kf:Res (List D)→Prop} {ks:SRes→Prop} {st:Store} {u:Sl3} {mo m:EM} {fm:FM}
def kNewL (k:Res W→Prop):Res (List D)→Prop
 | .ok xs st=>k (.ok (.val (.ref st.length)) (st++[.lst xs]))
 | .err c x st=>k (.err c x st)
 | .bad=>k .bad
@[simp] theorem kNewL_ok (xs):kNewL kw (.ok xs st)=kw (.ok (.val (.ref st.length)) (st++[.lst xs])):=rfl
@[simp] theorem run_eNewL:run (eNewL fm u st) kw=run (fm u st) (kNewL kw):=by
 unfold run eNewL kNewL
 cases fm u st <;> rfl
def kLst (st:Store) (k:Res (Nat×List D)→Prop) (i:Nat):Option MO→Prop
 | some (.lst xs)=>k (.ok (i,xs) st)
 | _=>k .bad
@[simp] theorem kLst_lst {k} (i xs):kLst st k i (some (.lst xs))=k (.ok (i,xs) st):=rfl
@[simp] theorem run_lstOf (i:Nat) (k):run (lstOf (.val (.ref i)) st) k=kLst st k i st[i]?:=by
 unfold run lstOf kLst
 dsimp only
 cases st[i]? with
 | none=>rfl
 | some o=>cases o <;> rfl
@[simp] theorem run_eLenS:run (eLenS m u st) kw=run (m u st) (kBind (fun w=>M.bind (lstOf w) fun q=>M.pure (.val (.int (q.2.length:Int)))) kw):=run_bind _ _
@[simp] theorem run_ePop0S:run (ePop0S m u st) kw=run (m u st) (kBind (fun w=>M.bind (lstOf w) fun q=>fun st=>match q.2 with
 | d :: ds=>.ok (.val d) (st.set q.1 (.lst ds))
 | []=>.bad) kw):=run_bind _ _
@[simp] theorem run_eAppS:run (eAppS mo m u st) kw=run (mo u st) (kBind (fun w=>M.bind (lstOf w) fun _=>M.bind (m u) fun y=>M.bind (M.of y.d) fun d=>M.bind (lstOf w) fun q=>M.bind (M.chk (q.2.length<1000000)) fun _=>fun st=>.ok (.val .non) (st.set q.1 (.lst (q.2++[d])))) kw):=run_bind _ _
end
end M3
namespace M3
open PySem PySem.Spec PyProof.Rows L2 NdefX
abbrev veMro:List Value:=[.type "ValueError",.type "Exception",.type "BaseException",.type "object"]
theorem refs_of_tail:∀{l:List Value},PySem.W.excTail veMro l=true→PySem.HandSPX.refsVE l=true:=by
 intro l
 induction l with
 | nil=>intro h;exact absurd h (by decide)
 | cons a r ih=>
  intro h
  cases a with
  | ref c=>exact ih h
  | _=>exact h
theorem oexC_of {K:PySem.W.Frag} {C:Addr} (q:PySem.W.excInitIn K C veMro "ValueError.__new__" = true) (hd:PySem.W.hasDictIn K C=true)
  (sa:PySem.W.findIn K (.ref C) "__setattr__" = some (some (.builtin "object.__setattr__"))) (sb:PySem.W.subIn K (.ref C) (.type "BaseException")=some true) (ty:PySem.W.typeIn K (.ref C)=some (.type "type")) (kC:PySem.W.keepIn K (.ref C)=true):OexC K C:=by
 refine⟨?_,sa,sb,ty,kC⟩
 unfold PySem.W.excInitIn at q
 split at q
 ·rename_i ddc cd sl ho
  split at q
  ·rename_i C' bm k0 k1 k2 k3 n k5 hm hs
   simp only[Bool.and_eq_true,beq_iff_eq,Bool.not_eq_true'] at q
   obtain⟨⟨⟨rfl,rfl⟩,nodel⟩,tl⟩:=q
   have hdc:cd.hasDict=true:=by
    have z:=hd
    unfold PySem.W.hasDictIn PySem.W.clsIn at z
    rw[ho] at z
    simpa using z
   cases cd
   simp only at hm nodel hdc
   subst hm nodel hdc
   cases sl
   simp only at hs
   subst hs
   exact⟨_,_,_,_,bm,_,_,_,_,_,_,_,_,_,_,ho,refs_of_tail tl⟩
  ·cases q
 ·cases q
structure SupF (K:PySem.W.Frag) (mg:Str→Option Value) (Pg:Program) (f D:Addr) (cc:Addr) (F:NF) (ps:List Str) (N:List Str):Prop where
 fn:∃oc od doc pm ct osl,K.lookup f=some ⟨oc,od,.func (F.fd doc pm ct),osl⟩
 cd:PySem.W.codeIn K (.ref F.c) F.qual=true
 code:∃c d vs sl file t,K.lookup F.c=some ⟨c,d,.fields vs,sl⟩∧vs[2]?=some (.str file t)∧((Pg.main.file:Str) == file)=true
 cl:F.cl=[(("__class__" : Str),cc)]
 cell:∃c d sl,K.lookup cc=some ⟨c,d,.cell (some (.ref D)),sl⟩
 cls:∃o cd,K.lookup D=some o∧o.data=.cls cd
 nosup:mg ("super" : Str)=none
 top:(Pg.main.scope.names.lookup ("super" : Str)).isSome=false
 any:PySem.W.nsIn K cStatics "thirdparty.any" = some none
 sup:F.scope.names.lookup ("super" : Str)=some NameKind.globalImplicit
 dcl:F.scope.names.lookup ("__class__" : Str)=some NameKind.free
 ar:∃a,(F.params.posonlyargs++F.params.args).head?=some a∧F.scope.names.lookup a.arg=some NameKind.local∧N[0]?=some a.arg
 sc:NScope N ps [("__class__" : Str)] F.scope
structure SupC (K:PySem.W.Frag) (C D:Addr):Prop where
 ox:OexC K C
 mr:PySem.W.mroIn K C (.ref D)=some true
 mv:PySem.W.mroIn K C (.type "ValueError")=some true
 si:PySem.W.ks_superIn K C D "__init__" = some (some (.builtin "ValueError.__init__"))
theorem cls_at {K:PySem.W.Frag} {D:Addr} (q:PySem.W.excInitIn K D veMro "ValueError.__new__" = true):∃o cd,K.lookup D=some o∧o.data=.cls cd:=by
 unfold PySem.W.excInitIn at q
 split at q
 ·rename_i ho;exact⟨_,_,ho,rfl⟩
 ·cases q
section
variable {X:Cx} {pins:List (Addr×Obj)} {σ:L2.St} {H:Hp} {s:Shared} {f a C D cc:Addr} {F:NF} {ps N:List Str} {fL:Addr}
theorem sup_node {whole:Sem Value} {p0 p1:Pos} {Q:Value→Shared→Prop} {E:Value→Shared→Prop} {body:List Stmt} (S:SupF X.K X.mg X.prog f D cc F ps N) (hmr:PySem.W.mroIn X.K C (.ref D)=some true) {oa:Obj} (hE:X.env=envF F f fL) (hN:X.N=N) (I:Inv X pins σ H s) (ho:s.heap.get? a=some oa) (hoc:oa.cls=.ref C) (hon:∀c,oa.data≠.cls c) (h0:σ[0]?=some (some (.ref a)))
  (h:∀so h',Inv X pins σ H { s with heap:=h' }→h'.get? so=some (PySem.W.ks_superObj D a C)→Q (.ref so) { s with heap:=h' }) :
  _root_.PySem.wpAt (model X.prog X.w) X.A (.func body X.env) (attributeBase (.Call (.Name "super" p0) [] [] p1) "__init__" X.env whole) Q E s:=by
 obtain⟨oc,od,doc,pm,ct,osl,hf⟩:=S.fn
 obtain⟨c1,d1,vs,sl1,file,tf,hcode,hvs,hfile⟩:=S.code
 obtain⟨ar,har,hloc,har0⟩:=S.ar
 obtain⟨oD,cdD,hD,hDd⟩:=S.cls
 have X0:=I.kIn
 have ksup:X.env.kindOf "super" = some .globalImplicit:=by rw[hE];exact S.sup
 have kcls:X.env.kindOf "__class__" = some .free:=by rw[hE];exact S.dcl
 refine PySem.ks_wpAt_super_base (f:=f) (cc:=F.c) ksup kcls (by decide) (by rw[hE]) (X0 _ _ hf) rfl har (by rw[hE]) (X0 _ _ hcode) rfl hvs hfile S.top ?_
 obtain⟨mb,m1,m2⟩:=I.mod.blt
 refine PySem.W.ks_loadName_global I.ok.kind ksup (PySem.Calls.loadGlobal_builtin (by rw[I.ok.glob];exact I.mod.glob.keeps I.bk) S.nosup (by rw[I.ok.blt];exact m1.keeps I.bk) ((m2 "super" (by decide)).trans (show bootBuiltins "super" = some (.type "super") by decide +kernel)) ⟨rfl,?_⟩)
 obtain⟨c2,d2,sl2,hcell⟩:=S.cell
 refine wpAny_loadName_free I.ok.kind kcls (c:=cc) (by rw[hE];show F.cl.lookup _=_;rw[S.cl];rfl) ⟨_,X0 _ _ hcell,rfl⟩ ?_
 obtain⟨m,hm,hl⟩:=I.loc
 obtain⟨u,ru,lk⟩:=hl 0 ar.arg (.ref a) (by rw[hN];exact har0) h0 (.inl (by rw[hE];exact hloc))
 obtain rfl:u=Value.ref a:=ru
 have hv:m ar.arg=some (.ref a):=by
  rcases lk with⟨_,z⟩ | ⟨z,_⟩
  ·exact z
  ·have z':F.scope.names.lookup ar.arg=some .cell∨F.scope.names.lookup ar.arg=some .free:=by
    have z2:=z
    rw[hE] at z2
    exact z2
   rw[hloc] at z'
   rcases z' with z' | z' <;> cases z'
 refine wpAny_loadName_local I.ok.kind (by rw[hE];exact hloc) hm hv ?_
 obtain⟨hh,g,d,t,os⟩:=s
 refine PySem.ks_wpAny_isType_cls (X0 _ _ hD) hDd ⟨rfl,?_⟩
 refine PySem.ks_wpAny_call_super (X0 _ _ hD) hDd ho hoc hon (PySem.W.looks_mroIn X0 hmr) (fun h' z k=>?_)
 exact h _ h' (I.kept k) z
theorem bound_init {u:Addr} {us:List Value} {Q:Value→Shared→Prop} {E:Value→Shared→Prop} {A:Around} (T:SupC X.K C D) (I:Inv X pins σ H s) (e:H a=some (exo a C none)) (hu:s.heap.get? u=some (PySem.W.kxs_mw "ValueError.__init__" a)) (hz:us.length≤sizeLine)
  (h:∀s',Inv X pins σ H s'→Q .none s'):wpAny (model X.prog X.w) A (call (.ref u) us) Q E s:=by
 obtain⟨nm,q,N,bs,bm,sn,sub,ab,col,dd,k0,k1,k2,k3,k5,hC,hbm⟩:=T.ox.cls
 obtain⟨t1,ho⟩:=exo_at I.hok e
 have hCs:=I.kIn _ _ hC
 obtain⟨hp,g,d,tk,os⟩:=s
 refine wpAny_call (codeAny_of_tree ?_)
 show wpAny _ A.in1 (callAny (.ref u) ⟨us,[]⟩) _ _ _
 simp only[callAny]
 refine wpAny_bind (wpAny_load hu ?_)
 simp only[PySem.W.kxs_mw,show (Value.type "method-wrapper" == Value.type "method" || Value.type "method-wrapper" == Value.type "builtin_function_or_method" || Value.type "method-wrapper" == Value.type "method-wrapper")=true by decide,if_true]
 refine PySem.W.KFB.if_so (by decide) ?_
 refine wpAny_bind (PySem.W.check_bound_init PySem.F.excBase_ValueError.toExcCallFacts hCs ho rfl ?_)
 refine wpAny_bind (wpAny_pure (wpAny_pure ⟨plainId_quiet PySem.F.excBase_ValueError.init.plain _,codeAny_builtin PySem.F.excBase_ValueError.initEntry ?_⟩))
 refine PySem.W.exc_init_tree (cls:=.ref C) (t0:=t1) (dv:=none) (c2:=.none) (c3:=.none) (b4:=.bool false) ho hz fun h' k hx _=>?_
 have J:=I.write (t':=tk) (x:=a) (e:=a) (o:=exo a C none) (by rw[e];exact True.intro) (.inl rfl) k ⟨_,hx⟩ (exo_ok hx)
 have eu:upd H a (exo a C none)=H:=by
  funext b
  by_cases hb:b=a
  ·rw[hb,upd_same,e]
  ·rw[upd_ne hb]
 rw[eu] at J
 exact h _ J
def SupE (p0 p1 p2 p3 p4:Pos) (msg:Str) (j:Nat):Prop:=∀env:Env,∃pl,eval (.Call (.Attribute (.Call (.Name "super" p0) [] [] p1) "__init__" p2) [.Constant (.str msg) j p3] [] p4) env=(do
 let ov ← attributeBase (.Call (.Name "super" p0) [] [] p1) "__init__" env (eval (.Call (.Name "super" p0) [] [] p1) env)
 standAt p2.atName
 let (f,first) ← holding [ov] (getMethod ov "__init__" pl)
 callWith p4 f first (backTo p4 (starEach [.Constant (.str msg) j p3] env)) [])
theorem sup_exc {p0 p1 p2 p3 p4 p5:Pos} {msg:Str} {j:Nat} {body:List Stmt} {Q:Flow→Shared→Prop} {E:Value→Shared→Prop} (hm0:SupE p0 p1 p2 p3 p4 msg j) (S:SupF X.K X.mg X.prog f D cc F ps N) (T:SupC X.K C D) (hE:X.env=envF F f fL) (hN:X.N=N) (I:Inv X pins σ H s) (e:H a=some (exo a C none)) (h0:σ[0]?=some (some (.ref a)))
  (h:∀s',Inv X pins σ H s'→Q .next s') :
  _root_.PySem.wpAt (model X.prog X.w) X.A (.func body X.env) (exec (.Expr (.Call (.Attribute (.Call (.Name "super" p0) [] [] p1) "__init__" p2) [.Constant (.str msg) j p3] [] p4) p5) X.env) Q E s:=by
 have nint:interactive X.env=false:=by
  unfold interactive
  rw[I.ok.kind]
  rfl
 obtain⟨pl,he⟩:=hm0 X.env
 refine PySem.ks_wpAt_Expr_any (PySem.ks_wpAt_MethodCall (sup_node S T.mr hE hN I (exo_at I.hok e).choose_spec rfl (fun c z=>by cases z) h0 fun so h1 I1 hso=>?_) he) nint rfl
 obtain⟨nm,q,Nc,bs,bm,sn,sub,ab,col,dd,k0,k1,k2,k3,k5,hC,hbm⟩:=T.ox.cls
 obtain⟨cd,hcl,hmro⟩:∃cd,PySem.W.clsIn X.K C=some cd∧cd.mro=.ref C :: bm:=by
  unfold PySem.W.clsIn
  rw[hC]
  exact⟨_,rfl,rfl⟩
 have hm:=T.si
 unfold PySem.W.ks_superIn at hm
 rw[hcl] at hm
 obtain⟨t1,ho⟩:=exo_at I1.hok e
 have hCK:=I1.kIn
 have aC:a≠C:=fun z=>by
  have hb:=X.K
  obtain⟨_,n⟩:=I1.bs C _ (I1.ok.mod.kin _ _ hC)
  rw[←z,e] at n
  cases n
 obtain⟨hh,g,d,t,os⟩:=s
 have hI:PySem.W.Looks (model X.prog X.w) h1 (isInstance (.ref a) (.type "ValueError")) true:=
  PySem.W.Looks.andThen (a:=.ref C) (fun A Q E s k q=>wpAny_typeOf_ref (k _ _ ho) q) (PySem.W.looks_mroIn hCK T.mv)
 refine PySem.W.kxs_getMethod PySem.W.kxs_ValueError hso (PySem.W.looks_opaque hCK S.any) (l₀:=cd.mro) (fun A Q E s k q=>wpAny_bind ((PySem.W.looks_clsIn hCK hcl) A _ E s k (wpAny_pure q))) rfl hCK hm hI aC (by decide) ?_
 have hsz:(h1.push (PySem.W.kxs_mw "ValueError.__init__" a)).get? h1.objs.size=some (PySem.W.kxs_mw "ValueError.__init__" a):=Heap.get?_push_size _ rfl
 show wpAny _ _ (callWith p4 (.ref h1.objs.size) [] _ []) _ _ _
 refine PySem.W.kxs_callWith (i:="ValueError.__init__") (x:=a) rfl (PySem.Calls.evalArgs_plain (PySem.Calls.spliced_cons (PySem.Calls.Constant_str (x:=msg) (k:=j) (pos:=p3) (env:=X.env) (PySem.Calls.spliced_nil ⟨hsz,?_⟩))))
 exact bound_init T (I1.kept (t':=t+1+1) fun b o q=>Heap.get?_push_of_some _ q) e hsz (show (1:Nat)≤sizeLine by rw[sizeLine_eq];decide) fun s' J=>h s' J
theorem sup_body {p0 p1 p2 p3 p4 p5 q1 q2 q3 q4:Pos} {msg fld par:Str} {j:Nat} {body:List Stmt} {Dn:Ends} {v:V} (hm0:SupE p0 p1 p2 p3 p4 msg j) (S:SupF X.K X.mg X.prog f D cc F ps N) (T:SupC X.K C D) (hE:X.env=envF F f fL) (hN:X.N=N) (I:Inv X pins σ H s) (e:H a=some (exo a C none)) (h0:σ[0]?=some (some (.ref a)))
  (h1:σ[1]?=some (some v)) (n0:N[0]?=some ("self" : Str)) (n1:N[1]?=some par) (l0:F.scope.names.lookup ("self" : Str)=some NameKind.local) (l1:F.scope.names.lookup par=some NameKind.local) (hd1:(par == ("__debug__" : Str))=false) (hcd1:(par == ("__classdict__" : Str))=false)
  (hno:PySem.W.findIn X.K (.ref C) fld=some none) (q:∀dx,H dx=none→dx≠a→Dn.nx σ (upd (upd H dx (exd dx [(fld,v)])) a (exo a C (some dx)))) :
  _root_.PySem.wpAt (model X.prog X.w) X.A (.func body X.env) (execs [.Expr (.Call (.Attribute (.Call (.Name "super" p0) [] [] p1) "__init__" p2) [.Constant (.str msg) j p3] [] p4) p5,.Assign [.Attribute (.Name "self" q1) fld q2] (.Name par q3) q4] X.env) (SP X pins Dn) X.xe s:=by
 refine PySem.ks_wpAt_execs_cons (sup_exc hm0 S T hE hN I e h0 fun s' J=>?_)
 have v0:PE X (.Name "self" q1) (tVar 0):=pe_var (by rw[hN];exact n0) (.inl (by rw[hE];exact l0))
 have v1:PE X (.Name par q3) (tVar 1):=pe_var (by rw[hN];exact n1) (.inl (by rw[hE];exact l1)) hd1 hcd1
 exact wpAt_of_wpAny ((pss_one (ps_ost v0 v1)).run pins s' σ H Dn J ⟨v,h1,.ref a,h0,a,C,rfl,T.ox,hno,.inl ⟨e,q⟩⟩)
end
def spX (K:PySem.W.Frag) (fld:Str) (D:Addr):Sp:=fun vs H Q _=>∃(a C:Addr) (v:V),vs=[.ref a,v]∧SupC K C D∧PySem.W.findIn K (.ref C) fld=some none∧H a=some (exo a C none)∧∀dx,H dx=none→dx≠a→Q .non (upd (upd H dx (exd dx [(fld,v)])) a (exo a C (some dx)))
structure SupB (F:NF) (ps N:List Str) (par fld:Str):Prop where
 ps:ps=[("self" : Str),par]
 n0:N[0]?=some ("self" : Str)
 n1:N[1]?=some par
 l0:F.scope.names.lookup ("self" : Str)=some NameKind.local
 l1:F.scope.names.lookup par=some NameKind.local
 d1:(par == ("__debug__" : Str))=false
 d2:(par == ("__classdict__" : Str))=false
 body:∃(p0 p1 p2 p3 p4 p5 q1 q2 q3 q4:Pos) (msg:Str) (j:Nat),SupE p0 p1 p2 p3 p4 msg j∧F.body=[.Expr (.Call (.Attribute (.Call (.Name "super" p0) [] [] p1) "__init__" p2) [.Constant (.str msg) j p3] [] p4) p5,.Assign [.Attribute (.Name "self" q1) fld q2] (.Name par q3) q4]
section
variable {Pg:Program} {w:World} {K:PySem.W.Frag} {mg:Str→Option Value} {base:Heap} {CX:CXH} {f D cc:Addr} {F:NF} {ps N:List Str} {par fld:Str} {k:Nat} {fd:FuncData} {oc:Value} {od:Option Addr} {osl:Array (Option Value)} {doc pm ct:Value}
theorem cellsAt_of {A:Around} {outer:List Env} {s:Shared} {H:Hp} (S:SupF K mg Pg f D cc F ps N) (e0:Env0 Pg w K mg base A outer s H):CellsAt F.cl [("__class__" : Str)] [none] s.heap H:=by
 obtain⟨c2,d2,sl2,hcell⟩:=S.cell
 have hb:=e0.mod.kin _ _ hcell
 obtain⟨k1,k2⟩:=e0.bs _ _ hb
 have look:∀{y:Str} {c:Addr},F.cl.lookup y=some c→y="__class__"∧c=cc:=fun {y c} z=>by
  rw[S.cl,List.lookup_cons] at z
  split at z
  ·rename_i q
   exact⟨by simpa using q,(Option.some.inj z).symm⟩
  ·cases z
 refine⟨rfl,fun y c z=>?_,fun x y c z1 z2=>?_,fun i y z=>?_⟩
 ·obtain⟨_,rfl⟩:=look z
  exact⟨k2,_,_,k1,rfl⟩
 ·rw[(look z1).1,(look z2).1]
 ·refine⟨cc,?_,fun v z2=>?_⟩
  ·have hy:y="__class__":=by
    have:=List.mem_of_getElem? z
    simpa using this
   rw[S.cl,hy]
   rfl
  ·cases i with
   | zero=>cases z2
   | succ i=>simp at z2
theorem fnX_ok (S:SupF K mg Pg f D cc F ps N) (B:SupB F ps N par fld) (hf:K.lookup f=some ⟨oc,od,.func fd,osl⟩) (hfd:fd=F.fd doc pm ct):FnOk Pg w K mg base CX (k+1) f fd ps (spX K fld D):=by
 refine⟨fun vs H Q E ⟨a,C,v,e,_⟩=>by rw[e,B.ps];rfl,fun A outer s H args us vs Q E hr e0 hb r ⟨a,C,v,ev,T,hno,ea,q⟩=>?_⟩
 have KX:K.In s.heap:=e0.mod.kin.keeps fun b o z=>(e0.bs b o z).1
 have lim:s.heap.NoLimit:=e0.mod.nolimit.keeps fun b o z=>(e0.bs b o z).1
 subst hfd
 obtain⟨p0,p1,p2,p3,p4,p5,q1,q2,q3,q4,msg,j,hm0,hbody⟩:=B.body
 refine PySem.ks_codeAny_call_defAt (fd:=F.fd doc pm ct) (body:=F.body) hr.depth (KX _ _ hf) rfl lim (PySem.W.codeRec_of KX S.cd) rfl hb S.sc.nocell (fun y hy=>S.sc.par _ (List.of_mem_zip (show (y.1,y.2)∈_ from hy)).1) (fun h₀ hns kp=>?_) S.sc.co S.sc.gen S.sc.kind
 have hl:vs.length=ps.length:=by rw[ev,B.ps];rfl
 have I:Inv (ncx CX Pg w K mg base N F f A outer s H E) [] (startF N vs [none]) H { s with heap:=h₀,toks:=s.toks+(ps.zip us).length }:=inv_startN S.sc hr.hot e0 hl r (cellsAt_of S e0) hns kp
 have h:=sup_body (X:=ncx CX Pg w K mg base N F f A outer s H E) (pins:=[]) (body:=F.body) (Dn:={ nx:=fun _ H'=>Q .non H',rt:=Q }) (p0:=p0) (p1:=p1) (p2:=p2) (p3:=p3) (p4:=p4) (p5:=p5) (q1:=q1) (q2:=q2) (q3:=q3) (q4:=q4) (msg:=msg) (j:=j) (fld:=fld) (par:=par) (v:=v)
  hm0 S T (fL:=s.heap.objs.size) rfl rfl I ea (by rw[ev];rfl) (by rw[ev];rfl) B.n0 B.n1 B.l0 B.l1 B.d1 B.d2 hno q
 rw[←hbody] at h
 refine PySem.ks_wpAt_mono h (fun fl s' hs=>?_) fun _ _ z=>z
 have fin:∀{σ':L2.St} {H':Hp} {v:V} {u:Value},Inv (ncx CX Pg w K mg base N F f A outer s H E) [] σ' H' s'→L2.RelV v u→Q v H'→CE outer Pg w H s Q u s':=
  fun {σ' H' v u} J rv z=>⟨v,H',J.os,J.bare,J.base,J.hok,rv,z⟩
 cases fl with
 | next=>obtain⟨σ',H',J,z⟩:=hs;exact fin (v:=V.non) (u:=Value.none) J rfl z
 | ret u=>obtain⟨v',σ',H',J,rv,z⟩:=hs;exact fin J rv z
 | brk=>exact hs.elim fun _ z=>z.elim fun _ z=>z.2.elim
 | cont=>exact hs.elim fun _ z=>z.elim fun _ z=>z.2.elim
end
end M3
namespace M3
open PySem PySem.Spec PyProof.Rows L2 NdefX
structure XcOk (Pg:Program) (w:World) (K:PySem.W.Frag) (mg:Str→Option Value) (base:Heap) (G:G3) (k:Nat) (x:Str) (c:String):Prop where
 ex:∃(C D f:Addr) (fd:FuncData) (ps:List Str) (fld:Str),G.cls c=some C∧G.fld c=some fld∧mg x=some (.ref C)∧SupC K C D∧PySem.W.findIn K (.ref C) fld=some none∧
  PySem.W.findIn K (.ref C) "__init__" = some (some (.ref f))∧PySem.W.typeIn K (.ref f)=some (.type "function")∧Binds K fd ps []∧FnOk Pg w K mg base (CXq Pg w) k f fd ps (spX K fld D)
def sRaiseX (c:String) (ma:AM):SM:=fun u st=>match ma u st with
 | .ok ws st'=>match asDs ws with
  | some [d]=>.err c d u st'
  | _=>.bad
 | _=>.bad
theorem del_upd3 {H:Hp} {a d:Addr} {o1 o2 o3 o4:HO} (ha:H a=none) (ne:d≠a):upd (L2.del (upd (upd (upd H a o1) d o2) a o3) a) d o4=upd H d o4:=by
 funext b
 by_cases hd:b=d
 ·rw[hd,upd_same,upd_same]
 ·rw[upd_ne hd,upd_ne hd]
  by_cases hb:b=a
  ·rw[hb,del_same,ha]
  ·rw[del_ne hb,upd_ne hb,upd_ne hd,upd_ne hb]
section
variable {P:P3} {pos p rpos:Pos} {x:Str} {c:String} {e:Expr} {es:List Expr} {ma:AM} {j k:Nat}
theorem ms_raiseX (h:XcOk P.X.prog P.X.w P.X.K P.X.mg P.X.base P.G k x c) (hr:Room j P.X) (hk:k+1≤j) (hc:Cool P.X) (tk:Takes P.X P.wx) (hg:Gl P.X x) (ha:MA P (e :: es) ma)
  (hdb:(x == ("__debug__" : Str))=false:=by decide) (he:starEach (e :: es) P.X.env=(false,eval e P.X.env) :: starEach es P.X.env:=by rfl) (hpl:(backTo pos (starEach es P.X.env)).any (·.1)=false:=by rfl) :
  MS P (.Raise (some (.Call (.Name x p) (e :: es) [] pos)) none rpos) (sRaiseX c ma):=by
 obtain⟨C,D,f,fd,ps,fld,gc,gf,hm,T,hno,iC,tI,hb,F⟩:=h.ex
 obtain⟨t,pt,ht⟩:=ha.out
 have px:Passes (CXq P.X.prog P.X.w P.X.A.handled) P.X (fun _ _ _=>False):=passes_call tk (fun _ _ _ _ z=>z.elim)
 refine MS.mk' (ps_raise hc tk (pmk_oex T.ox iC tI F (hr.mono hk) hb px hg hm pt hdb he hpl)) fun B0 B s o u z Dn b0 wd sl h=>ht B0 B s o u z _ wd sl ?_
 unfold sRaiseX at h
 cases em:ma u o with
 | bad=>rw[em] at h;exact h.elim
 | err _ _ _=>rw[em] at h;exact h.elim
 | ok ws st'=>
  rw[em] at h
  dsimp only at h
  intro s1 vs l1 wd1 r1
  split at h
  ·rename_i d ed
   have rl:=asDs_ok r1 ed
   cases rl with
   | cons rd rr=>
    cases rr
    rename_i v
    refine⟨show (1:Nat)≤1000 by decide,fun a hna=>⟨a,C,v,rfl,T,hno,upd_same,fun dx hdx ne=>⟨rfl,dx,[(fld,v)],upd_same,by rw[upd_ne ne,upd_same],?_,?_⟩⟩⟩
    ·rw[upd_ne ne] at hdx;exact hdx
    ·rw[upd_ne ne] at hdx
     rw[del_upd3 hna ne]
     obtain⟨w2,l2⟩:=wd1.froz hdx (.xd [(fld,v)])
     refine h B (s1.froz dx (.xd [(fld,v)])) z (.ref C) (some dx) b0 ((l1.trans l2).less b0) w2 (sl.mono (l1.trans l2)) ?_
     unfold ExR
     rw[gc]
     refine⟨rfl,?_⟩
     rw[gf]
     exact⟨dx,_,v,rfl,upd_same,by simp,rd.mono l2.fr l2.io⟩
  ·exact h.elim
end
end M3
namespace M3
open PySem
section
variable {u:Sl3} {st:Store} {ks:SRes→Prop} {kw:Res W→Prop}
def kRaiseX (c:String) (u:Sl3) (k:SRes→Prop):Res (List W)→Prop
 | .ok ws st'=>(match asDs ws with
  | some [d]=>k (.err c d u st')
  | _=>k .bad)
 | _=>k .bad
@[simp] theorem run_sRaiseX (c) (ma:AM):srun (sRaiseX c ma u st) ks=M3.run (ma u st) (kRaiseX c u ks):=by
 unfold srun sRaiseX M3.run kRaiseX
 cases ma u st with
 | ok ws st'=>
  dsimp only
  cases asDs ws with
  | none=>rfl
  | some ds=>
   match ds with
   | []=>rfl
   | [d]=>rfl
   | _ :: _ :: _=>rfl
 | err _ _ _=>rfl
 | bad=>rfl
@[simp] theorem kRaiseX_ok (c) (d:D):kRaiseX c u ks (.ok [.val d] st)=ks (.err c d u st):=rfl
def kXf (cs:List String) (st:Store) (k:Res W→Prop):Option (Option W)→Prop
 | some (some (.exn c x))=>if c∈cs then k (.ok (.val x) st) else k .bad
 | _=>k .bad
@[simp] theorem run_eXf (i:Nat) (cs):M3.run (eXf i cs u st) kw=kXf cs st kw u[i]?:=by
 unfold M3.run eXf kXf
 cases u[i]? with
 | none=>rfl
 | some o=>
  cases o with
  | none=>rfl
  | some w=>
   cases w with
   | exn c x=>dsimp only;split <;> rfl
   | _=>rfl
@[simp] theorem kXf_exn (cs) (c x):kXf cs st kw (some (some (.exn c x)))=if c∈cs then kw (.ok (.val x) st) else kw .bad:=rfl
def kOwnDsD (i:Nat) (u:Sl3) (k:SRes→Prop):Res (List (D×D))→Prop
 | .ok ps st=>if ps.length≤15 then (match ddAll ps [] [] with
  | some r=>k (.nx (u.set i (some (.bdd r.1 r.2))) st)
  | none=>k .bad) else k .bad
 | _=>k .bad
@[simp] theorem run_sOwnDsD (i:Nat) (q:QM):srun (sOwnDsD i q u st) ks=M3.run (q u st) (kOwnDsD i u ks):=by
 unfold srun sOwnDsD M3.run kOwnDsD
 cases q u st with
 | ok ps st'=>
  dsimp only
  split
  ·cases ddAll ps [] [] <;> rfl
  ·rfl
 | _=>rfl
theorem kOwnDsD_ok (i:Nat) (ps:List (D×D)) (st:Store) {r:List D×List D} (h:ddAll ps [] []=some r) (hl:ps.length≤15):kOwnDsD i u ks (.ok ps st)=ks (.nx (u.set i (some (.bdd r.1 r.2))) st):=by
 unfold kOwnDsD
 dsimp only
 rw[if_pos hl,h]
end
end M3
namespace M3
open PySem PySem.Spec PyProof.Rows L2 NdefX
end M3
namespace M3
open PySem PySem.Spec PyProof.Rows L2
def sRetF (m:FM):SM:=fun u st=>match m u st with
 | .ok xs st'=>.rt (.bor xs) st'
 | .err c x st'=>.err c x u st'
 | .bad=>.bad
def spML (G:G3) (n:Nat) (m:List D→M (List D)):Sp:=fun vs H Q E=>vs.length=n∧∃(B:Addr→Prop) (s:S3) (st:Store) (ds:List D),s.H=H∧Wd G B st s∧RepL G.R s.F s.io ds vs∧PostF G B E s Q (m ds st)
structure PropOkL (Pg:Program) (w:World) (K:PySem.W.Frag) (mg:Str→Option Value) (base:Heap) (G:G3) (k:Nat) (f:Str) (c:String) (mf:List D→M (List D)):Prop where
 ex:∃C p g fd ps,G.cls c=some C∧Cls K C∧PropOf K C f p g∧Binds K fd ps []∧FnOk Pg w K mg base (CXq Pg w) k g fd ps (spML G 1 mf)
def fProp (c:String) (mf:List D→M (List D)) (mo:EM):FM:=fun u=>M.bind (mo u) fun w=>M.bind (insOf w) fun q=>M.bind (M.chk (q.2.1=c)) fun _=>M.quiet (mf [.ref q.1])
def eCon (cs:List (String×D)) (f:Str) (m:EM):EM:=fun u=>M.bind (m u) fun w=>M.bind (insOf w) fun q=>M.bind (M.chk (q.2.2.lookup f=none)) fun _=>M.bind (M.of (cs.lookup q.2.1)) fun d=>M.pure (.val d)
def fListA (ma:AM):FM:=fun u=>M.bind (ma u) fun ws=>match ws with
 | [w]=>M.bind (lstOf w) fun q=>M.pure q.2
 | _=>M.bad
section
variable {u:Sl3} {st:Store} {ks:SRes→Prop} {kw:Res W→Prop} {kl:Res (List D)→Prop}
def kRetF (u:Sl3) (k:SRes→Prop):Res (List D)→Prop
 | .ok xs st=>k (.rt (.bor xs) st)
 | .err c x st=>k (.err c x u st)
 | .bad=>k .bad
@[simp] theorem kRetF_ok (xs):kRetF u ks (.ok xs st)=ks (.rt (.bor xs) st):=rfl
@[simp] theorem run_sRetF (m:FM):srun (sRetF m u st) ks=M3.run (m u st) (kRetF u ks):=by
 unfold srun sRetF M3.run kRetF
 cases m u st <;> rfl
def kRetL (k:Res (List D)→Prop):SRes→Prop
 | .rt (.bor xs) st=>k (.ok xs st)
 | .err c x _ st=>k (.err c x st)
 | _=>k .bad
@[simp] theorem kRetL_bor (xs):kRetL kl (.rt (.bor xs) st)=kl (.ok xs st):=rfl
@[simp] theorem kRetL_err (c x):kRetL kl (.err c x u st)=kl (.err c x st):=rfl
@[simp] theorem run_fListA (ma:AM):M3.run (fListA ma u st) kl=M3.run (ma u st) (kBind (fun ws=>match ws with
 | [w]=>M.bind (lstOf w) fun q=>M.pure q.2
 | _=>M.bad) kl):=run_bind _ _
@[simp] theorem run_fProp (c) (mf:List D→M (List D)) (mo:EM):M3.run (fProp c mf mo u st) kl=M3.run (mo u st) (kBind (fun w=>M.bind (insOf w) fun q=>M.bind (M.chk (q.2.1=c)) fun _=>M.quiet (mf [.ref q.1])) kl):=run_bind _ _
@[simp] theorem run_eCon (cs f) (m:EM):M3.run (eCon cs f m u st) kw=M3.run (m u st) (kBind (fun w=>M.bind (insOf w) fun q=>M.bind (M.chk (q.2.2.lookup f=none)) fun _=>M.bind (M.of (cs.lookup q.2.1)) fun d=>M.pure (.val d)) kw):=run_bind _ _
end
end M3
namespace M3
open PySem PySem.Spec PyProof.Rows L2
def eIdxL (a b:EM):EM:=fun u=>M.bind (a u) fun x=>M.bind (M.of x.ls) fun xs=>M.bind (b u) fun y=>M.bind (M.of x.ls) fun _=>M.of (idxF xs y)
section
variable {a b:EM} {u:Sl3} {st:Store} {kw}
@[simp] theorem run_eIdxL:run (eIdxL a b u st) kw=run (a u st) (kBind (fun x=>M.bind (M.of x.ls) fun xs=>M.bind (b u) fun y=>M.bind (M.of x.ls) fun _=>M.of (idxF xs y)) kw):=run_bind _ _
end
end M3
namespace M3
open PySem PySem.Spec PyProof.Rows L2
def mulTF:W→W→Option W
 | .val (.tup xs),.val (.int n)=>if 0≤n∧n≤1000∧xs.length≤1000 then some (.val (.tup (List.replicate n.toNat xs).flatten)) else none
 | _,_=>none
@[simp] theorem mulTF_tup (xs:List D) (n:Int):mulTF (.val (.tup xs)) (.val (.int n))=if 0≤n∧n≤1000∧xs.length≤1000 then some (.val (.tup (List.replicate n.toNat xs).flatten)) else none:=rfl
end M3
namespace M3
open PySem PySem.Spec PyProof.Rows L2
def G3.at (G:G3) (b:Heap):G3:={ G with base:=b,own:=fun _=>none }
def G3.owning (G:G3) (w:Nat→Option Addr):G3:={ G with own:=w }
def KnowsTo (b b':Heap):Prop:=∀a v,b.IsCell a v→b'.IsCell a v
theorem KnowsTo.refl (b:Heap):KnowsTo b b:=fun _ _ h=>h
def MO.cut (o:MO):MO:=if o.tr=true then o else .dead
def MO.nap:MO→MO
 | .slp _=>.dead
 | o=>o
theorem MO.nap_tr (o:MO):o.nap.tr=o.tr:=by cases o <;> rfl
def MO.pick (o o':MO):MO:=if o.tr=true then o'.cut else o
def back:Store→Store→Store
 | o :: st,o' :: st'=>o.pick o' :: back st st'
 | [],st'=>st'.map MO.cut
 | _,[]=>[]
theorem back_length:∀st st':Store,(back st st').length=st'.length
 | [],st'=>by simp[back]
 | _ :: _,[]=>rfl
 | _ :: st,_ :: st'=>by simp[back,back_length st st']
theorem back_get:∀(st st':Store) (k:Nat),(back st st')[k]?=(st'[k]?).map fun o'=>match st[k]? with
  | some o=>o.pick o'
  | none=>o'.cut
 | [],st',k=>by simp[back]
 | _ :: _,[],k=>by simp[back]
 | _ :: _,_ :: _,0=>by simp[back]
 | _ :: st,_ :: st',k+1=>by simpa[back] using back_get st st' k
theorem cut_tr {o o':MO} (h:o.cut=o') (t:o'.tr=true):o=o':=by
 unfold MO.cut at h
 split at h
 ·exact h
 ·subst h;cases t
theorem cut_un {o o':MO} (h:o.cut=o') (t:o'.tr=false):o'=.dead:=by
 unfold MO.cut at h
 split at h
 ·rename_i q;rw[h] at q;rw[q] at t;cases t
 ·exact h.symm
section
variable {G:G3} {b b':Heap} {B:Addr→Prop} {st st':Store} {s s':S3}
theorem UntR.at_ {a:Addr} {o:MO} (hb:KnowsTo G.base b) (x:UntR G s a o):UntR (G.at b) s a o.nap:=by
 cases o with
 | kc d=>obtain⟨v,u,r,q,z⟩:=x;exact⟨v,u,r,hb _ _ q,z⟩
 | slp i=>exact True.intro
 | dead=>exact True.intro
 | rdd ks us=>exact x
 | _=>exact False.elim x
theorem Wd.nap (hb:KnowsTo G.base b) (w:Wd G B st s):Wd (G.at b) B (st.map MO.nap) s:=by
 have get:∀{k:Nat} {o:MO},(st.map MO.nap)[k]?=some o→∃o':MO,st[k]?=some o'∧o'.nap=o:=fun {k o} e=>by
  rw[List.getElem?_map] at e
  exact Option.map_eq_some_iff.mp e
 refine⟨w.sub,w.hid,w.ftb,fun k a e=>by rw[List.length_map];exact w.dom k a e,fun j k a oj ok e1 e2 q1 t1 q2 t2=>?_,fun k o e t=>?_,fun k o e t=>?_,w.tabs⟩
 ·obtain⟨oj',q1',rfl⟩:=get q1
  obtain⟨ok',q2',rfl⟩:=get q2
  rw[MO.nap_tr] at t1 t2
  exact w.inj j k a oj' ok' e1 e2 q1' t1 q2' t2
 ·obtain⟨o',e',rfl⟩:=get e
  rw[MO.nap_tr] at t
  obtain⟨a,e1,b1,f1,x⟩:=w.obj k o' e' t
  have:o'.nap=o':=by cases o' <;> first | rfl | cases t
  rw[this]
  exact⟨a,e1,b1,f1,x⟩
 ·obtain⟨o',e',rfl⟩:=get e
  rw[MO.nap_tr] at t
  obtain⟨a,e1,x⟩:=w.unt k o' e' t
  exact⟨a,e1,x.at_ hb⟩
theorem Wd.back {B0 B1:Addr→Prop} (w:Wd G B0 st s) (l:Le B1 s s') (w':Wd (G.at b) B st' s'):Wd G B (back st st') s':=by
 have old:∀{k:Nat} {o:MO},(M3.back st st')[k]?=some o→o.tr=true→st'[k]?=some o:=fun {k o} e t=>by
  rw[back_get] at e
  obtain⟨o',e1,e2⟩:=Option.map_eq_some_iff.mp e
  rw[e1]
  split at e2
  ·unfold MO.pick at e2
   split at e2
   ·rw[cut_tr e2 t]
   ·rename_i q;subst e2;exact absurd t q
  ·rw[cut_tr e2 t]
 refine⟨w'.sub,w'.hid,w'.ftb,fun k a e=>by rw[back_length];exact w'.dom k a e,fun j k a oj ok e1 e2 q1 t1 q2 t2=>?_,fun k o e t=>w'.obj k o (old e t) t,fun k o e t=>?_,w'.tabs⟩
 ·exact w'.inj j k a oj ok e1 e2 (old q1 t1) t1 (old q2 t2) t2
 ·rw[back_get] at e
  obtain⟨o',e1,e2⟩:=Option.map_eq_some_iff.mp e
  have dead:o=.dead→∃a,s'.io k=some a∧UntR G s' a o:=fun z=>by
   subst z
   by_cases q:o'.tr=true
   ·obtain⟨a,e3,_⟩:=w'.obj k o' e1 q
    exact⟨a,e3,True.intro⟩
   ·obtain⟨a,e3,_⟩:=w'.unt k o' e1 (by simpa using q)
    exact⟨a,e3,True.intro⟩
  split at e2
  ·rename_i o0 e0
   unfold MO.pick at e2
   split at e2
   ·exact dead (cut_un e2 t)
   ·rename_i q
    subst e2
    obtain⟨a,e3,x⟩:=w.unt k o0 e0 (by simpa using q)
    exact⟨a,l.io _ _ e3,x.mono l.io l.fr⟩
  ·exact dead (cut_un e2 t)
def nap {α β:Type} (m:α→M β):α→M β:=fun ds st=>match m ds (st.map MO.nap) with
 | .ok d st'=>.ok d (M3.back st st')
 | .err c x st'=>.err c x (M3.back st st')
 | .bad=>.bad
theorem nap_post {α β γ:Type} {m:α→M β} {ds:α} {R R':S3→β→γ→Prop} {E:XK} {Q:γ→Hp→Prop} (hR:∀s d v,R' s d v→R s d v) (w:Wd G B st s) (h:Post G B R E s Q (nap m ds st)):Post (G.at b) B R' E s Q (m ds (st.map MO.nap)):=by
 unfold nap at h
 cases em:m ds (st.map MO.nap) with
 | ok d st'=>rw[em] at h;exact fun s' v l w' r=>h s' v l (w.back l w') (hR _ _ _ r)
 | err c x st'=>rw[em] at h;exact fun s' cv dd l w' r=>h s' cv dd l (w.back l w') r
 | bad=>rw[em] at h;exact h
theorem spM_nap (hb:KnowsTo G.base b) {n:Nat} {m:List D→M D} {vs:List V} {H:Hp} {Q:VK} {E:XK} (h:spM G n (nap m) vs H Q E):spM (G.at b) n m vs H Q E:=by
 obtain⟨hl,B,s,st,ds,e,wd,rl,hp⟩:=h
 exact⟨hl,B,s,_,ds,e,wd.nap hb,rl,nap_post (fun _ _ _ r=>r) wd hp⟩
theorem spMW_nap (hb:KnowsTo G.base b) {n:Nat} {m:List M3.W→M D} {vs:List V} {H:Hp} {Q:VK} {E:XK} (h:spMW G n (nap m) vs H Q E):spMW (G.at b) n m vs H Q E:=by
 obtain⟨hl,B,s,st,ws,e,wd,rl,ha,hp⟩:=h
 refine⟨hl,B,s,_,ws,e,wd.nap hb,?_,ha,nap_post (fun _ _ _ r=>r) wd hp⟩
 clear hl ha hp
 induction rl with
 | nil=>exact .nil
 | cons r _ ih=>exact .cons (by cases ‹W› <;> exact r) ih
theorem spML_nap (hb:KnowsTo G.base b) {n:Nat} {m:List D→M (List D)} {vs:List V} {H:Hp} {Q:VK} {E:XK} (h:spML G n (nap m) vs H Q E):spML (G.at b) n m vs H Q E:=by
 obtain⟨hl,B,s,st,ds,e,wd,rl,hp⟩:=h
 refine⟨hl,B,s,_,ds,e,wd.nap hb,rl,?_⟩
 unfold nap at hp
 cases em:m ds (st.map MO.nap) with
 | ok d st'=>rw[em] at hp;exact fun s' p vs l w nb hq r=>hp s' p vs l (wd.back l w) nb hq r
 | err c x st'=>rw[em] at hp;exact fun s' cv dd l w' r=>hp s' cv dd l (wd.back l w') r
 | bad=>rw[em] at hp;exact hp
end
section
variable {Pg:Program} {w:World} {K:PySem.W.Frag} {mg:Str→Option Value} {base b:Heap} {G:G3} {k n:Nat} {x:Str} {c cn:String} {m:List D→M D}
theorem Cal.nap (h:Cal Pg w K mg base (G.at b) k x n m) (hb:KnowsTo G.base b):Cal Pg w K mg base G k x n (nap m):=by
 obtain⟨f,fd,ps,a1,a2,a3,a4,F⟩:=h.ex
 exact⟨f,fd,ps,a1,a2,a3,a4,F.imp fun _ _ _ _ h=>spM_nap hb h⟩
end
end M3
namespace M3
open PySem PySem.Spec PyProof.Rows L2 LamX NdefX
def Over (b0 b:Heap):Prop:=∀a o,b0.get? a=some o→b.get? a=some o
theorem Over.refl (b:Heap):Over b b:=fun _ _ e=>e
theorem Over.trans {b0 b1 b2:Heap} (h:Over b0 b1) (g:Over b1 b2):Over b0 b2:=fun a o e=>g a o (h a o e)
def MO.lent (u:Sl3):MO→MO
 | .slp i=>match u[i]? with
  | some (some (.val d))=>.kc d
  | _=>.dead
 | o=>o
def OwnOk (P:P3):Prop:=∀i a,P.G.own i=some a→∃y,P.X.N[i]?=some y∧P.X.fn y=true∧(P.X.env.scope.names.lookup y=some .cell∨P.X.env.scope.names.lookup y=some .free)∧P.X.env.cells.lookup y=some a
def lend {α β:Type} (u:Sl3) (m:α→M β):α→M β:=fun ds st=>match m ds (st.map (MO.lent u)) with
 | .ok d st'=>.ok d (M3.back st st')
 | .err c x st'=>.err c x (M3.back st st')
 | .bad=>.bad
def eCallR (n:Nat) (m:List D→M D) (ma:AM):EM:=fun u=>M.bind (ma u) fun ws=>M.bind (M.of (asDs ws)) fun ds=>M.bind (M.chk (ds.length=n)) fun _=>M.bind (lend u m ds) fun d=>M.pure (.val d)
end M3
namespace M3
open PySem PySem.Spec PyProof.Rows L2 LamX NdefX
structure LF where
 qual:Str
 params:Arguments
 body:Expr
 scope:Scope
 cl:List (Str×Addr)
 c:Addr
abbrev LF.fd (F:LF) (pm ctv:Value):FuncData:=PySem.W.kla_fn "<lambda>" F.qual F.params F.body F.scope F.cl pm (.ref F.c) ctv
def LamO (f:Addr) (F:LF):HO:=.ext fun h=>∃(od:Option Addr) (sl:Array (Option Value)) (pm ctv:Value),h.get? f=some (⟨.type "function",od,.func (F.fd pm ctv),sl⟩:Obj)
theorem lamO_at {P:Program} {w:World} {H:Hp} {h:Heap} {f:Addr} {F:LF} (hok:HOk P w H h) (e:H f=some (LamO f F)):∃(od:Option Addr) (sl:Array (Option Value)) (pm ctv:Value),h.get? f=some (⟨.type "function",od,.func (F.fd pm ctv),sl⟩:Obj):=by
 obtain⟨z,_,_⟩:=hok f _ e
 exact z
def LF.fv (F:LF):FV:=⟨fun p=>LamO p F,F.c,F.qual,F.cl⟩
def ownOf (N:List Str) (sc:Scope) (cells:List (Str×Addr)):Nat→Option Addr:=fun i=>match N[i]? with
 | some y=>if sc.names.lookup y=some .cell∨sc.names.lookup y=some .free then cells.lookup y else none
 | none=>none
structure Owner (P:P3):Prop where
 own:P.G.own=ownOf P.X.N P.X.env.scope P.X.env.cells
 fn:∀y,P.X.fn y=true
 base:P.X.base=P.G.base
theorem Owner.ok {P:P3} (o:Owner P):OwnOk P:=fun i a e=>by
 rw[o.own] at e
 unfold ownOf at e
 split at e
 ·rename_i y hy
  split at e
  ·rename_i hk
   exact⟨y,hy,o.fn y,hk,e⟩
  ·cases e
 ·cases e
def eLam (c:String) (js:List Nat):EM:=fun _ st=>.ok (.val (.fn c (List.range' st.length js.length))) (st++js.map .slp)
end M3
namespace M3
open PySem PySem.Spec PyProof.Rows L2 LamX NdefX
structure VOk (P:Program) (w:World) (K:PySem.W.Frag) (mg:Str→Option Value) (base:Heap) (CX:CXH) (k:Nat) (F:FV) (sp:Sp):Prop where
 fn:∀(H:Hp) (h:Heap) (f:Addr),HOk P w H h→H f=some (F.ob f)→PySem.W.FnAt f h
 run:∀(A:Around) (outer:List Env) (s:Shared) (H:Hp) (f:Addr) (us:List Value) (vs:List V) (Q:VK) (E:XK),RoomC k A outer H s→Env0 P w K mg base A outer s H→H f=some (F.ob f)→H F.c=some (CodeO F.c F.qual)→
  (F.cl.map (·.2)).Nodup→Vals vs us→sp vs H Q E→codeAny (model P w) A (.call (.ref f) ⟨us,[]⟩) (CR (CX A.handled) outer P w H s Q E) s
theorem VOk.mono {P:Program} {w:World} {K:PySem.W.Frag} {mg:Str→Option Value} {base:Heap} {CX:CXH} {j k:Nat} {F:FV} {sp:Sp} (o:VOk P w K mg base CX j F sp) (h:j≤k):VOk P w K mg base CX k F sp:=
 ⟨o.fn,fun A outer s H f us vs Q E hr=>o.run A outer s H f us vs Q E (hr.mono h)⟩
def LF.nf (F:LF):NF:=⟨"<lambda>",F.qual,F.params,[],F.scope,F.cl,F.c⟩
def mfnE (N:Nat) (e:EM):List D→M D:=fun ds=>M.bind (e (ds.map (fun d=>some (.val d))++List.replicate (N - ds.length) none)) fun w=>M.of w.d
def spV (G:G3) (F:FV) (n:Nat) (m:List Nat→List D→M D):Sp:=fun vs H Q E=>vs.length=n∧∃(B:Addr→Prop) (s:S3) (st:Store) (ds:List D) (ks:List Nat),s.H=H∧Wd G B st s∧RepL G.R s.F s.io ds vs∧ks.map s.io=F.cl.map (fun y=>some y.2)∧
 Post G B (fun s d v=>Rep G.R s.F s.io d v) E s Q (m ks ds st)
def capsS (st:Store):List Nat→Option (List D)
 | []=>some []
 | k :: ks=>match st[k]?,capsS st ks with
  | some (.kc d),some ds=>some (d :: ds)
  | _,_=>none
def capsM (ks:List Nat):M (List D):=fun st=>match capsS st ks with
 | some ds=>.ok ds st
 | none=>.bad
def capd (m:List D→M D):List Nat→List D→M D:=fun ks ds=>M.bind (capsM ks) fun cs=>m (ds++cs)
def fnOf (w:W):Option (String×List Nat):=match w with
 | .val (.fn c ks)=>some (c,ks)
 | _=>none
abbrev FnTab:=List (String×(List Nat→List D→M D))
def TabOk (Pg:Program) (w:World) (K:PySem.W.Frag) (mg:Str→Option Value) (base:Heap) (G:G3) (k n:Nat) (tab:FnTab):Prop:=∀c mf,(c,mf)∈tab→∀F,G.nf c F→VOk Pg w K mg base (CXq Pg w) k F (spV G F n mf)
def fcall (n:Nat) (tab:FnTab) (w:W) (ds:List D):M D:=M.bind (M.of (fnOf w)) fun q=>M.bind (M.of (tab.lookup q.1)) fun mf=>M.bind (M.chk (ds.length=n)) fun _=>mf q.2 ds
def FnL (F:FV):Prop:=(∃L:LF,F=L.fv)∨∃N:NF,F=⟨fun p=>FnO p N,N.c,N.qual,N.cl⟩
abbrev FnA (X:Cx) (F:FV):Prop:=∀(H:Hp) (h:Heap) (f:Addr),HOk X.prog X.w H h→H f=some (F.ob f)→PySem.W.FnAt f h
theorem FnL.at_ {X:Cx} {F:FV} (h:FnL F):FnA X F:=fun H hp f ok e=>by
 rcases h with⟨L,rfl⟩ | ⟨N,rfl⟩
 ·obtain⟨od,sl,pm,ctv,ho⟩:=lamO_at ok (F:=L) e
  exact⟨_,od,_,sl,ho⟩
 ·obtain⟨od,sl,doc,pm,ctv,ho⟩:=fnO_at ok (F:=N) e
  exact⟨_,od,_,sl,ho⟩
def eCallV (n:Nat) (tab:FnTab) (i:Nat) (ma:AM):EM:=fun u=>M.bind (eVar i u) fun w=>M.bind (M.of (fnOf w)) fun _=>M.bind (ma u) fun ws=>M.bind (M.of (asDs ws)) fun ds=>M.bind (fcall n tab w ds) fun d=>M.pure (.val d)
def eCallA (n:Nat) (tab:FnTab) (cs:List String) (f:Str) (mo:EM) (ma:AM):EM:=fun u=>M.bind (mo u) fun w=>M.bind (insOf w) fun q=>M.bind (M.chk (q.2.1∈cs)) fun _=>M.bind (M.of (q.2.2.lookup f)) fun d=>M.bind (M.of (fnOf (.val d))) fun _=>
 M.bind (ma u) fun ws=>M.bind (M.of (asDs ws)) fun ds=>M.bind (fcall n tab (.val d) ds) fun d=>M.pure (.val d)
end M3
namespace M3
open PySem PySem.Spec PyProof.Rows L2
end M3
namespace M3
open PySem PySem.Spec PyProof.Rows L2
end M3
namespace M3
open PySem PySem.Spec PyProof.Rows L2
def sAsgStar (m:EM) (g:GM) (i:Nat):SM:=fun u st=>match m u st with
 | .ok (.val d) st'=>match d with
  | .ctup (x :: xs)=>if xs.length≤1000 then match g x u with
    | some u'=>.nx (u'.set i (some (.val (.lst xs)))) st'
    | none=>.bad
   else .bad
  | .tup (x :: xs)=>if xs.length≤1000 then match g x u with
    | some u'=>.nx (u'.set i (some (.val (.lst xs)))) st'
    | none=>.bad
   else .bad
  | _=>.bad
 | .ok _ _=>.bad
 | .err c x st'=>.err c x u st'
 | .bad=>.bad
def spR (G:G3) (m:List D→M D):Sp:=fun vs H Q E=>∃(B:Addr→Prop) (s:S3) (st:Store) (ds:List D),s.H=H∧Wd G B st s∧RepL G.R s.F s.io ds vs∧Post G B (fun s d v=>Rep G.R s.F s.io d v) E s Q (m ds st)
end M3
namespace M3
open PySem PySem.Spec PyProof.Rows L2
structure CalR (Pg:Program) (w:World) (K:PySem.W.Frag) (mg:Str→Option Value) (base:Heap) (G:G3) (k:Nat) (x:Str) (m:List D→M D):Prop where
 ex:∃f,mg x=some (.ref f)∧PySem.W.keepIn K (.ref f)=true∧FnR Pg w K mg base (CXq Pg w) k f (spR G m)
structure MthR (Pg:Program) (w:World) (K:PySem.W.Frag) (mg:Str→Option Value) (base:Heap) (G:G3) (k:Nat) (m:Str) (c:String) (mf:List D→M D):Prop where
 ex:∃C f,G.cls c=some C∧Cls K C∧BMeth K C m f∧FnR Pg w K mg base (CXq Pg w) k f (spR G mf)
theorem spR_nap {G:G3} {b:Heap} (hb:KnowsTo G.base b) {m:List D→M D} {vs:List V} {H:Hp} {Q:VK} {E:XK} (h:spR G (nap m) vs H Q E):spR (G.at b) m vs H Q E:=by
 obtain⟨B,s,st,ds,e,wd,rl,hp⟩:=h
 exact⟨B,s,_,ds,e,wd.nap hb,rl,nap_post (fun _ _ _ r=>r) wd hp⟩
theorem CalR.nap {Pg:Program} {w:World} {K:PySem.W.Frag} {mg:Str→Option Value} {base b:Heap} {G:G3} {k:Nat} {x:Str} {m:List D→M D} (h:CalR Pg w K mg base (G.at b) k x m) (hb:KnowsTo G.base b):CalR Pg w K mg base G k x (M3.nap m):=by
 obtain⟨f,a1,a2,F⟩:=h.ex
 exact⟨f,a1,a2,F.imp fun _ _ _ _ h=>spR_nap hb h⟩
theorem MthR.nap {Pg:Program} {w:World} {K:PySem.W.Frag} {mg:Str→Option Value} {base b:Heap} {G:G3} {k:Nat} {x:Str} {c:String} {m:List D→M D} (h:MthR Pg w K mg base (G.at b) k x c m) (hb:KnowsTo G.base b):MthR Pg w K mg base G k x c (M3.nap m):=by
 obtain⟨C,f,a1,a2,a3,F⟩:=h.ex
 exact⟨C,f,a1,a2,a3,F.imp fun _ _ _ _ h=>spR_nap hb h⟩
def eCallRp (m:List D→M D) (ma:AM):EM:=fun u=>M.bind (ma u) fun ws=>M.bind (M.of (asDs ws)) fun ds=>M.bind (m ds) fun d=>M.pure (.val d)
def eMethRp (m:Str) (tab:List (String×(List D→M D))) (mo:EM) (ma:AM):EM:=fun u=>M.bind (mo u) fun w=>M.bind (insOf w) fun q=>M.bind (M.chk (q.2.2.lookup m=none)) fun _=>M.bind (M.of (tab.lookup q.2.1)) fun mf=>
 M.bind (ma u) fun ws=>M.bind (M.of (asDs ws)) fun ds=>M.bind (mf (.ref q.1 :: ds)) fun d=>M.pure (.val d)
def eMethRs (W:Sl3→(List D→M D)→List D→M D) (m:Str) (tab:List (String×(List D→M D))) (mo m1 m2:EM):EM:=fun u=>M.bind (mo u) fun w=>M.bind (insOf w) fun q=>M.bind (M.chk (q.2.2.lookup m=none)) fun _=>M.bind (M.of (tab.lookup q.2.1)) fun mf=>
 M.bind (m1 u) fun w1=>M.bind (M.of w1.d) fun d1=>M.bind (m2 u) fun w2=>M.bind (M.of (w2.d.bind D.items)) fun ds=>M.bind (W u mf (.ref q.1 :: d1 :: ds)) fun d=>M.pure (.val d)
end M3
namespace M3
open PySem PySem.Spec PyProof.Rows L2
end M3
namespace M3
open PySem PySem.Spec PyProof.Rows L2
abbrev RoomQ:=L2H.RoomH
structure FnQ (P:Program) (w:World) (K:PySem.W.Frag) (mg:Str→Option Value) (base:Heap) (k:Nat) (f:Addr) (fd:FuncData) (ps:List Str) (sp:List (Option V)→Hp→VK→Prop):Prop where
 run:∀(A:Around) (outer:List Env) (s:Shared) (H:Hp) (args:Args) (us:List Value) (ws:List (Option V)) (Q:VK),RoomQ k A→Env0 P w K mg base A outer s H→BindsTo s fd args (ps.zip us)→us.length=ps.length→ws.length=ps.length→
  (∀(i:Nat) (v:V),ws[i]?=some (some v)→∃u,us[i]?=some u∧L2.RelV v u)→sp ws H Q→codeAny (model P w) A (.call (.ref f) args) (CR C8.CX0 outer P w H s Q C8.E0) s
end M3
namespace M3
open PySem PySem.Spec PyProof.Rows L2
theorem Zq.eqN {X:Cx} {cls:Value} {d:Option Addr} (n:X.A.handled=none):Zq X cls d=L2N.Zn cls d:=by
 funext o
 exact propext ⟨fun h=>⟨h.1.1,h.1.2,h.2 n⟩,fun h=>⟨h.zc,fun _=>h.2.2⟩⟩
theorem Zq.eqC {X:Cx} {cls:Value} {d:Option Addr} (n:X.A.handled≠none):Zq X cls d=Zc cls d:=by
 funext o
 exact propext ⟨fun h=>h.1,fun h=>⟨h,fun e=>absurd e n⟩⟩
def XE (X:Cx) (W:WX) (u:Value) (s':Shared):Prop:=
 ∃(a:Addr) (B:Heap) (sI:Shared) (pins:List (Addr×Obj)) (z:L2.St) (H:Hp) (cls:Value) (d:Option Addr),
  u=.ref a∧Inv X pins z H sI∧(∀b o,sI.heap.get? b=some o→b∉frs X.stack→B.get? b=some o)∧sI.heap.UpToSlots s'.heap∧
   Sky B X.stack a (Zq X cls d) X.env.locals s'.heap∧H a=none∧s'.os=sI.os∧AllBare s'.gens∧W cls d z H
theorem Takes.to {X:Cx} {W:WX} (t:Takes X W) {u:Value} {s':Shared} (x:XE X W u s'):X.xe u s':=by
 obtain⟨a,B,sI,pins,z,H,cls,d,e,I,nb,up,sky,r⟩:=x
 by_cases n:X.A.handled=none
 ·rw[Zq.eqN n] at sky
  exact t.calm n u s' ⟨a,B,sI,pins,z,H,cls,d,e,I,nb,up,sky,r⟩
 ·rw[Zq.eqC n] at sky
  exact t.hot n u s' ⟨a,B,sI,pins,z,H,cls,d,e,I,nb,up,sky,r⟩
theorem Takes.of {X:Cx} {W:WX} (h:∀u s',XE X W u s'→X.xe u s'):Takes X W:=by
 refine⟨fun n u s' x=>?_,fun n u s' x=>?_⟩
 ·obtain⟨a,B,sI,pins,z,H,cls,d,e,I,nb,up,sky,r⟩:=x
  rw[←Zq.eqN (X:=X) n] at sky
  exact h u s' ⟨a,B,sI,pins,z,H,cls,d,e,I,nb,up,sky,r⟩
 ·obtain⟨a,B,sI,pins,z,H,cls,d,e,I,nb,up,sky,r⟩:=x
  rw[←Zq.eqC (X:=X) n] at sky
  exact h u s' ⟨a,B,sI,pins,z,H,cls,d,e,I,nb,up,sky,r⟩
theorem CXq.of {X:Cx} {outer:List Env} {H:Hp} {s:Shared} {E:XK} {u:Value} {s':Shared} (h:∃(a:Addr) (B:Heap) (H':Hp) (cls:Value) (d:Option Addr),u=.ref a∧HandSPX.FlyingZ B outer a (Zq X cls d) s'.heap∧HOk X.prog X.w H' B∧UB (frs outer) H H' s.heap B s'.heap∧H' a=none∧s'.os=s.os∧AllBare s'.gens∧E cls d H') :
  CXq X.prog X.w X.A.handled outer H s E u s':=by
 obtain⟨a,B,H',cls,d,e,fl,r⟩:=h
 by_cases n:X.A.handled=none
 ·rw[Zq.eqN n] at fl
  exact .inl ⟨n,a,B,H',cls,d,e,fl,r⟩
 ·rw[Zq.eqC n] at fl
  exact .inr ⟨n,a,B,H',cls,d,e,fl,r⟩
end M3
namespace PySem.W
open PySem PySem.Calls PyProof.Rows
end PySem.W
namespace M3
open PySem PySem.Spec PyProof.Rows L2 PySem.W
end M3
namespace M3
open PySem PySem.Spec PyProof.Rows L2 PySem.W
end M3
namespace M3
open PySem PySem.Spec PyProof.Rows L2 PySem.W
def sExit (mfx:List D→M D) (k:Nat):SRes→SRes
 | .nx u st=>match mfx [.ref k] st with
  | .ok _ st'=>.nx u st'
  | _=>.bad
 | .rt (.val d) st=>match mfx [.ref k] st with
  | .ok _ st'=>.rt (.val d) st'
  | _=>.bad
 | .err c x u st=>match mfx [.ref k] st with
  | .ok .non st'=>.err c x u st'
  | _=>.bad
 | _=>.bad
def sWith (c:String) (mfe mfx:List D→M D) (me:EM) (mb:SM):SM:=fun u st=>match M.bind (me u) (fun w=>M.bind (insOf w) fun q=>M.bind (M.chk (q.2.1=c)) fun _=>M.bind (mfe [.ref q.1]) fun _=>M.pure q.1) st with
 | .ok k st'=>sExit mfx k (mb u st')
 | .err c x st'=>.err c x u st'
 | .bad=>.bad
end M3
namespace M3
open PySem PySem.Spec PyProof.Rows L2 LamX NdefX
theorem TabB.over {b0 b:Heap} {mg:Str→Option Value} {c P:Addr} (t:TabB b0 mg c P) (h:Over b0 b):TabB b mg c P:=⟨t.code.keeps h,t.bm.keeps h,t.gP⟩
section
variable {Pg:Program} {w:World} {K:PySem.W.Frag} {mg:Str→Option Value} {base b:Heap} {G:G3} {k n:Nat} {x f:Str} {c:String} {m:List D→M D} {dd:List D}
theorem CalW.nap {m:List M3.W→M D} (h:CalW Pg w K mg base (G.at b) k x n m) (hb:KnowsTo G.base b):CalW Pg w K mg base G k x n (M3.nap m):=by
 obtain⟨f,fd,ps,a1,a2,a3,a4,F⟩:=h.ex
 exact⟨f,fd,ps,a1,a2,a3,a4,F.imp fun _ _ _ _ h=>spMW_nap hb h⟩
theorem CalD.nap (h:CalD Pg w K mg base (G.at b) k x n dd m) (hb:KnowsTo G.base b):CalD Pg w K mg base G k x n dd (M3.nap m):=by
 obtain⟨f,fd,ps,dvs,dsv,a1,a2,a3,a4,a5,F⟩:=h.ex
 exact⟨f,fd,ps,dvs,dsv,a1,a2,a3,a4,a5,F.imp fun _ _ _ _ h=>spM_nap hb h⟩
theorem MkOk3.nap (h:MkOk3 Pg w K mg base (G.at b) k x c n dd m) (hb:KnowsTo G.base b):MkOk3 Pg w K mg base G k x c n dd (M3.nap m):=by
 obtain⟨C,f,fd,ps,dvs,dsv,a1,a2,a3,a4,a5,a6,F⟩:=h.ex
 exact⟨C,f,fd,ps,dvs,dsv,a1,a2,a3,a4,a5,a6,F.imp fun _ _ _ _ h=>spM_nap hb h⟩
theorem MkOkK.nap {ks:List Str} {arr:List D→List D→List D} {N:Nat} (h:MkOkK Pg w K mg base (G.at b) k x c n ks arr N m) (hb:KnowsTo G.base b):MkOkK Pg w K mg base G k x c n ks arr N (M3.nap m):=by
 obtain⟨C,f,fd,ps,g,gV,hV,a1,a2,a3,a4,a5,a6,a7,F⟩:=h.ex
 exact⟨C,f,fd,ps,g,gV,hV,a1,a2,a3,a4,a5,a6,a7,F.imp fun _ _ _ _ h=>spM_nap hb h⟩
theorem MthOk.nap (h:MthOk Pg w K mg base (G.at b) k x n c m) (hb:KnowsTo G.base b):MthOk Pg w K mg base G k x n c (M3.nap m):=by
 obtain⟨C,f,fd,ps,a1,a2,a3,a4,F⟩:=h.ex
 exact⟨C,f,fd,ps,a1,a2,a3,a4,F.imp fun _ _ _ _ h=>spM_nap hb h⟩
theorem PropOk.nap (h:PropOk Pg w K mg base (G.at b) k f c m) (hb:KnowsTo G.base b):PropOk Pg w K mg base G k f c (M3.nap m):=by
 obtain⟨C,p,g,fd,ps,a1,a2,a3,a4,F⟩:=h.ex
 exact⟨C,p,g,fd,ps,a1,a2,a3,a4,F.imp fun _ _ _ _ h=>spM_nap hb h⟩
theorem PropOkL.nap {m:List D→M (List D)} (h:PropOkL Pg w K mg base (G.at b) k f c m) (hb:KnowsTo G.base b):PropOkL Pg w K mg base G k f c (M3.nap m):=by
 obtain⟨C,p,g,fd,ps,a1,a2,a3,a4,F⟩:=h.ex
 exact⟨C,p,g,fd,ps,a1,a2,a3,a4,F.imp fun _ _ _ _ h=>spML_nap hb h⟩
theorem XcOk.nap (h:XcOk Pg w K mg base (G.at b) k x c):XcOk Pg w K mg base G k x c:=h.1.elim fun C ⟨D,f,fd,ps,fld,h⟩=>⟨C,D,f,fd,ps,fld,h⟩
theorem FldOk.sw {w:Nat→Option Addr} (h:FldOk K G c f):FldOk K ((G.at b).owning w) c f:=⟨h.ex⟩
theorem FnQ.mono {P:Program} {j:Nat} {g:Addr} {fd:FuncData} {ps:List Str} {sp:List (Option V)→Hp→VK→Prop} (F:FnQ P w K mg base j g fd ps sp) (h:j≤k):FnQ P w K mg base k g fd ps sp:=
 ⟨fun A outer s H args us ws Q hr=>F.run A outer s H args us ws Q (hr.mono h)⟩
end
def noE:Expr:=.Tuple [] 0 ⟨0,0,0,0⟩
end M3
namespace M3
open PySem PySem.Spec PyProof.Rows L2 PySem.W
end M3
namespace M3
open PySem L2
section
variable {α β γ:Type} {k:Res α→Prop} {kw:Res W→Prop} {kl:Res (List D)→Prop} {ks:SRes→Prop} {kd:Res D→Prop} {st:Store} {u:Sl3} {m a b mo m1 m2:EM} {ma mk:AM} {g:GM} {tab:FnTab}
@[simp] theorem run_eCallV (n i:Nat):run (eCallV n tab i ma u st) kw=kVar st (kBind (fun w=>M.bind (M.of (fnOf w)) fun _=>M.bind (ma u) fun ws=>M.bind (M.of (asDs ws)) fun ds=>M.bind (fcall n tab w ds) fun d=>M.pure (.val d)) kw) u[i]?:=by
 rw[←run_eVar]
 exact run_bind _ _
@[simp] theorem run_eCallA (n:Nat) (cs:List String) (f:Str):run (eCallA n tab cs f mo ma u st) kw=run (mo u st) (kBind (fun w=>M.bind (insOf w) fun q=>M.bind (M.chk (q.2.1∈cs)) fun _=>M.bind (M.of (q.2.2.lookup f)) fun d=>M.bind (M.of (fnOf (.val d))) fun _=>
 M.bind (ma u) fun ws=>M.bind (M.of (asDs ws)) fun ds=>M.bind (fcall n tab (.val d) ds) fun d=>M.pure (.val d)) kw):=run_bind _ _
@[simp] theorem fnOf_fn (c:String) (js:List Nat):fnOf (.val (.fn c js))=some (c,js):=rfl
@[simp] theorem run_fcall (n:Nat) (w:W) (ds:List D):run (fcall n tab w ds st) kd=run (M.of (fnOf w) st) (kBind (fun q=>M.bind (M.of (tab.lookup q.1)) fun mf=>M.bind (M.chk (ds.length=n)) fun _=>mf q.2 ds) kd):=run_bind _ _
@[simp] theorem run_eLam (c:String) (js:List Nat):run (eLam c js u st) kw=kw (.ok (.val (.fn c (List.range' st.length js.length))) (st++js.map .slp)):=rfl
@[simp] theorem run_capd (f:List D→M D) (js:List Nat) (ds:List D):run (capd f js ds st) kd=run (capsM js st) (kBind (fun cs=>f (ds++cs)) kd):=run_bind _ _
@[simp] theorem run_mfnE (N:Nat) (e:EM) (ds:List D):run (mfnE N e ds st) kd=run (e (ds.map (fun d=>some (.val d))++List.replicate (N - ds.length) none) st) (kBind (fun w=>M.of w.d) kd):=run_bind _ _
def kBack (st:Store) (k:Res α→Prop):Res α→Prop
 | .ok d st'=>k (.ok d (back st st'))
 | .err c x st'=>k (.err c x (back st st'))
 | .bad=>k .bad
@[simp] theorem kBack_ok (d:α) (st'):kBack st k (.ok d st')=k (.ok d (back st st')):=rfl
@[simp] theorem kBack_err (c x st'):kBack st k (.err c x st')=k (.err c x (back st st')):=rfl
@[simp] theorem kBack_bad:kBack st k (.bad:Res α)=k .bad:=rfl
@[simp] theorem run_nap (m:β→M α) (ds:β):run (nap m ds st) k=run (m ds (st.map MO.nap)) (kBack st k):=by
 unfold run nap kBack
 cases m ds (st.map MO.nap) <;> rfl
@[simp] theorem run_lend (m:β→M α) (ds:β):run (lend u m ds st) k=run (m ds (st.map (MO.lent u))) (kBack st k):=by
 unfold run lend kBack
 cases m ds (st.map (MO.lent u)) <;> rfl
@[simp] theorem run_eCallR (n:Nat) (f:List D→M D):run (eCallR n f ma u st) kw=run (ma u st) (kBind (fun ws=>M.bind (M.of (asDs ws)) fun ds=>M.bind (M.chk (ds.length=n)) fun _=>M.bind (lend u f ds) fun d=>M.pure (.val d)) kw):=run_bind _ _
def kOwn (k:Res α→Prop):Res α→Prop
 | .ok d st'=>k (.ok d (st'.map MO.nap))
 | .err c x st'=>k (.err c x (st'.map MO.nap))
 | .bad=>k .bad
@[simp] theorem kOwn_ok (d:α) (st'):kOwn k (.ok d st')=k (.ok d (st'.map MO.nap)):=rfl
@[simp] theorem kOwn_err (c x st'):kOwn k (.err c x st':Res α)=k (.err c x (st'.map MO.nap)):=rfl
@[simp] theorem kOwn_bad:kOwn k (.bad:Res α)=k .bad:=rfl
@[simp] theorem run_eMethRp (f:Str) (tb:List (String×(List D→M D))):run (eMethRp f tb mo ma u st) kw=run (mo u st) (kBind (fun w=>M.bind (insOf w) fun q=>M.bind (M.chk (q.2.2.lookup f=none)) fun _=>M.bind (M.of (tb.lookup q.2.1)) fun mf=>
 M.bind (ma u) fun ws=>M.bind (M.of (asDs ws)) fun ds=>M.bind (mf (.ref q.1 :: ds)) fun d=>M.pure (.val d)) kw):=run_bind _ _
@[simp] theorem run_eMethRs (X:Sl3→(List D→M D)→List D→M D) (f:Str) (tb:List (String×(List D→M D))):run (eMethRs X f tb mo m1 m2 u st) kw=run (mo u st) (kBind (fun w=>M.bind (insOf w) fun q=>M.bind (M.chk (q.2.2.lookup f=none)) fun _=>M.bind (M.of (tb.lookup q.2.1)) fun mf=>
 M.bind (m1 u) fun w1=>M.bind (M.of w1.d) fun d1=>M.bind (m2 u) fun w2=>M.bind (M.of (w2.d.bind D.items)) fun ds=>M.bind (X u mf (.ref q.1 :: d1 :: ds)) fun d=>M.pure (.val d)) kw):=run_bind _ _
@[simp] theorem lenF_ctup (xs:List D):lenF [.val (.ctup xs)]=some (.val (.int xs.length)):=rfl
def kStar (g:GM) (i:Nat) (u:Sl3) (ks:SRes→Prop):Res W→Prop
 | .ok w st'=>match w with
  | .val (.ctup (x :: xs))=>if xs.length≤1000 then kAsg2 st' ks ((g x u).map fun u'=>u'.set i (some (.val (.lst xs)))) else ks .bad
  | .val (.tup (x :: xs))=>if xs.length≤1000 then kAsg2 st' ks ((g x u).map fun u'=>u'.set i (some (.val (.lst xs)))) else ks .bad
  | _=>ks .bad
 | .err c x st'=>ks (.err c x u st')
 | .bad=>ks .bad
@[simp] theorem kStar_ctup (i:Nat) (x xs st'):kStar g i u ks (.ok (.val (.ctup (x :: xs))) st')=if xs.length≤1000 then kAsg2 st' ks ((g x u).map fun u'=>u'.set i (some (.val (.lst xs)))) else ks .bad:=rfl
@[simp] theorem srun_sAsgStar (i:Nat):srun (sAsgStar m g i u st) ks=run (m u st) (kStar g i u ks):=by
 unfold srun sAsgStar run kStar
 cases m u st with
 | ok w st'=>
  cases w with
  | val d=>
   cases d with
   | ctup xs=>cases xs with
    | nil=>rfl
    | cons x xs=>
     dsimp only
     split
     ·cases g x u <;> rfl
     ·rfl
   | tup xs=>cases xs with
    | nil=>rfl
    | cons x xs=>
     dsimp only
     split
     ·cases g x u <;> rfl
     ·rfl
   | _=>rfl
  | _=>rfl
 | _=>rfl
def kExit (mfx:List D→M D) (j:Nat) (ks:SRes→Prop) (r:SRes):Prop:=ks (sExit mfx j r)
@[simp] theorem kExit_rt {mfx:List D→M D} {j:Nat} {d:D} {r st'} (h:mfx [.ref j] st=.ok r st'):kExit mfx j ks (.rt (.val d) st)=ks (.rt (.val d) st'):=by
 unfold kExit sExit
 simp only[h]
@[simp] theorem kExit_nx {mfx:List D→M D} {j:Nat} {r st'} (h:mfx [.ref j] st=.ok r st'):kExit mfx j ks (.nx u st)=ks (.nx u st'):=by
 unfold kExit sExit
 simp only[h]
@[simp] theorem kExit_err {mfx:List D→M D} {j:Nat} {c x st'} (h:mfx [.ref j] st=.ok .non st'):kExit mfx j ks (.err c x u st)=ks (.err c x u st'):=by
 unfold kExit sExit
 simp only[h]
def kWithIn (mfx:List D→M D) (mb:SM) (u:Sl3) (ks:SRes→Prop):Res Nat→Prop
 | .ok j st'=>srun (mb u st') (kExit mfx j ks)
 | .err c x st'=>ks (.err c x u st')
 | .bad=>ks .bad
@[simp] theorem kWithIn_ok {mfx:List D→M D} {mb:SM} (j):kWithIn mfx mb u ks (.ok j st)=srun (mb u st) (kExit mfx j ks):=rfl
@[simp] theorem srun_sWith (c:String) (mfe mfx:List D→M D) (mb:SM):srun (sWith c mfe mfx m mb u st) ks=run (m u st) (kBind (fun w=>M.bind (insOf w) fun q=>M.bind (M.chk (q.2.1=c)) fun _=>M.bind (mfe [.ref q.1]) fun _=>M.pure q.1) (kWithIn mfx mb u ks)):=by
 rw[←run_bind]
 unfold srun sWith run kWithIn
 cases (M.bind (m u) (fun w=>M.bind (insOf w) fun q=>M.bind (M.chk (q.2.1=c)) fun _=>M.bind (mfe [.ref q.1]) fun _=>M.pure q.1) st) <;> rfl
end
end M3
namespace M3
open PySem PySem.Spec PyProof.Rows L2 LamX NdefX
def PostR (P:P3) (me:EM) (B0:Addr→Prop) (s:S3) (R:V→L2.St→Hp→Prop):SRes→Prop
 | .nx u' st'=>∀(B':Addr→Prop) (s':S3) (z':L2.St),(∀a,B0 a→B' a)→Le B0 s s'→Wd P.G B' st' s'→Slo P.G P.hx B0 B' s' u' z'→Post P.G B' (fun s d v=>Rep P.G.R s.F s.io d v) (fun c d H=>P.wx c d z' H) s' (fun v H=>R v z' H) (M.bind (me u') (fun w=>M.of w.d) st')
 | .err c x u' st'=>∀(B':Addr→Prop) (s':S3) (z':L2.St) (cv:Value) (dd:Option Addr),(∀a,B0 a→B' a)→Le B0 s s'→Wd P.G B' st' s'→Slo P.G P.hx B0 B' s' u' z'→ExR P.G s' c x cv dd→P.wx cv dd z' s'.H
 | _=>False
theorem PostR.mono {P:P3} {me:EM} {B0:Addr→Prop} {s s1:S3} {R:V→L2.St→Hp→Prop} {r:SRes} (l:Le B0 s s1) (h:PostR P me B0 s R r):PostR P me B0 s1 R r:=by
 cases r with
 | nx u' st'=>exact fun B' s' z' b l' w r=>h B' s' z' b (l.trans l') w r
 | err c x u' st'=>exact fun B' s' z' cv dd b l' w r=>h B' s' z' cv dd b (l.trans l') w r
 | _=>exact h
end M3
namespace M3
open PySem PySem.Spec PyProof.Rows L2 LamX NdefX
end M3
namespace M3
open PySem PySem.Spec PyProof.Rows L2 LamX NdefX
end M3
namespace M3
open PySem PySem.Spec PyProof.Rows L2
section
variable {Pg:Program} {w:World} {K:PySem.W.Frag} {mg:Str→Option Value} {base b:Heap} {G:G3} {k n:Nat} {x f:Str} {c:String} {m:List D→M D} {w':Nat→Option Addr}
theorem FnQ.imp {f:Addr} {fd:FuncData} {ps:List Str} {sp sp':List (Option V)→Hp→VK→Prop} (F:FnQ Pg w K mg base k f fd ps sp) (h:∀ws H Q,sp' ws H Q→sp ws H Q):FnQ Pg w K mg base k f fd ps sp':=
 ⟨fun A outer s H args us ws Q a1 a2 a3 a4 a5 a6 a7=>F.run A outer s H args us ws Q a1 a2 a3 a4 a5 a6 (h _ _ _ a7)⟩
end
end M3
namespace M3
end M3
namespace M3
open PySem
def exC:Expr→Expr
 | .Compare e _ _ _=>e
 | _=>noE
end M3
namespace M3
open PySem PySem.Spec PyProof.Rows L2
def eIxS (i:Int) (ma:EM):EM:=fun u=>M.bind (ma u) fun w=>M.bind (lstOf w) fun q=>M.of ((atI q.2 i).map W.val)
section
variable {kw:Res W→Prop} {st:Store} {u:Sl3} {ma:AM} {m:EM}
@[simp] theorem run_eIxS (i:Int):run (eIxS i m u st) kw=run (m u st) (kBind (fun w=>M.bind (lstOf w) fun q=>M.of ((atI q.2 i).map W.val)) kw):=run_bind _ _
@[simp] theorem run_eCallRp (f:List D→M D):run (eCallRp f ma u st) kw=run (ma u st) (kBind (fun ws=>M.bind (M.of (asDs ws)) fun ds=>M.bind (f ds) fun d=>M.pure (.val d)) kw):=run_bind _ _
end
end M3
namespace M3
open PySem PySem.Spec PyProof.Rows L2 NdefX
end M3
namespace M3
open PySem PySem.Spec PyProof.Rows L2
def sRaiseT (c:String) (me:EM):SM:=fun u st=>match me u st with
 | .ok (.val (.str _)) st'=>.err c .non u st'
 | _=>.bad
section
variable {ks:SRes→Prop} {st:Store} {u:Sl3} {m:EM}
def kRaiseT (c:String) (u:Sl3) (ks:SRes→Prop):Res W→Prop
 | .ok (.val (.str _)) st'=>ks (.err c .non u st')
 | _=>ks .bad
@[simp] theorem kRaiseT_ok (c:String) (y:Str):kRaiseT c u ks (.ok (.val (.str y)) st)=ks (.err c .non u st):=rfl
@[simp] theorem srun_sRaiseT (c:String):srun (sRaiseT c m u st) ks=run (m u st) (kRaiseT c u ks):=by
 unfold srun sRaiseT run kRaiseT
 cases m u st with
 | ok w st'=>cases w with
  | val d=>cases d <;> rfl
  | _=>rfl
 | _=>rfl
end
end M3
namespace M3
open PySem PySem.Spec PyProof.Rows L2
end M3
namespace M3
open PySem PySem.Spec PyProof.Rows L2
end M3
namespace M3
open PySem PySem.Spec PyProof.Rows L2
def ePopS (m:EM):EM:=fun u=>M.bind (m u) fun w=>M.bind (lstOf w) fun q=>fun st=>match q.2.getLast? with
 | some d=>.ok (.val d) (st.set q.1 (.lst q.2.dropLast))
 | none=>.bad
section
variable {kw:Res W→Prop} {st:Store} {u:Sl3} {m:EM}
@[simp] theorem run_ePopS:run (ePopS m u st) kw=run (m u st) (kBind (fun w=>M.bind (lstOf w) fun q=>fun st=>match q.2.getLast? with
 | some d=>.ok (.val d) (st.set q.1 (.lst q.2.dropLast))
 | none=>.bad) kw):=run_bind _ _
end
end M3
namespace M3
open PySem PySem.Spec PyProof.Rows L2
def eSlS (m:EM) (l h:PM):EM:=fun u=>M.bind (m u) fun x=>M.bind (l u) fun a=>M.bind (h u) fun b=>M.bind (lstOf x) fun q=>M.pure (.val (.lst (cutD q.2 a b)))
section
variable {kw:Res W→Prop} {st:Store} {u:Sl3} {m:EM} {l h:PM}
@[simp] theorem run_eSlS:run (eSlS m l h u st) kw=run (m u st) (kBind (fun x=>M.bind (l u) fun a=>M.bind (h u) fun b=>M.bind (lstOf x) fun q=>M.pure (.val (.lst (cutD q.2 a b)))) kw):=run_bind _ _
end
end M3
namespace M3
open PySem PySem.Spec PyProof.Rows L2
def eEqS (neg:Bool) (mo m:EM):EM:=fun u=>M.bind (mo u) fun w=>M.bind (lstOf w) fun _=>M.bind (m u) fun y=>M.bind (lstOf w) fun q=>M.of (eqF neg (.bor q.2) y)
section
variable {u:Sl3} {st:Store} {neg:Bool} {mo m:EM} {kw:Res W→Prop}
@[simp] theorem run_eEqS:run (eEqS neg mo m u st) kw=run (mo u st) (kBind (fun w=>M.bind (lstOf w) fun _=>M.bind (m u) fun y=>M.bind (lstOf w) fun q=>M.of (eqF neg (.bor q.2) y)) kw):=run_bind _ _
end
end M3
namespace M3
open PySem PySem.Spec PyProof.Rows L2
def lcS (w:W) (g:GM) (c:TM) (e:EM) (u0:Sl3):Nat→Nat→List D→M (List D)
 | 0,_,_=>M.bad
 | n+1,i,acc=>M.bind (lstOf w) fun q=>match q.2[i]? with
  | none=>M.pure acc
  | some d=>M.bind (M.of (g d u0)) fun u1=>M.bind (M.quiet (c u1)) fun k=>
   if k=true then M.bind (M.quiet (e u1)) fun y=>M.bind (M.of y.d) fun x=>M.bind (M.chk (acc.length<1000000)) fun _=>lcS w g c e u0 n (i+1) (acc++[x])
   else lcS w g c e u0 n (i+1) acc
def fLcS (fuel:Nat) (m:EM) (g:GM) (c:TM) (e:EM) (own:List Nat):FM:=fun u=>M.bind (m u) fun w=>M.bind (lstOf w) fun _=>lcS w g c e (wipe3 u own) fuel 0 []
section
variable {u:Sl3} {st:Store} {fuel:Nat} {gm:GM} {t:TM} {m ml:EM} {own:List Nat} {kf:Res (List D)→Prop}
@[simp] theorem run_fLcS:run (fLcS fuel ml gm t m own u st) kf=run (ml u st) (kBind (fun w=>M.bind (lstOf w) fun _=>lcS w gm t m (wipe3 u own) fuel 0 []) kf):=run_bind _ _
end
end M3
namespace M3
open PySem PySem.Spec PyProof.Rows L2 LamX NdefX
end M3
namespace M3
open PySem PySem.Spec PyProof.Rows L2
def eIxSX (ma mb:EM):EM:=fun u=>M.bind (ma u) fun w=>M.bind (mb u) fun wi=>M.bind (lstOf w) fun q=>match wi with
 | .val (.int i)=>M.of ((atI q.2 i).map W.val)
 | _=>M.bad
section
variable {kw:Res W→Prop} {st:Store} {u:Sl3} {ma mb:EM}
@[simp] theorem run_eIxSX:run (eIxSX ma mb u st) kw=run (ma u st) (kBind (fun w=>M.bind (mb u) fun wi=>M.bind (lstOf w) fun q=>match wi with
 | .val (.int i)=>M.of ((atI q.2 i).map W.val)
 | _=>M.bad) kw):=run_bind _ _
end
end M3
namespace M3
open PySem PySem.Spec PyProof.Rows L2
namespace RevT
open HT PySem.SeqAt PySem.MeetsSeq PySem.MeetsSeq2 PySem.MeetsSeq3
theorem fm_congr {α β:Type} {f g:α→Option β}:∀{l:List α},(∀x∈l,f x=g x)→l.filterMap f=l.filterMap g
 | [],_=>rfl
 | x :: l,h=>by
  rw[List.filterMap_cons,List.filterMap_cons,h x List.mem_cons_self,fm_congr (l:=l) fun y hy=>h y (List.mem_cons_of_mem _ hy)]
theorem many (n:Nat):Builtin.Slice.slicePlaces ((n:Int) - 1) (-1) (-1)=n:=by
 cases n with
 | zero=>rfl
 | succ m=>
  have one:(-(-1):Int)=1:=rfl
  simp only[Builtin.Slice.slicePlaces,one,Int.ediv_one]
  rw[if_neg (by decide),if_pos (by omega)]
  omega
theorem picked (its:Array Value):((List.range its.size).filterMap fun (m:Nat)=>its[((its.size:Int) - 1+(m:Int) * (-1)).toNat]?).toArray=its.toList.reverse.toArray:=by
 have turned:(List.range its.size).filterMap (fun (m:Nat)=>its[((its.size:Int) - 1+(m:Int) * (-1)).toNat]?)=((List.range its.size).map fun k=>its.size - 1 - k).filterMap (its[·]?):=by
  rw[List.filterMap_map]
  apply fm_congr
  intro m hm
  have lt:=List.mem_range.mp hm
  have same:((its.size:Int) - 1+(m:Int) * (-1)).toNat=its.size - 1 - m:=by omega
  simp only[Function.comp,same]
 rw[turned,PySem.W.krv_range,List.filterMap_reverse,PySem.W.krv_all]
section
variable {pg:Program} {wd:World} {Ar:Around} {Er:Value→Shared→Prop} {now:Shared} {tp cutAt:Addr} {its:Array Value} {v1 v2 v3:Value}
theorem applied {n:Nat} {Go:Int×Int×Nat→Shared→Prop} (cut:now.heap.IsSliceOf cutAt v1 v2 v3) (b1:IsPart v1 none) (b2:IsPart v2 none) (b3:IsPart v3 (some (-1))) (go:Go ((n:Int) - 1,-1,n) now) :
  wpAny (model pg wd) Ar (Builtin.Slice.sliceApplied (.ref cutAt) (pure (n:Int))) Go Er now:=by
 rcases cut with⟨ob,here,-,parts⟩
 have last:wpAny (model pg wd) Ar (pure ((n:Int) - 1,(-1:Int),Builtin.Slice.slicePlaces ((n:Int) - 1) (-1) (-1))) Go Er now:=wpAny_pure (by rw[many];exact go)
 have bounds:wpAny (model pg wd) Ar (Builtin.Slice.slicePartIndex v1 >>= fun lo=>Builtin.Slice.slicePartIndex v2 >>= fun hi=>pure (n:Int) >>= fun m=>match Builtin.Slice.sliceAdjust lo hi (-1) m with | (x,y)=>pure (x,(-1:Int),Builtin.Slice.slicePlaces x y (-1))) Go Er now:=
  wpAny_bind (slicePart_ b1 (wpAny_bind (slicePart_ b2 (wpAny_bind (wpAny_pure last)))))
 simp only[Builtin.Slice.sliceApplied,Builtin.Slice.sliceFields]
 apply wpAny_bind
 apply wpAny_bind
 apply wpAny_field here parts (x:=v1) rfl
 apply wpAny_bind
 apply wpAny_field here parts (x:=v2) rfl
 apply wpAny_bind
 apply wpAny_field here parts (x:=v3) rfl
 apply wpAny_pure
 apply wpAny_bind
 apply slicePart_ b3
 exact bounds
theorem item {Go:Value→Shared→Prop} (tup:IsTup now.heap tp its) (cut:now.heap.IsSliceOf cutAt v1 v2 v3) (b1:IsPart v1 none) (b2:IsPart v2 none) (b3:IsPart v3 (some (-1))) (room:its.size≤sizeLine)
  (go:Go (.ref now.heap.objs.size) { now with heap:=now.heap.push { cls:=.type "tuple",data:=.seq its.toList.reverse.toArray } }):wpAny (model pg wd) Ar (getItem (.ref tp) (.ref cutAt)) Go Er now:=by
 have kind:now.TypeIs (.ref cutAt) "slice":=by rcases cut with⟨ob,here,cl,-⟩;exact⟨ob,here,cl⟩
 have fits:sizeOk (.seq its.toList.reverse.toArray):=(by rw[List.size_toArray,List.length_reverse,Array.length_toList];exact room:its.toList.reverse.toArray.size≤sizeLine)
 have other:((((its.size:Int) - 1) == 0 && (-1:Int) == 1 && its.size == its.size)=true)=False:=by simp
 simp only[getItem]
 try with_reducible apply wpAny_holding
 try (apply wpAny_bind;apply wpAny_pure)
 apply wpAny_bind
 apply wpAny_sequenceKey tup.typeIs (by decide)
 apply wpAny_bind
 apply wpAny_callSpecial?_slot (name:=Str.ofString "__getitem__") tup.typeIs PyProof.Rows.slot_tuple_getitem
 refine wpAny_call_entry PyProof.Rows.slot_tuple_getitem tup.typeIs entry_tuple_getitem ?inside (args_tuple_getitem _ _)
 case inside=>
  apply wpAny_bind (m:=Builtin.Tuple.tupleItemsOf (.ref tp))
  apply tupleItemsOf_ tup
  apply wpAny_bind
  apply wpAny_typeOf kind
  rw[if_pos (by decide)]
  apply wpAny_bind
  apply applied cut b1 b2 b3
  show wpAny _ _ (if ((((its.size:Int) - 1) == 0 && (-1:Int) == 1 && its.size == its.size)=true) then _ else _) _ _ now
  simp only[other,if_false,picked]
  apply wpAny_bind
  apply wpAny_newObj_type _ fits
  exact wpAny_pure ⟨_,rfl,wpAny_pure go⟩
end
end RevT
end M3
namespace M3
open PySem PySem.Spec PyProof.Rows L2
def PostD (G:G3) (B:Addr→Prop) (E:XK) (s:S3) (Q:VK):Res (List Key×List D)→Prop
 | .ok r st'=>∀(s':S3) (p:Addr) (kvs:List (Key×V)),Le B s s'→Wd G (plus B p) st' s'→¬B p→s'.H p=some (.dK kvs)→kvs.map (·.1)=r.1→RepL G.R s'.F s'.io r.2 (kvs.map (·.2))→Q (.ref p) s'.H
 | .err c x st'=>∀(s':S3) (cv:Value) (dd:Option Addr),Le B s s'→Wd G B st' s'→ExR G s' c x cv dd→E cv dd s'.H
 | .bad=>False
def spMD (G:G3) (n:Nat) (m:List D→M (List Key×List D)):Sp:=fun vs H Q E=>vs.length=n∧∃(B:Addr→Prop) (s:S3) (st:Store) (ds:List D),s.H=H∧Wd G B st s∧RepL G.R s.F s.io ds vs∧PostD G B E s Q (m ds st)
structure CalOD (Pg:Program) (w:World) (K:PySem.W.Frag) (mg:Str→Option Value) (base:Heap) (G:G3) (k:Nat) (x:Str) (n:Nat) (m:List D→M (List Key×List D)):Prop where
 ex:∃f fd ps,mg x=some (.ref f)∧PySem.W.keepIn K (.ref f)=true∧Binds K fd ps []∧ps.length=n∧FnOk Pg w K mg base (CXq Pg w) k f fd ps (spMD G n m)
def mCallD (n:Nat) (m:List D→M (List Key×List D)) (ma:AM):Sl3→M (List Key×List D):=fun u=>M.bind (ma u) fun ws=>M.bind (M.of (asDs ws)) fun ds=>M.bind (M.chk (ds.length=n)) fun _=>m ds
def sSetCD (i n:Nat) (m:List D→M (List Key×List D)) (ma:AM):SM:=fun u st=>match mCallD n m ma u st with
 | .ok r st'=>.nx (u.set i (some (.bod r.1 r.2))) st'
 | .err c x st'=>.err c x u st'
 | .bad=>.bad
section
variable {Pg:Program} {w:World} {K:PySem.W.Frag} {mg:Str→Option Value} {base b:Heap} {G:G3} {k n:Nat} {x:Str} {m:List D→M (List Key×List D)}
theorem spMD_nap (hb:KnowsTo G.base b) {vs:List V} {H:Hp} {Q:VK} {E:XK} (h:spMD G n (nap m) vs H Q E):spMD (G.at b) n m vs H Q E:=by
 obtain⟨hl,B,s,st,ds,e,wd,rl,hp⟩:=h
 refine⟨hl,B,s,_,ds,e,wd.nap hb,rl,?_⟩
 unfold nap at hp
 cases em:m ds (st.map MO.nap) with
 | ok d st'=>rw[em] at hp;exact fun s' p kvs l w nb hq ek r=>hp s' p kvs l (wd.back l w) nb hq ek r
 | err c x st'=>rw[em] at hp;exact fun s' cv dd l w' r=>hp s' cv dd l (wd.back l w') r
 | bad=>rw[em] at hp;exact hp
theorem CalOD.nap (h:CalOD Pg w K mg base (G.at b) k x n m) (hb:KnowsTo G.base b):CalOD Pg w K mg base G k x n (M3.nap m):=by
 obtain⟨f,fd,ps,a1,a2,a3,a4,F⟩:=h.ex
 exact⟨f,fd,ps,a1,a2,a3,a4,F.imp fun _ _ _ _ h=>spMD_nap hb h⟩
end
section
variable {u:Sl3} {st:Store} {ks:SRes→Prop} {kd:Res (List Key×List D)→Prop}
def kRetD (k:Res (List Key×List D)→Prop):SRes→Prop
 | .rt (.bod xs us) st=>k (.ok (xs,us) st)
 | .err c x _ st=>k (.err c x st)
 | _=>k .bad
@[simp] theorem kRetD_bod (xs us):kRetD kd (.rt (.bod xs us) st)=kd (.ok (xs,us) st):=rfl
@[simp] theorem kRetD_bad:kRetD kd .bad=kd .bad:=rfl
@[simp] theorem kRetD_err (c x):kRetD kd (.err c x u st)=kd (.err c x st):=rfl
def kSetCD (i:Nat) (u:Sl3) (k:SRes→Prop):Res (List Key×List D)→Prop
 | .ok r st'=>k (.nx (u.set i (some (.bod r.1 r.2))) st')
 | .err c x st'=>k (.err c x u st')
 | .bad=>k .bad
@[simp] theorem kSetCD_ok (i) (r):kSetCD i u ks (.ok r st)=ks (.nx (u.set i (some (.bod r.1 r.2))) st):=rfl
@[simp] theorem kSetCD_bad (i):kSetCD i u ks .bad=ks .bad:=rfl
@[simp] theorem kSetCD_err (i) (c x):kSetCD i u ks (.err c x st)=ks (.err c x u st):=rfl
@[simp] theorem run_sSetCD (i n:Nat) (m:List D→M (List Key×List D)) (ma:AM):srun (sSetCD i n m ma u st) ks=M3.run (ma u st) (kBind (fun ws=>M.bind (M.of (asDs ws)) fun ds=>M.bind (M.chk (ds.length=n)) fun _=>m ds) (kSetCD i u ks)):=by
 rw[←run_bind]
 unfold srun sSetCD M3.run kSetCD mCallD
 cases M.bind (ma u) (fun ws=>M.bind (M.of (asDs ws)) fun ds=>M.bind (M.chk (ds.length=n)) fun _=>m ds) st <;> rfl
end
end M3
namespace M3
open PySem PySem.Spec PyProof.Rows L2
structure Clause where
 c:Value
 sl:Option Nat
 ts:Addr→Value→Option Addr→TS
section
variable {X:Cx} {body:List Stmt} {h0:ExceptHandler} {hs:List ExceptHandler} {qs:List Clause} {pos:Pos} {tb:WX→TS} {W0:WX}
structure Landed (X:Cx) (pins:List (Addr×Obj)) (σ:L2.St) (H:Hp) (B:Heap) (e:Addr) (cv:Value) (dd:Option Addr) (s:Shared):Prop where
 inv:Inv X pins σ H s
 at_:HandSPX.FlyingZ B (X.env :: X.outer) e (Zq X cv dd) s.heap
 free:H e=none
 notL:e≠X.env.locals
 notF:e∉X.fs
theorem Landed.frames {B:Heap} {e:Addr} {Z:Obj→Prop} {s:Shared} (f:HandSPX.FlyingZ B (X.env :: X.outer) e Z s.heap) {o:Obj} {vs:Array Value} (ho:s.heap.get? e=some o) (hd:o.data=.fields vs):e∉frs (X.env :: X.outer):=fun m=>by
 obtain⟨_,o2,q2,n2⟩:=f.2.2.1.mem m
 rw[ho] at q2
 cases q2
 exact n2 _ hd
theorem SP.back {e:Addr} {ob:Obj} {pins:List (Addr×Obj)} {D:Ends} {f:Flow} {s:Shared} (ok:X.Ok) (h:SP (X.suite e ((e,ob) :: (X.pn++pins))) [] D f s):SP X pins D f s:=by
 cases f <;> first
  | (obtain⟨v,z,H,I,r,q⟩:=h;exact⟨v,z,H,I.unsuite ok,r,q⟩)
  | (obtain⟨z,H,I,q⟩:=h;exact⟨z,H,I.unsuite ok,q⟩)
end
def sTryA (i:Nat) (sub1:String→Option Bool) (ms1:SM) (sub2:String→Option Bool) (ms2:SM) (mb:SM):SM:=fun u st=>match mb u st with
 | .err c x u' st'=>match sub1 c with
  | some true=>if noExn u'=true then sSuite (some i) ms1 c x u' st' else .bad
  | some false=>match sub2 c with
   | some true=>if noExn u'=true then sSuite none ms2 c x u' st' else .bad
   | some false=>.err c x u' st'
   | none=>.bad
  | none=>.bad
 | r=>r
section
variable {u:Sl3} {st:Store} {ks:SRes→Prop}
def kTryA (i:Nat) (sub1:String→Option Bool) (ms1:SM) (sub2:String→Option Bool) (ms2:SM) (k:SRes→Prop):SRes→Prop
 | .err c x u' st'=>srun (match sub1 c with
  | some true=>if noExn u'=true then sSuite (some i) ms1 c x u' st' else .bad
  | some false=>match sub2 c with
   | some true=>if noExn u'=true then sSuite none ms2 c x u' st' else .bad
   | some false=>.err c x u' st'
   | none=>.bad
  | none=>.bad) k
 | r=>k r
@[simp] theorem run_sTryA (i:Nat) (sub1 sub2) (ms1 ms2 mb:SM):srun (sTryA i sub1 ms1 sub2 ms2 mb u st) ks=srun (mb u st) (kTryA i sub1 ms1 sub2 ms2 ks):=by
 unfold srun sTryA kTryA
 cases mb u st <;> rfl
@[simp] theorem kTryA_nx (i:Nat) (sub1 sub2) (ms1 ms2:SM):kTryA i sub1 ms1 sub2 ms2 ks (.nx u st)=ks (.nx u st):=rfl
@[simp] theorem kTryA_rt (i:Nat) (sub1 sub2) (ms1 ms2:SM) (w):kTryA i sub1 ms1 sub2 ms2 ks (.rt w st)=ks (.rt w st):=rfl
end
end M3
namespace M3
open PySem PySem.Spec PyProof.Rows L2
def fListDD (ma:AM):FM:=fun u=>M.bind (ma u) fun ws=>match ws with
 | [.val (.dd ks _)]=>M.bind (M.chk (ks.length≤1000000)) fun _=>M.pure ks
 | _=>M.bad
@[simp] theorem run_fListDD (ma:AM) {u:Sl3} {st:Store} {kl:Res (List D)→Prop}:M3.run (fListDD ma u st) kl=M3.run (ma u st) (kBind (fun ws=>match ws with
 | [.val (.dd ks _)]=>M.bind (M.chk (ks.length≤1000000)) fun _=>M.pure ks
 | _=>M.bad) kl):=run_bind _ _
end M3
namespace M3
open PySem PySem.Spec PyProof.Rows L2
def eIsI (tab:List (String×Bool)) (m:EM):EM:=fun u=>M.bind (m u) fun w=>M.bind (insOf w) fun q=>M.bind (M.of (tab.lookup q.2.1)) fun b=>M.pure (.val (.bl b))
section
variable {u:Sl3} {st:Store} {kw:Res W→Prop}
@[simp] theorem run_eIsI (tab:List (String×Bool)) (m:EM):M3.run (eIsI tab m u st) kw=M3.run (m u st) (kBind (fun w=>M.bind (insOf w) fun q=>M.bind (M.of (tab.lookup q.2.1)) fun b=>M.pure (.val (.bl b))) kw):=run_bind _ _
end
end M3
namespace M3
open PySem PySem.Spec PyProof.Rows L2
end M3
namespace M3
open PySem PySem.Spec PyProof.Rows L2
section
variable {k j:Nat} {A:Around} {s0:Shared} {H0:Hp} {fs ex:List Addr}
theorem units80 (r:RoomS k A s0 H0 fs ex):A.units+80<cLine:=by have:=r.un;omega
theorem RoomS.units (r:RoomS k A s0 H0 fs ex):A.units+64<cLine:=by have:=r.un;omega
end
section
variable {X:Cx} {P:P3} {pos p:Pos} {x:Str} {e:Expr} {es:List Expr} {ma:AM} {m:List D→M D} {k j n:Nat} {pins:List (Addr×Obj)} {z:L2.St} {H:Hp} {s:Shared}
structure RoomW (k:Nat) (X:Cx):Prop where
 dp:X.A.depth+3 * k+5<recursionLimit
 un:X.A.units+16 * k+200<cLine
 hot:∀(pins:List (Addr×Obj)) (z:L2.St) (H:Hp) (s:Shared),Inv X pins z H s→HotO X.A X.stack H s
theorem RoomW.mono (r:RoomW k X) (h:j≤k):RoomW j X:=⟨by have:=r.dp;omega,by have:=r.un;omega,r.hot⟩
theorem RoomW.call (r:RoomW k X) (I:Inv X pins z H s):RoomC k X.A X.stack H s:=⟨r.dp,r.un,r.hot _ _ _ _ I⟩
end
end M3
namespace M3
open PySem PySem.Spec PyProof.Rows L2 PySem.W PySem.Calls
theorem range_next {n i x:Nat} {rest:List Nat} (e:x :: rest=List.range' i (n - i)):x=i∧i<n∧rest=List.range' (i+1) (n - (i+1)):=by
 by_cases q:i<n
 ·rw[show n - i=(n - (i+1)).succ by omega] at e
  cases e
  exact⟨rfl,q,rfl⟩
 ·rw[show n - i=0 by omega] at e
  cases e
section
variable {prog:Program} {w:World} {A:Around} {K:Type} [DecidableEq K] {knd:HeapKind prog w K} {s:Shared} {E:Value→Shared→Prop}
theorem samePairsH {nm:String} {a b:Addr} {xa xb:List (K×Addr×Value)} {Q:Bool→Shared→Prop} (ha:(a == sysModules)=false) (hb:(b == sysModules)=false)
  (da:s.heap.DictOfH knd a xa) (db:s.heap.DictOfH knd b xb) (hl:xa.length=xb.length) (hr:knd.room A) (hits:∀x∈xa,∃c y,atKey xb x.1=some (c,y)∧SeqAt.EqP prog w A s x.2.2 y true) (h:Q true s) :
  wpAny (model prog w) A (Builtin.Dict.samePairs nm a b) Q E s:=by
 obtain⟨oa,es,ep,hoa,_,hda,hea,hia,_⟩:=da
 obtain⟨ob,es',ep',hob,_,hdb,heb,hib,hnb⟩:=db
 have hla:=size_of_entries hea
 have hlb:=size_of_entries heb
 have hsz:es.size=es'.size:=by rw[hla,hlb];exact hl
 unfold Builtin.Dict.samePairs
 unfold Builtin.Dict.showsAll
 rw[if_neg (by rw[ha];decide),if_neg (by rw[hb];decide)]
 refine wpAny_bind (wpAny_pure (wpAny_bind (wpAny_pure (wpAny_bind (wpAny_dictEntries hoa hda ?_)))))
 dsimp only
 refine wpAny_bind (wpAny_dictEntries hob hdb ?_)
 rw[if_neg (show ¬_ by simp[hsz])]
 refine wpAny_bind (wpAny_dictEpoch hoa hda (wpAny_bind ?_))
 rw[Std.Legacy.Range.forIn_eq_forIn_range',show Std.Legacy.Range.size _=es.size by simp[Std.Legacy.Range.size]]
 refine wpAny_forIn_list _
  (fun rest q s'=>s'=s∧q=(none,())∧∃i,rest=List.range' i (es.size - i)∧i≤es.size)
  _ ?_ ?_ _ _ ⟨rfl,rfl,0,by simp,Nat.zero_le _⟩
 ·rintro x rest q s' ⟨rfl,rfl,i,hrr,hi⟩
  obtain⟨rfl,hlt,hrest⟩:=range_next hrr
  refine wpAny_bind (wpAny_dictEntries hoa hda (?_))
  rw[show es[x]?=some es[x] from Array.getElem?_eq_getElem hlt]
  have hlt':x<xa.length:=by rw[←hla];exact hlt
  have hx:=List.getElem_mem hlt'
  have ee:es[x]=entryOfKey knd xa[x]:=by
   have:=entry_at hea x
   rw[Array.getElem?_eq_getElem hlt,List.getElem?_eq_getElem hlt'] at this
   exact Option.some.inj this
  obtain⟨c,y,hat,heq⟩:=hits _ hx
  have hkey:=hia _ hx
  dsimp only
  rw[ee]
  unfold entryOfKey
  dsimp only
  refine wpAny_bind (wpAny_holding (wpAny_bind (wpAny_dictFind_heap hr hkey hob hdb heb hib hnb (fun hno=>?_) (fun j p hj=>?_))))
  ·rw[atKey_none_of_get hno] at hat
   cases hat
  ·have hp:=atKey_of_get hnb hj
   rw[hat] at hp
   cases hp
   refine wpAny_bind (wpAny_dictEntries hob hdb (?_))
   rw[entry_at heb j,hj]
   refine wpAny_holding (heq _ _ ?_)
   rw[if_neg (show ¬((!true)=true) by decide)]
   refine wpAny_bind (wpAny_dictEpoch hoa hda (?_))
   rw[if_neg (by simp)]
   exact wpAny_pure ⟨rfl,rfl,x+1,hrest,hlt⟩
 ·rintro q s' ⟨rfl,rfl,i,hrr,hi⟩
  exact wpAny_pure h
theorem slot_dicts {nm:String} {a b:Addr} {xa:List (K×Addr×Value)} {Q:Value×Value→Shared→Prop} (da:s.heap.DictOfH knd a xa) (q:Q (.ref a,.ref b) s):wpAny (model prog w) A (Builtin.Dict.dictSlotArgs nm ⟨[.ref a,.ref b],[]⟩) Q E s:=by
 rw[Builtin.Dict.dictSlotArgs]
 exact wpAny_bind (wpAny_notOrdered_dict da.typeIs (wpAny_pure q))
theorem rcH_dicts {a b:Addr} {xa xb:List (K×Addr×Value)} (ha:(a == sysModules)=false) (hb:(b == sysModules)=false)
  (da:s.heap.DictOfH knd a xa) (db:s.heap.DictOfH knd b xb) (hl:xa.length=xb.length) (hr:knd.room A.in1) (hu:A.units<cLine) (hits:∀x∈xa,∃c y,atKey xb x.1=some (c,y)∧SeqAt.EqP prog w A.in1 s x.2.2 y true) (E Q:Value→Shared→Prop) (h:Q (.bool true) s):wpAny (model prog w) A (richCompare .Eq (.ref a) (.ref b)) Q E s:=by
 refine wpAny_richCompare_same_room (op:=.Eq) da.typeIs db.typeIs PySem.F.slot_dict_eq ?_ hu
 refine wpAny_call_entry PySem.F.slot_dict_eq da.typeIs PySem.F.entry_dict_eq (wpAny_bind (slot_dicts (knd:=knd) da (wpAny_bind (wpAny_isInstance (T:="dict") db.typeIs PySem.F.sub_dict_dict ?_)))) (PySem.F.args_dict_eq_2 _ _)
 rw[if_neg (by decide)]
 exact wpAny_bind (wpAny_pure (wpAny_bind (wpAny_pure (wpAny_bind (samePairsH ha hb da db hl hr hits (wpAny_pure ⟨_,rfl,nofun,h⟩))))))
end
def D.its:D→Option (List D)
 | .lst xs=>some xs
 | .ro xs=>some xs
 | _=>none
def D.flatEq:D→D→Bool
 | .non,.non=>true
 | .bl a,.bl b=>a == b
 | .int a,.int b=>a == b
 | .str a,.str b=>a == b
 | _,_=>false
def D.seqB:D→Bool
 | .tup _=>true
 | .ctup _=>true
 | .lst _=>true
 | .ro _=>true
 | _=>false
def D.same:Nat→D→D→Bool
 | 0,_,_=>false
 | n+1,a,b=>a.flatEq b || (a.seqB && b.seqB && a.eqv? b == some true) || (match a.its,b.its with
  | some xs,some ys=>xs.length == ys.length && (xs.zip ys).all fun p=>D.same n p.1 p.2
  | _,_=>false) || (match a,b with
  | .dd ks us,.dd ls ws=>ks.length == ls.length && us.length == ks.length && (ks.zip us).all fun p=>(match p.1.tk with
   | some x=>(match ddAt ls ws x with
    | some d=>D.same n p.2 d
    | none=>false)
   | none=>false)
  | _,_=>false)
section
variable {K:KW} {F H:Hp} {io:Io} {X:Cx} {pins:List (Addr×Obj)} {σ:L2.St} {s:Shared}
theorem its_rep {d:D} {xs:List D} {v:V} (e:d.its=some xs) (r:Rep K H io d v):∃p vs,v=.ref p∧SqL K.K H p vs∧RepL K H io xs vs:=by
 cases r with
 | lst h q=>cases e;exact⟨_,_,rfl,.inl (.inl h),q⟩
 | ro h q=>cases e;exact⟨_,_,rfl,h,q⟩
 | _=>simp[D.its] at e
theorem seq_rep {d:D} {v:V} (e:d.seqB=true) (r:Rep K H io d v):∃p,v=.ref p:=by
 cases r <;> first
  | exact⟨_,rfl⟩
  | simp[D.seqB] at e
theorem flat_rep {a b:D} {x y:V} (e:a.flatEq b=true) (r1:Rep K H io a x) (r2:Rep K H io b y):x=y∧flatB x=true:=by
 cases a <;> cases b <;> simp[D.flatEq] at e <;> cases r1 <;> cases r2
 ·exact⟨rfl,rfl⟩
 ·subst e;exact⟨rfl,rfl⟩
 ·subst e;exact⟨rfl,rfl⟩
 ·subst e;exact⟨rfl,rfl⟩
def D.deep (n:Nat) (a b:D):Bool:=(match a.its,b.its with
  | some xs,some ys=>xs.length == ys.length && (xs.zip ys).all fun p=>D.same n p.1 p.2
  | _,_=>false) || (match a,b with
  | .dd ks us,.dd ls ws=>ks.length == ls.length && us.length == ks.length && (ks.zip us).all fun p=>(match p.1.tk with
   | some x=>(match ddAt ls ws x with
    | some d=>D.same n p.2 d
    | none=>false)
   | none=>false)
  | _,_=>false)
theorem same_succ (n:Nat) (a b:D):D.same (n+1) a b=(a.flatEq b || (a.seqB && b.seqB && a.eqv? b == some true) || D.deep n a b):=by
 show (_ || _ || _ || _)=_
 unfold D.deep
 rw[Bool.or_assoc]
theorem zip_get {α β:Type} {xs:List α} {ys:List β} {p:α×β→Bool} (h:(xs.zip ys).all p=true) {i:Nat} {x:α} {y:β} (h1:xs[i]?=some x) (h2:ys[i]?=some y):p (x,y)=true:=by
 rw[List.all_eq_true] at h
 refine h _ (List.mem_of_getElem? (i:=i) ?_)
 rw[List.getElem?_zip_eq_some]
 exact⟨h1,h2⟩
theorem vals_get:∀{vs:List V} {us:List Value},Vals vs us→∀j (h:j<us.length),∃v,vs[j]?=some v∧RelV v us[j]
 | _,_,.nil,j,h=>absurd h (Nat.not_lt_zero j)
 | _,_,.cons r t,0,h=>⟨_,rfl,r⟩
 | _,_,.cons r t,j+1,h=>vals_get t j (Nat.lt_of_succ_lt_succ h)
theorem dd_rep {ks us:List D} {v:V} (r:Rep K H io (.dd ks us) v):∃p xs,v=.ref p∧RdD H p (DkO K.w p xs)∧DkR K H io ks us xs:=by
 cases r with
 | dd hF hk ht hv hr=>exact⟨_,_,rfl,.inr (.inl ⟨_,hF⟩),⟨hk,ht,_,hv,hr⟩⟩
theorem deep_run (hK:X.K=K.K) (hw:X.w=K.w) (I:Inv X pins σ H s) {A:Around} {n:Nat} (hu:A.units+65<cLine)
  (ih:∀(a b:D) (x y:V) (v u:Value),D.same n a b=true→Rep K H io a x→Rep K H io b y→RelV x v→RelV y u→SeqAt.EqP X.prog X.w A.in1 s v u true)
  {a b:D} {x y:V} {v u:Value} (h:D.deep n a b=true) (r1:Rep K H io a x) (r2:Rep K H io b y) (rx:RelV x v) (ry:RelV y u) (E Q:Value→Shared→Prop) (q:Q (.bool true) s):wpAny (model X.prog X.w) A (richCompare .Eq v u) Q E s:=by
 unfold D.deep at h
 rw[Bool.or_eq_true] at h
 rcases h with h | h
 ·split at h
  ·rename_i xs ys e1 e2
   rw[Bool.and_eq_true,beq_iff_eq] at h
   obtain⟨hl,ha⟩:=h
   obtain⟨p1,vs,rfl,s1,q1⟩:=its_rep e1 r1
   obtain⟨p2,ws,rfl,s2,q2⟩:=its_rep e2 r2
   cases (show v=Value.ref p1 from rx)
   cases (show u=Value.ref p2 from ry)
   rw[←hK] at s1 s2
   obtain⟨us1,t1,l1,_⟩:=I.list s1
   obtain⟨us2,t2,l2,_⟩:=I.list s2
   have hsz:us1.toArray.size=us2.toArray.size:=by
    rw[List.size_toArray,List.size_toArray,←t1.length,←t2.length,←q1.length,←q2.length]
    exact hl
   refine SeqAt.rcP_lists (e:=fun _=>true) l1.isList l2.isList hsz (by omega) (fun j h1 h2=>?_) E Q ?_
   ·have h1:j<us1.length:=by simpa using h1
    have h2:j<us2.length:=by simpa using h2
    obtain⟨x',g1,g2⟩:=vals_get t1 j h1
    obtain⟨y',g3,g4⟩:=vals_get t2 j h2
    obtain⟨d1,k1,k2⟩:=q1.get' g1
    obtain⟨d2,k3,k4⟩:=q2.get' g3
    have:=ih d1 d2 x' y' us1[j] us2[j] (zip_get ha k1 k3) k2 k4 g2 g4
    simpa using this
   ·rw[show ((List.range us1.toArray.size).all fun _=>true)=true from List.all_eq_true.mpr fun _ _=>rfl]
    exact q
  ·cases h
 ·split at h
  ·rename_i ks us ls ws
   rw[Bool.and_eq_true,Bool.and_eq_true,beq_iff_eq,beq_iff_eq] at h
   obtain⟨⟨hl,_⟩,ha⟩:=h
   obtain⟨p1,xa,rfl,d1,k1⟩:=dd_rep r1
   obtain⟨p2,xb,rfl,d2,k2⟩:=dd_rep r2
   cases (show v=Value.ref p1 from rx)
   cases (show u=Value.ref p2 from ry)
   rw[←hw] at d1 d2
   obtain⟨y1,_,o1⟩:=dkO_of I.hok d1 (k1.keyH (Same.refl _))
   obtain⟨y2,_,o2⟩:=dkO_of I.hok d2 (k2.keyH (Same.refl _))
   have e1:=(dd_len k1).1
   have e2:=(dd_len k2).1
   refine rcH_dicts (knd:=nestedKind X.prog X.w) y1 y2 o1 o2 (by rw[←e1,←e2];exact hl) (nroom (A:=A) (by omega)) (by omega) (fun x hx=>?_) E Q q
   obtain⟨i,hi,ei⟩:=List.mem_iff_getElem.mp hx
   obtain⟨g1,g2,vs,g3,g4⟩:=k1
   have x1:xa[i]?=some x:=by rw[List.getElem?_eq_getElem hi,ei]
   have hki:i<ks.length:=by rw[e1];exact hi
   have z1:ks[i]?=some ks[i]:=List.getElem?_eq_getElem hki
   have z2:ks[i].tk=some x.1:=by
    have:=congrArg (fun l=>l[i]?) g2
    simp only[List.getElem?_map,z1,x1,Option.map_some] at this
    exact Option.some.inj this
   have hvl:i<(xa.map (·.2.2)).length:=by simpa using hi
   obtain⟨x',v1,v2⟩:=vals_get g3 i hvl
   obtain⟨dv,v3,v4⟩:=g4.get' v1
   have:=zip_get ha z1 v3
   dsimp only at this
   rw[z2] at this
   dsimp only at this
   cases hat:ddAt ls ws x.1 with
   | none=>rw[hat] at this;cases this
   | some dw=>
    rw[hat] at this
    obtain⟨c,u',v',m1,m2,m3⟩:=(dd_at k2).1 dw hat
    refine⟨c,u',m1,ih dv dw x' v' _ _ this v4 m3 ?_ m2⟩
    have:(xa.map (·.2.2))[i]=x.2.2:=by simp[ei]
    rw[this] at v2
    exact v2
  ·cases h
theorem same_run (hK:X.K=K.K) (hw:X.w=K.w) (I:Inv X pins σ H s):∀(n:Nat) (A:Around),A.units+n+65<cLine→∀(a b:D) (x y:V) (v u:Value),D.same n a b=true→Rep K H io a x→Rep K H io b y→RelV x v→RelV y u→SeqAt.EqP X.prog X.w A s v u true
 | 0,_,_,_,_,_,_,_,_,h,_,_,_,_=>by cases h
 | n+1,A,hu,a,b,x,y,v,u,h,r1,r2,rx,ry=>by
  rw[same_succ,Bool.or_eq_true,Bool.or_eq_true] at h
  have refs:∀{p1 p2:Addr},x=.ref p1→y=.ref p2→(∀(E Q:Value→Shared→Prop),Q (.bool true) s→wpAny (model X.prog X.w) A (richCompare .Eq v u) Q E s)→SeqAt.EqP X.prog X.w A s v u true:=fun {p1 p2} e1 e2 hh=>by
   subst e1 e2
   cases (show v=Value.ref p1 from rx)
   cases (show u=Value.ref p2 from ry)
   by_cases e:p1=p2
   ·subst e
    exact(SeqAt.EqAt.same _).eqP
   ·exact SeqAt.eqP_refs e hh
  rcases h with (h | h) | h
  ·obtain⟨rfl,f⟩:=flat_rep h r1 r2
   exact(eqAt_same rx ry f).eqP
  ·rw[Bool.and_eq_true,Bool.and_eq_true,beq_iff_eq] at h
   obtain⟨⟨b1,b2⟩,h⟩:=h
   obtain⟨p1,e1⟩:=seq_rep b1 r1
   obtain⟨p2,e2⟩:=seq_rep b2 r2
   obtain⟨d,e,h1,h2,sd,se,hq⟩:=eqv_of h
   have c1:Dp X.K H x d:=by rw[hK];exact py_ok r1 h1
   have c2:Dp X.K H y e:=by rw[hK];exact py_ok r2 h2
   obtain⟨as,t1⟩:=Dp.reads I d x v c1 rx
   obtain⟨bs,t2⟩:=Dp.reads I e y u c2 ry
   exact refs e1 e2 fun E Q q=>SeqAt.compareEq_shaped t1 t2 sd se (by omega) (by rw[←hq];exact q)
  ·have hd:=h
   have rr:(∃p,x=.ref p)∧∃p,y=.ref p:=by
    unfold D.deep at h
    rw[Bool.or_eq_true] at h
    rcases h with h | h
    ·split at h
     ·rename_i e1 e2
      obtain⟨p1,_,e3,_⟩:=its_rep e1 r1
      obtain⟨p2,_,e4,_⟩:=its_rep e2 r2
      exact⟨⟨p1,e3⟩,p2,e4⟩
     ·cases h
    ·split at h
     ·obtain⟨p1,_,e3,_⟩:=dd_rep r1
      obtain⟨p2,_,e4,_⟩:=dd_rep r2
      exact⟨⟨p1,e3⟩,p2,e4⟩
     ·cases h
   obtain⟨⟨p1,e1⟩,p2,e2⟩:=rr
   exact refs e1 e2 fun E Q q=>deep_run hK hw I (by omega) (fun a b x y v u=>same_run hK hw I n A.in1 (by show A.units+1+n+65<cLine;omega) a b x y v u) hd r1 r2 rx ry E Q q
end
def sameF (neg:Bool) (x y:W):Option W:=match x.rd,y.rd with
 | some a,some b=>if D.deep 8 a b=true then some (.val (.bl (!neg))) else none
 | _,_=>none
def rSame (K:KW):R2:=fun x y H Q=>∃(io:Io) (a b:D),Rep K H io a x∧Rep K H io b y∧D.deep 8 a b=true∧Q (.bl true) H
def rSameN (K:KW):R2:=fun x y H Q=>∃(io:Io) (a b:D),Rep K H io a x∧Rep K H io b y∧D.deep 8 a b=true∧Q (.bl false) H
section
variable {P:P3}
theorem op_same {X:Cx} {K:KW} (hK:X.K=K.K) (hw:X.w=K.w) (hu:X.A.units+80<cLine):OpR X (compareOp .Eq) (rSame K):=by
 intro pins s σ H x y v u Q I rx ry ⟨io,a,b,r1,r2,h,q⟩
 exact deep_run hK hw I (A:=X.A) (by omega) (fun a b x y v u=>same_run hK hw I 8 X.A.in1 (by show X.A.units+1+8+65<cLine;omega) a b x y v u) h r1 r2 rx ry _ _ ⟨.bl true,H,I,rfl,q⟩
end
end M3
namespace PySem.SeqAt
open AutoSeq1 (wpAny_loadPart')
open MeetsSeq MeetsSeq2 MeetsSeq3 SeqRoads2
section
variable {prog:Program} {w:World}
structure TwoL (prog:Program) (w:World) (l b:Addr) (o1 o2:Obj) (items items2:Array Value) (A:Around) (s:Shared):Prop where
 fst:s.heap.get? l=some o1
 snd:s.heap.get? b=some o2
 all:∀j (h1:j<items.size) (h2:j<items2.size),EqP prog w A.in1 s items[j] items2[j] true
theorem m3_ne_from (l b:Addr) (items items2:Array Value) (n n2:Nat) (dd dd2:Option Addr) (sl sl2:Array (Option Value)) (hsz:items.size=items2.size) (i:Nat) :
  MeetsIn prog w (Builtin.«list.__eq__.loop» ⟨[.ref l,.ref b,rawInt i,rawInt 3],[]⟩)
   (fun A R s=>TwoL prog w l b ⟨.type "list",dd,.seq items n,sl⟩ ⟨.type "list",dd2,.seq items2 n2,sl2⟩ items items2 A s∧R (.ok (.ret (.bool false))) s):=by
 intro A R s two
 obtain⟨heap0,gens0,drawn0,toks0,os0⟩:=s
 obtain⟨⟨at1,at2,same⟩,want⟩:=two
 wp_walk using wpAny_loadPart' at1,wpAny_loadPart' at2
 rw[show items[((i:Nat):Int).toNat]?=items[i]? by simp,show items2[((i:Nat):Int).toNat]?=items2[i]? by simp]
 by_cases more:i<items.size
 ·have more2:i<items2.size:=hsz▸more
  rw[Array.getElem?_eq_getElem more,Array.getElem?_eq_getElem more2]
  refine wpAny_bind (same i more more2 _ _ ?_)
  wp_walk
  rw[show ((i:Int)+1)=(((i+1:Nat)):Int) by push_cast;rfl]
  refine⟨plainId_quiet plain_eq_loop _,codeAny_builtin entry_eq_loop ?_⟩
  rw[Around.under_plainId plain_eq_loop _]
  exact m3_ne_from l b items items2 n n2 dd dd2 sl sl2 hsz (i+1) A R _ ⟨⟨at1,at2,same⟩,want⟩
 ·rw[Array.getElem?_eq_none (by omega),Array.getElem?_eq_none (by omega)]
  wp_walk using wpAny_loadPart' at1,wpAny_loadPart' at2
  show R (.ok (.ret (.bool (items.size != items2.size)))) _
  simpa[hsz] using want
termination_by items.size - i
theorem m3_list_ne (l b:Addr) (items items2:Array Value) (n n2:Nat) (dd dd2:Option Addr) (sl sl2:Array (Option Value)) (hsz:items.size=items2.size) :
  MeetsIn prog w (Builtin.«list.__ne__» ⟨[.ref l,.ref b],[]⟩)
   (fun A R s=>TwoL prog w l b ⟨.type "list",dd,.seq items n,sl⟩ ⟨.type "list",dd2,.seq items2 n2,sl2⟩ items items2 A s∧R (.ok (.ret (.bool false))) s):=by
 intro A R s two
 obtain⟨heap0,gens0,drawn0,toks0,os0⟩:=s
 obtain⟨⟨at1,at2,same⟩,want⟩:=two
 have sub:=AutoSeq1.sub_list_list
 have sizes:¬(items.size != items2.size)=true:=by simp[hsz]
 wp_walk using wpAny_loadPart' at1,wpAny_loadPart' at2
 refine⟨plainId_quiet plain_eq_loop _,codeAny_builtin entry_eq_loop ?_⟩
 rw[Around.under_plainId plain_eq_loop _]
 exact m3_ne_from l b items items2 n n2 dd dd2 sl sl2 hsz 0 A R _ ⟨⟨at1,at2,same⟩,want⟩
theorem m3_ne_lists {A:Around} {s:Shared} {l b:Addr} {items items2:Array Value} (hl:s.heap.IsList l items) (hb:s.heap.IsList b items2) (hsz:items.size=items2.size) (hu:A.units<cLine)
  (he:∀j (h1:j<items.size) (h2:j<items2.size),EqP prog w A.in1 s items[j] items2[j] true) (E Q:Value→Shared→Prop) (h:Q (.bool false) s):wpAny (model prog w) A (richCompare .NotEq (.ref l) (.ref b)) Q E s:=by
 obtain⟨⟨c1,d1,dt1,sl1⟩,at1,ec1,n1,ed1⟩:=hl
 obtain⟨⟨c2,d2,dt2,sl2⟩,at2,ec2,n2,ed2⟩:=hb
 dsimp only at ec1 ed1 ec2 ed2
 subst ec1 ed1 ec2 ed2
 have two:TwoL prog w l b _ _ items items2 A s:=⟨at1,at2,he⟩
 refine wpAny_richCompare_same_room (op:=.NotEq) ⟨_,at1,rfl⟩ ⟨_,at2,rfl⟩ F.slot_list_ne ?_ hu
 exact call_meetsIn F.slot_list_ne ⟨_,at1,rfl⟩ F.entry_list_ne (F.args_list_ne_2 _ _) (m3_list_ne l b items items2 n1 n2 d1 d2 sl1 sl2 hsz) ⟨two,nofun,h⟩
end
end PySem.SeqAt
namespace M3
open PySem PySem.Spec PyProof.Rows L2 PySem.W PySem.Calls
theorem rcH_ne {prog:Program} {w:World} {K:Type} [DecidableEq K] {knd:HeapKind prog w K} {A:Around} {s:Shared} {a b:Addr} {xa xb:List (K×Addr×Value)} (ha:(a == sysModules)=false) (hb:(b == sysModules)=false)
  (da:s.heap.DictOfH knd a xa) (db:s.heap.DictOfH knd b xb) (hl:xa.length=xb.length) (hr:knd.room A.in1) (hu:A.units<cLine) (hits:∀x∈xa,∃c y,atKey xb x.1=some (c,y)∧SeqAt.EqP prog w A.in1 s x.2.2 y true) (E Q:Value→Shared→Prop) (h:Q (.bool false) s):wpAny (model prog w) A (richCompare .NotEq (.ref a) (.ref b)) Q E s:=by
 refine wpAny_richCompare_same_room (op:=.NotEq) da.typeIs db.typeIs PySem.F.slot_dict_ne ?_ hu
 refine wpAny_call_entry PySem.F.slot_dict_ne da.typeIs PySem.F.entry_dict_ne (wpAny_bind (slot_dicts (knd:=knd) da (wpAny_bind (wpAny_isInstance (T:="dict") db.typeIs PySem.F.sub_dict_dict ?_)))) (PySem.F.args_dict_ne_2 _ _)
 rw[if_neg (by decide)]
 exact wpAny_bind (wpAny_pure (wpAny_bind (wpAny_pure (wpAny_bind (samePairsH ha hb da db hl hr hits (wpAny_pure ⟨_,rfl,nofun,h⟩))))))
section
variable {K:KW} {F H:Hp} {io:Io} {X:Cx} {pins:List (Addr×Obj)} {σ:L2.St} {s:Shared}
theorem deepN_run (hK:X.K=K.K) (hw:X.w=K.w) (I:Inv X pins σ H s) {A:Around} {n:Nat} (hu:A.units+65<cLine)
  (ih:∀(a b:D) (x y:V) (v u:Value),D.same n a b=true→Rep K H io a x→Rep K H io b y→RelV x v→RelV y u→SeqAt.EqP X.prog X.w A.in1 s v u true)
  {a b:D} {x y:V} {v u:Value} (h:D.deep n a b=true) (r1:Rep K H io a x) (r2:Rep K H io b y) (rx:RelV x v) (ry:RelV y u) (E Q:Value→Shared→Prop) (q:Q (.bool false) s):wpAny (model X.prog X.w) A (richCompare .NotEq v u) Q E s:=by
 unfold D.deep at h
 rw[Bool.or_eq_true] at h
 rcases h with h | h
 ·split at h
  ·rename_i xs ys e1 e2
   rw[Bool.and_eq_true,beq_iff_eq] at h
   obtain⟨hl,ha⟩:=h
   obtain⟨p1,vs,rfl,s1,q1⟩:=its_rep e1 r1
   obtain⟨p2,ws,rfl,s2,q2⟩:=its_rep e2 r2
   cases (show v=Value.ref p1 from rx)
   cases (show u=Value.ref p2 from ry)
   rw[←hK] at s1 s2
   obtain⟨us1,t1,l1,_⟩:=I.list s1
   obtain⟨us2,t2,l2,_⟩:=I.list s2
   have hsz:us1.toArray.size=us2.toArray.size:=by
    rw[List.size_toArray,List.size_toArray,←t1.length,←t2.length,←q1.length,←q2.length]
    exact hl
   refine SeqAt.m3_ne_lists l1.isList l2.isList hsz (by omega) (fun j h1 h2=>?_) E Q q
   have h1:j<us1.length:=by simpa using h1
   have h2:j<us2.length:=by simpa using h2
   obtain⟨x',g1,g2⟩:=vals_get t1 j h1
   obtain⟨y',g3,g4⟩:=vals_get t2 j h2
   obtain⟨d1,k1,k2⟩:=q1.get' g1
   obtain⟨d2,k3,k4⟩:=q2.get' g3
   have:=ih d1 d2 x' y' us1[j] us2[j] (zip_get ha k1 k3) k2 k4 g2 g4
   simpa using this
  ·cases h
 ·split at h
  ·rename_i ks us ls ws
   rw[Bool.and_eq_true,Bool.and_eq_true,beq_iff_eq,beq_iff_eq] at h
   obtain⟨⟨hl,_⟩,ha⟩:=h
   obtain⟨p1,xa,rfl,d1,k1⟩:=dd_rep r1
   obtain⟨p2,xb,rfl,d2,k2⟩:=dd_rep r2
   cases (show v=Value.ref p1 from rx)
   cases (show u=Value.ref p2 from ry)
   rw[←hw] at d1 d2
   obtain⟨y1,_,o1⟩:=dkO_of I.hok d1 (k1.keyH (Same.refl _))
   obtain⟨y2,_,o2⟩:=dkO_of I.hok d2 (k2.keyH (Same.refl _))
   have e1:=(dd_len k1).1
   have e2:=(dd_len k2).1
   refine rcH_ne (knd:=nestedKind X.prog X.w) y1 y2 o1 o2 (by rw[←e1,←e2];exact hl) (nroom (A:=A) (by omega)) (by omega) (fun x hx=>?_) E Q q
   obtain⟨i,hi,ei⟩:=List.mem_iff_getElem.mp hx
   obtain⟨g1,g2,vs,g3,g4⟩:=k1
   have x1:xa[i]?=some x:=by rw[List.getElem?_eq_getElem hi,ei]
   have hki:i<ks.length:=by rw[e1];exact hi
   have z1:ks[i]?=some ks[i]:=List.getElem?_eq_getElem hki
   have z2:ks[i].tk=some x.1:=by
    have:=congrArg (fun l=>l[i]?) g2
    simp only[List.getElem?_map,z1,x1,Option.map_some] at this
    exact Option.some.inj this
   have hvl:i<(xa.map (·.2.2)).length:=by simpa using hi
   obtain⟨x',v1,v2⟩:=vals_get g3 i hvl
   obtain⟨dv,v3,v4⟩:=g4.get' v1
   have:=zip_get ha z1 v3
   dsimp only at this
   rw[z2] at this
   dsimp only at this
   cases hat:ddAt ls ws x.1 with
   | none=>rw[hat] at this;cases this
   | some dw=>
    rw[hat] at this
    obtain⟨c,u',v',m1,m2,m3⟩:=(dd_at k2).1 dw hat
    refine⟨c,u',m1,ih dv dw x' v' _ _ this v4 m3 ?_ m2⟩
    have:(xa.map (·.2.2))[i]=x.2.2:=by simp[ei]
    rw[this] at v2
    exact v2
  ·cases h
theorem op_sameN {X:Cx} {K:KW} (hK:X.K=K.K) (hw:X.w=K.w) (hu:X.A.units+80<cLine):OpR X (compareOp .NotEq) (rSameN K):=by
 intro pins s σ H x y v u Q I rx ry ⟨io,a,b,r1,r2,h,q⟩
 exact deepN_run hK hw I (A:=X.A) (by omega) (fun a b x y v u=>same_run hK hw I 8 X.A.in1 (by show X.A.units+1+8+65<cLine;omega) a b x y v u) h r1 r2 rx ry _ _ ⟨.bl false,H,I,rfl,q⟩
end
section
variable {P:P3}
theorem sameF_of {neg:Bool} {x y w:W} (e:sameF neg x y=some w):∃a b,x.rd=some a∧y.rd=some b∧D.deep 8 a b=true∧w=.val (.bl (!neg)):=by
 unfold sameF at e
 split at e
 ·rename_i a b e1 e2
  split at e
  ·rename_i h
   cases e
   exact⟨a,b,e1,e2,h,rfl⟩
  ·cases e
 ·cases e
theorem om_same (hu:P.X.A.units+80<cLine):OpM P (compareOp .Eq) (sameF false):=by
 refine⟨_,op_same (K:=P.G.R) P.hK P.hw hu,fun B s st w1 w2 w v1 v2 Q wd r1 r2 e k=>?_⟩
 obtain⟨a,b,e1,e2,h,rfl⟩:=sameF_of e
 exact⟨s.io,a,b,rd_ok wd r1 e1,rd_ok wd r2 e2,h,k s _ (Le.refl _) wd .bl⟩
theorem om_sameN (hu:P.X.A.units+80<cLine):OpM P (compareOp .NotEq) (sameF true):=by
 refine⟨_,op_sameN (K:=P.G.R) P.hK P.hw hu,fun B s st w1 w2 w v1 v2 Q wd r1 r2 e k=>?_⟩
 obtain⟨a,b,e1,e2,h,rfl⟩:=sameF_of e
 exact⟨s.io,a,b,rd_ok wd r1 e1,rd_ok wd r2 e2,h,k s _ (Le.refl _) wd .bl⟩
theorem om_or {f:Value→Value→Sem Value} {g g':W→W→Option W} (h:OpM P f g) (h':OpM P f g'):OpM P f (fun x y=>(g x y).or (g' x y)):=by
 obtain⟨r,o,p⟩:=h
 obtain⟨r',o',p'⟩:=h'
 refine⟨fun x y H Q=>r x y H Q∨r' x y H Q,fun pins s σ H x y v u Q I rx ry q=>?_,fun B s st w1 w2 w v1 v2 Q wd r1 r2 e k=>?_⟩
 ·rcases q with q | q
  ·exact o pins s σ H x y v u Q I rx ry q
  ·exact o' pins s σ H x y v u Q I rx ry q
 ·have e:(g w1 w2).or (g' w1 w2)=some w:=e
  cases q:g w1 w2 with
  | some w'=>
   rw[q] at e
   have e:some w'=some w:=e
   cases e
   exact .inl (p B s st w1 w2 _ v1 v2 Q wd r1 r2 q k)
  | none=>
   rw[q] at e
   have e:g' w1 w2=some w:=e
   exact .inr (p' B s st w1 w2 w v1 v2 Q wd r1 r2 e k)
def eqsF (neg:Bool) (x y:W):Option W:=(eqF neg x y).or (sameF neg x y)
theorem om_eqs (hu:P.X.A.units+80<cLine):OpM P (compareOp .Eq) (eqsF false):=om_or (om_eq (by omega)) (om_same hu)
theorem om_nes (hu:P.X.A.units+80<cLine):OpM P (compareOp .NotEq) (eqsF true):=om_or (om_ne (by omega)) (om_sameN hu)
end
end M3
namespace M3
open PySem PySem.Spec PyProof.Rows L2 PySem.W PySem.Calls
end M3
namespace M3
open PySem PySem.Spec PyProof.Rows L2 PySem.W PySem.Calls
end M3
namespace M3
open PySem PySem.Spec PyProof.Rows L2 PySem.W PySem.Calls
end M3
namespace M3
open PySem PySem.Spec PyProof.Rows L2 PySem.W PySem.Calls
end M3
namespace M3
open PySem PySem.Spec PyProof.Rows L2 PySem.W PySem.Calls
end M3
namespace M3
open PySem PySem.Spec PyProof.Rows L2 PySem.W PySem.Calls
theorem Wd.dead {G:G3} {B:Addr→Prop} {st:Store} {s:S3} (w:Wd G B st s) (C:Addr):Wd G B (st++[.dead]) ⟨ioNew s.io st.length C,s.F,s.H⟩∧Le B s ⟨ioNew s.io st.length C,s.F,s.H⟩∧ioNew s.io st.length C st.length=some C:=by
 have hio:IoLe s.io (ioNew s.io st.length C):=fun k a e=>by
  have:=w.dom k a e
  unfold ioNew
  rw[if_neg (by omega)]
  exact e
 have old:∀{k:Nat} {o:MO},(st++[MO.dead])[k]?=some o→o.tr=true→k<st.length∧st[k]?=some o:=fun {k o} e t=>by
  rcases Nat.lt_trichotomy k st.length with q | q | q
  ·rw[List.getElem?_append_left q] at e
   exact⟨q,e⟩
  ·subst q
   rw[List.getElem?_append_right (Nat.le_refl _),Nat.sub_self] at e
   cases e
   cases t
  ·rw[List.getElem?_eq_none (by simp;omega)] at e
   cases e
 have ioo:∀{k:Nat},k<st.length→ioNew s.io st.length C k=s.io k:=fun {k} h=>by
  unfold ioNew
  rw[if_neg (by omega)]
 refine⟨⟨w.sub,w.hid,w.ftb,fun k a e=>?_,fun j k a oj ok e1 e2 q1 t1 q2 t2=>?_,fun k o e t=>?_,fun k o e t=>?_,w.tabM (Same.refl _) fun P ps e=>e⟩,⟨hio,Same.refl _,fun _ _=>rfl⟩,if_pos rfl⟩
 ·rw[List.length_append]
  have e:(if k=st.length then some C else s.io k)=some a:=e
  by_cases q:k=st.length
  ·rw[q];simp
  ·rw[if_neg q] at e
   have:=w.dom k a e
   simp;omega
 ·obtain⟨l1,q1⟩:=old q1 t1
  obtain⟨l2,q2⟩:=old q2 t2
  have e1:s.io j=some a:=(ioo l1).symm.trans e1
  have e2:s.io k=some a:=(ioo l2).symm.trans e2
  exact w.inj j k a oj ok e1 e2 q1 t1 q2 t2
 ·obtain⟨l1,q1⟩:=old e t
  obtain⟨a,h1,h2,h3,h4⟩:=w.obj k o q1 t
  exact⟨a,hio k a h1,h2,h3,ObjR.mono (s':=⟨ioNew s.io st.length C,s.F,s.H⟩) hio (Same.refl _) rfl h4⟩
 ·rcases Nat.lt_trichotomy k st.length with q | q | q
  ·rw[List.getElem?_append_left q] at e
   exact w.untM (s':=⟨ioNew s.io st.length C,s.F,s.H⟩) hio (Same.refl _) k o e t
  ·subst q
   rw[List.getElem?_append_right (Nat.le_refl _),Nat.sub_self] at e
   cases e
   exact⟨C,if_pos rfl,True.intro⟩
  ·rw[List.getElem?_eq_none (by simp;omega)] at e
   cases e
end M3
namespace M3
open PySem PySem.Spec PyProof.Rows L2 PySem.W PySem.Calls
def eLike (n:Nat) (ml:D→List D→M D) (ma mk:AM):EM:=fun u=>M.bind (ma u) fun ws=>M.bind (mk u) fun zs=>M.bind (M.of (asDs ws)) fun ds=>M.bind (M.of (asDs zs)) fun es=>match ds with
 | [d]=>M.bind (M.chk (es.length=n)) fun _=>M.bind (ml d es) fun d2=>M.pure (.val d2)
 | _=>M.bad
end M3
namespace M3
open PySem PySem.Spec PyProof.Rows L2
end M3
namespace M3
open PySem PySem.Spec PyProof.Rows L2
end M3
namespace M3
open PySem PySem.Spec PyProof.Rows L2
end M3
namespace M3
open PySem PySem.Spec PyProof.Rows L2
abbrev LK (od:Obj) (u:HO):HO:=.frz od (.frz od u)
section
variable {X:Cx} {pins:List (Addr×Obj)} {σ:L2.St} {H:Hp} {s:Shared} {d:Addr} {u:HO}
theorem lockL (I:Inv X pins σ H s) (h:H d=some u) (mu:Mut (some u)):∃od,Inv X pins σ (upd H d (LK od u)) s:=by
 obtain⟨od,J⟩:=I.lock h mu
 have here:s.heap.get? d=some od:=(J.hok d _ upd_same).1
 have plain:=I.hok d u h
 have far:∀b v,H b=some v→¬Mut (some v)→b≠d:=fun b v e n q=>n (by rw[q,h] at e;cases e;exact mu)
 refine⟨od,I.write (x:=d) (e:=d) (t':=s.toks) (h':=s.heap) (by rw[h];exact mu) (.inl rfl) (fun _ _ _ q=>q) ⟨od,here⟩ ⟨here,here,plain.stay (fun _ _ _ q=>q) (fun b q=>?_) fun b xs q=>?_⟩⟩
 ·rw[upd_ne (far b _ q fun z=>z)];exact q
 ·rw[upd_ne (far b _ q fun z=>z)];exact q
theorem unlockL {od:Obj} (I:Inv X pins σ H s) (h:H d=some (LK od u)) (n:∀o v,X.H_0 d≠some (.frz o v)):Inv X pins σ (upd H d u) s:=by
 have J:=I.unlock h n
 have K:=J.unlock upd_same n
 rwa [upd_upd] at K
end
def tLockL (t:TS):TS:=fun D σ H=>∃d u,H d=some u∧Mut (some u)∧∀od,
 t { nx:=fun z K=>K d=some (LK od u)∧D.nx z (upd K d u),rt:=fun v K=>K d=some (LK od u)∧D.rt v (upd K d u),bk:=fun z K=>K d=some (LK od u)∧D.bk z (upd K d u),ct:=fun z K=>K d=some (LK od u)∧D.ct z (upd K d u) } σ (upd H d (LK od u))
def tLockLE (t:TE):TE:=fun σ H Q=>∃d u,H d=some u∧Mut (some u)∧∀od,t σ (upd H d (LK od u)) fun v K=>K d=some (LK od u)∧Q v (upd K d u)
section
variable {X:Cx}
theorem ps_lockL {st:Stmt} {t:TS} (h:PS X st t):PS X st (tLockL t):=by
 constructor
 rintro pins s σ H D I ⟨d,u,hd,mu,hw⟩
 obtain⟨od,J⟩:=lockL I hd mu
 have n:=I.nofrz hd mu
 refine thn (h.run pins s σ _ _ J (hw od)) fun f s1 q=>?_
 cases f with
 | ret v=>obtain⟨x,z,K,I2,r,e,q⟩:=q;exact⟨x,z,_,unlockL I2 e n,r,q⟩
 | _=>obtain⟨z,K,I2,e,q⟩:=q;exact⟨z,_,unlockL I2 e n,q⟩
theorem pe_lockL {e:Expr} {t:TE} (h:PE X e t):PE X e (tLockLE t):=by
 constructor
 rintro pins s σ H Q I ⟨d,u,hd,mu,hw⟩
 obtain⟨od,J⟩:=lockL I hd mu
 exact thn (h.run pins s σ _ _ J (hw od)) fun v s1 ⟨x,K,I2,r,e2,q⟩=>⟨x,_,unlockL I2 e2 (I.nofrz hd mu),r,q⟩
end
def offF (F:Hp) (a:Addr):Hp:=fun b=>if b=a then none else F b
theorem offF_ne {F:Hp} {a b:Addr} (h:b≠a):offF F a b=F b:=if_neg h
theorem offF_self {F:Hp} {a:Addr}:offF F a a=none:=if_pos rfl
def NoFz (K:KW):Prop:=∀c Fn,K.nf c Fn→∀p,(∀o u,Fn.ob p≠HO.frz o u)∧∀vs,Fn.ob p≠HO.lst vs
section
variable {K:KW} {F:Hp} {io:Io} {a:Addr} {od:Obj} {u:HO}
theorem off_ne (h:F a=some (LK od u)) {p:Addr} {o:HO} (e:F p=some o) (n:o≠LK od u):p≠a:=fun z=>by
 rw[z,h] at e
 cases e
 exact n rfl
mutual
theorem Rep.off (nz:NoFz K) (h:F a=some (LK od u)):∀{d:D} {v:V},Rep K F io d v→Rep K (offF F a) io d v
 | _,_,.non=>.non
 | _,_,.bl=>.bl
 | _,_,.int=>.int
 | _,_,.str=>.str
 | _,_,.ty=>.ty
 | _,_,.tup s r=>by
  obtain⟨o,e,q⟩:=s
  exact .tup ⟨o,by rw[offF_ne (off_ne h e (fun z=>by cases z))];exact e,q⟩ (RepL.off nz h r)
 | _,_,.ctup s r=>by
  refine .ctup ?_ (RepL.off nz h r)
  rcases s with (e | ⟨o,e⟩) | e
  ·exact .inl (.inl (by rw[offF_ne (off_ne h e (fun z=>by cases z))];exact e))
  ·exact .inl (.inr ⟨o,by rw[offF_ne (off_ne h e (fun z=>by cases z))];exact e⟩)
  ·exact .inr e
 | _,_,.lst e r=>.lst (by rw[offF_ne (off_ne h e (fun z=>by cases z))];exact e) (RepL.off nz h r)
 | _,_,.ro s r=>by
  refine .ro ?_ (RepL.off nz h r)
  rcases s with (e | ⟨o,e⟩) | e
  ·exact .inl (.inl (by rw[offF_ne (off_ne h e (fun z=>by cases z))];exact e))
  ·exact .inl (.inr ⟨o,by rw[offF_ne (off_ne h e (fun z=>by cases z))];exact e⟩)
  ·exact .inr e
 | _,_,.dict e q r=>.dict (by rw[offF_ne (off_ne h e (fun z=>by cases z))];exact e) q (RepL.off nz h r)
 | _,_,.dd e k t vs r=>.dd (by rw[offF_ne (off_ne h e (fun z=>by unfold DkO at z;cases z))];exact e) (RepL.off nz h k) t vs (RepL.off nz h r)
 | _,_,.ref e=>.ref e
 | _,_,.fn e n q l d=>.fn (by rw[offF_ne (off_ne h e ((nz _ _ n _).1 _ _))];exact e) n (by rw[offF_ne (off_ne h q (fun z=>by unfold LamX.CodeO at z;cases z))];exact q) l d
theorem RepL.off (nz:NoFz K) (h:F a=some (LK od u)):∀{d:List D} {v:List V},RepL K F io d v→RepL K (offF F a) io d v
 | _,_,.nil=>.nil
 | _,_,.cons r t=>.cons (Rep.off nz h r) (RepL.off nz h t)
end
theorem FsR.off (nz:NoFz K) (h:F a=some (LK od u)):∀{fs:List (Str×D)} {gs:List (Str×V)},FsR K F io fs gs→FsR K (offF F a) io fs gs
 | _,_,.nil=>.nil
 | _,_,.cons r t=>.cons (r.off nz h) (FsR.off nz h t)
theorem DkR.off (nz:NoFz K) (h:F a=some (LK od u)) {ks us:List D} {xs:DkX} (r:DkR K F io ks us xs):DkR K (offF F a) io ks us xs:=
 ⟨r.keys.off nz h,r.tk,let ⟨vs,v,q⟩:=r.vals;⟨vs,v,q.off nz h⟩⟩
end
def MO.keepL (o':Option MO):MO→MO
 | .rdd ks us=>match o' with
  | some (.rdd ks us)=>.rdd ks us
  | _=>.dead
 | o=>o
def fixL:Store→Store→Store
 | _,[]=>[]
 | [],o :: st'=>o.keepL none :: fixL [] st'
 | p :: st,o :: st'=>o.keepL (some p) :: fixL st st'
theorem fixL_get:∀(st st':Store) (j:Nat),(fixL st st')[j]?=(st'[j]?).map fun o=>o.keepL st[j]?
 | _,[],j=>by simp[fixL]
 | [],o :: st',0=>by simp[fixL]
 | [],o :: st',j+1=>by simpa[fixL] using fixL_get [] st' j
 | p :: st,o :: st',0=>by simp[fixL]
 | p :: st,o :: st',j+1=>by simpa[fixL] using fixL_get st st' j
theorem fixL_len (st st':Store):(fixL st st').length=st'.length:=by
 have h:∀j,(fixL st st')[j]?=none↔st'[j]?=none:=fun j=>by rw[fixL_get,Option.map_eq_none_iff]
 have h1:=(h st'.length).mpr (List.getElem?_eq_none (Nat.le_refl _))
 have h2:=(h (fixL st st').length).mp (List.getElem?_eq_none (Nat.le_refl _))
 rw[List.getElem?_eq_none_iff] at h1 h2
 omega
theorem keepL_tr {o:MO} {p:Option MO} (t:(o.keepL p).tr=true):o.keepL p=o∧o.tr=true:=by
 cases o with
 | rdd ks us=>
  unfold MO.keepL at t
  dsimp only at t
  split at t <;> cases t
 | _=>exact⟨rfl,t⟩
section
variable {G:G3} {B:Addr→Prop} {st st':Store} {s s':S3} {k:Nat} {ks us:List D}
theorem ObjR.off {a b:Addr} {od:Obj} {v:HO} {o:MO} {H':Hp} (nz:NoFz G.R) (h:s.F a=some (LK od v)) (e:H' b=s.H b) (x:ObjR G s b o):ObjR G ⟨s.io,offF s.F a,H'⟩ b o:=by
 cases o with
 | lst xs=>obtain⟨vs,q,r⟩:=x;exact⟨vs,e.trans q,r.off nz h⟩
 | dic ks us=>obtain⟨vs,q,q2,r⟩:=x;exact⟨vs,e.trans q,q2,r.off nz h⟩
 | ddi ks us=>obtain⟨vs,q,r⟩:=x;exact⟨vs,e.trans q,r.off nz h⟩
 | ins c fs=>obtain⟨C,dx,gs,q0,q,r⟩:=x;exact⟨C,dx,gs,q0,e.trans q,r.off nz h⟩
 | cell d=>obtain⟨v,q,r⟩:=x;exact⟨v,e.trans q,r.off nz h⟩
 | _=>exact x.elim
theorem Wd.lockL (w:Wd G B st s) (ek:st[k]?=some (.ddi ks us)):∃a xs,s.io k=some a∧s.F a=none∧s.H a=some (DkO G.w a xs)∧
  ∀od,Wd G B (st.set k (.rdd ks us)) ⟨s.io,upd s.F a (LK od (DkO G.w a xs)),upd s.H a (LK od (DkO G.w a xs))⟩∧Le B s ⟨s.io,upd s.F a (LK od (DkO G.w a xs)),upd s.H a (LK od (DkO G.w a xs))⟩:=by
 obtain⟨a,eio,nb,hF,xs,eh,dr⟩:=w.obj k _ ek rfl
 refine⟨a,xs,eio,hF,eh,fun od=>?_⟩
 have nB:∀b,B b→b≠a:=fun b q z=>nb (z▸q)
 have fr:=same_upd (o:=LK od (DkO G.w a xs)) hF
 have other:∀{j:Nat} {o:MO},(st.set k (.rdd ks us))[j]?=some o→o.tr=true→j≠k∧st[j]?=some o:=fun {j o} e t=>by
  by_cases q:k=j
  ·subst q
   rw[List.getElem?_set_self (w.dom k a eio)] at e
   cases e
   cases t
  ·rw[List.getElem?_set_ne q] at e
   exact⟨fun z=>q z.symm,e⟩
 refine⟨⟨fun b o e=>?_,fun b q=>?_,fun b o e=>?_,fun j b e=>by rw[List.length_set];exact w.dom j b e,fun i j b oi oj e1 e2 q1 t1 q2 t2=>w.inj i j b oi oj e1 e2 (other q1 t1).2 t1 (other q2 t2).2 t2,fun j o e t=>?_,fun j o e t=>?_,w.tabM fr (upd_tbl fun ps z=>by rw[eh] at z;cases z)⟩,IoLe.refl _,fr,fun b q=>upd_ne (nB b q)⟩
 ·show upd s.H a _ b=some o
  have e:upd s.F a _ b=some o:=e
  by_cases z:b=a
  ·subst z;rw[upd_same] at e⊢;exact e
  ·rw[upd_ne z] at e⊢;exact w.sub b o e
 ·obtain⟨h1,o,h2,h3⟩:=w.hid b q
  exact⟨by show upd s.F a _ b=none;rw[upd_ne (nB b q)];exact h1,o,by show upd s.H a _ b=some o;rw[upd_ne (nB b q)];exact h2,h3⟩
 ·have e:upd s.F a _ b=some o:=e
  by_cases z:b=a
  ·subst z;rw[upd_same] at e;cases e;exact fun _ q=>by cases q
  ·rw[upd_ne z] at e;exact w.ftb b o e
 ·obtain⟨ne,ej⟩:=other e t
  obtain⟨b,e1,b1,f1,o1⟩:=w.obj j o ej t
  have na:b≠a:=fun z=>ne (w.inj j k a _ _ (z▸e1) eio ej t ek rfl)
  exact⟨b,e1,b1,by show upd s.F a _ b=none;rw[upd_ne na];exact f1,ObjR.mono (s:=s) (s':=⟨s.io,upd s.F a _,upd s.H a _⟩) (IoLe.refl _) fr (upd_ne na) o1⟩
 ·by_cases q:k=j
  ·subst q
   rw[List.getElem?_set_self (w.dom k a eio)] at e
   cases e
   exact⟨a,eio,od,xs,upd_same,dr.mono fr (IoLe.refl _)⟩
  ·rw[List.getElem?_set_ne q] at e
   exact w.untM (s':=⟨s.io,upd s.F a _,upd s.H a _⟩) (IoLe.refl _) fr j o e t
theorem Wd.unlockL {B':Addr→Prop} {a:Addr} {od:Obj} {xs:DkX} (nz:NoFz G.R) (w:Wd G B st s) (hF:s.F a=none) (io:IoLe s.io s'.io) (fr:Same s.F s'.F) (w':Wd G B' st' s') (eio:s'.io k=some a) (hF':s'.F a=some (LK od (DkO G.w a xs)))
  (ek:st'[k]?=some (.rdd ks us)):Wd G B' ((fixL st st').set k (.ddi ks us)) ⟨s'.io,offF s'.F a,upd s'.H a (DkO G.w a xs)⟩:=by
 have nB:∀b,B' b→b≠a:=fun b q z=>by
  have:=(w'.hid b q).1
  rw[z,hF'] at this
  cases this
 have lk:k<(fixL st st').length:=by rw[fixL_len];exact w'.dom k a eio
 have other:∀{j:Nat} {o:MO},j≠k→((fixL st st').set k (.ddi ks us))[j]?=some o→o.tr=true→st'[j]?=some o:=fun {j o} ne e t=>by
  rw[List.getElem?_set_ne (Ne.symm ne),fixL_get] at e
  obtain⟨o',e1,e2⟩:=Option.map_eq_some_iff.mp e
  subst e2
  rw[e1,(keepL_tr t).1]
 have far:∀{j:Nat} {o:MO} {b:Addr},st'[j]?=some o→o.tr=true→s'.io j=some b→b≠a:=fun {j o b} e t i z=>by
  obtain⟨c,e1,_,f1,_⟩:=w'.obj j o e t
  rw[i] at e1
  cases e1
  rw[z,hF'] at f1
  cases f1
 have ne:∀{b:Addr} {o:HO},s'.F b=some o→(∀q v,o≠LK q v)→b≠a:=fun {b o} e n=>off_ne hF' e (n _ _)
 refine⟨fun b o e=>?_,fun b q=>?_,fun b o e=>?_,fun j b e=>by rw[List.length_set,fixL_len];exact w'.dom j b e,fun i j b oi oj e1 e2 q1 t1 q2 t2=>?_,fun j o e t=>?_,fun j o e t=>?_,fun p hp=>?_⟩
 ·have e:offF s'.F a b=some o:=e
  show upd s'.H a _ b=some o
  by_cases z:b=a
  ·subst z;rw[offF_self] at e;cases e
  ·rw[offF_ne z] at e;rw[upd_ne z];exact w'.sub b o e
 ·obtain⟨h1,o,h2,h3⟩:=w'.hid b q
  exact⟨by show offF s'.F a b=none;rw[offF_ne (nB b q)];exact h1,o,by show upd s'.H a _ b=some o;rw[upd_ne (nB b q)];exact h2,h3⟩
 ·have e:offF s'.F a b=some o:=e
  by_cases z:b=a
  ·subst z;rw[offF_self] at e;cases e
  ·rw[offF_ne z] at e;exact w'.ftb b o e
 ·by_cases z1:i=k <;> by_cases z2:j=k
  ·rw[z1,z2]
  ·subst z1
   have e1:s'.io i=some b:=e1
   rw[eio] at e1
   cases e1
   exact absurd rfl (far (other z2 q2 t2) t2 e2)
  ·subst z2
   have e2:s'.io j=some b:=e2
   rw[eio] at e2
   cases e2
   exact absurd rfl (far (other z1 q1 t1) t1 e1)
  ·exact w'.inj i j b oi oj e1 e2 (other z1 q1 t1) t1 (other z2 q2 t2) t2
 ·by_cases z:j=k
  ·subst z
   rw[List.getElem?_set_self lk] at e
   cases e
   obtain⟨a',e1,od2,ys,e2,dr⟩:=w'.unt j _ ek rfl
   rw[eio] at e1
   cases e1
   have e3:DkO G.w a xs=DkO G.w a ys:=by
    rw[hF'] at e2
    injection e2 with e2
    injection e2 with _ e2
    injection e2
   exact⟨a,eio,fun q=>nB a q rfl,offF_self,ys,by show upd s'.H a (DkO G.w a xs) a=_;rw[upd_same,e3],dr.off nz hF'⟩
  ·have ej:=other z e t
   obtain⟨b,e1,b1,f1,o1⟩:=w'.obj j o ej t
   have na:=far ej t e1
   exact⟨b,e1,b1,by show offF s'.F a b=none;rw[offF_ne na];exact f1,o1.off nz hF' (upd_ne na)⟩
 ·have z:j≠k:=fun z=>by
   subst z
   rw[List.getElem?_set_self lk] at e
   cases e
   cases t
  rw[List.getElem?_set_ne (Ne.symm z),fixL_get] at e
  obtain⟨o',e1,rfl⟩:=Option.map_eq_some_iff.mp e
  have there:∃b,s'.io j=some b:=by
   by_cases q:o'.tr=true
   ·obtain⟨b,i,_⟩:=w'.obj j o' e1 q;exact⟨b,i⟩
   ·obtain⟨b,i,_⟩:=w'.unt j o' e1 (by simpa using q);exact⟨b,i⟩
  cases o' with
  | rdd ks2 us2=>
   unfold MO.keepL
   dsimp only
   split
   ·rename_i ks3 us3 e3
    obtain⟨b,i,od2,ys,f,dr⟩:=w.unt j _ e3 rfl
    have nb:b≠a:=fun q=>by rw[q,hF] at f;cases f
    exact⟨b,io j b i,od2,ys,by show offF s'.F a b=_;rw[offF_ne nb];exact fr _ _ f,(dr.mono fr io).off nz hF'⟩
   ·obtain⟨b,i⟩:=there
    exact⟨b,i,True.intro⟩
  | kc d=>
   obtain⟨b,i,v,q,r,c,x⟩:=w'.unt j _ e1 rfl
   exact⟨b,i,v,q,r,c,x.off nz hF'⟩
  | slp n=>
   obtain⟨b,i,x⟩:=w'.unt j _ e1 rfl
   exact⟨b,i,x⟩
  | dead=>
   obtain⟨b,i⟩:=there
   exact⟨b,i,True.intro⟩
  | _=>cases t
 ·obtain⟨ps,e,t,r⟩:=w'.tabs p hp
  refine⟨ps,?_,t,fun pos cv q=>?_⟩
  ·show upd s'.H a _ p.1=_
   rw[upd_ne fun z=>?_]
   ·exact e
   ·have:=w'.sub a _ hF'
    rw[←z,e] at this
    cases this
  ·obtain⟨c,e1,e2⟩:=r pos cv q
   exact⟨c,e1,by show offF s'.F a c=_;rw[offF_ne (ne e2 fun _ _ z=>by unfold LamX.CodeO at z;cases z)];exact e2⟩
end
def unlO (st:Store) (k:Nat) (st':Store):Option Store:=match st'[k]? with
 | some (.rdd ks us)=>some ((fixL st st').set k (.ddi ks us))
 | _=>none
def unlS (st:Store) (k:Nat):SRes→SRes
 | .nx u st'=>(match unlO st k st' with
  | some st2=>.nx u st2
  | none=>.bad)
 | .rt w st'=>(match unlO st k st' with
  | some st2=>.rt w st2
  | none=>.bad)
 | .bk u st'=>(match unlO st k st' with
  | some st2=>.bk u st2
  | none=>.bad)
 | .ct u st'=>(match unlO st k st' with
  | some st2=>.ct u st2
  | none=>.bad)
 | _=>.bad
def unlR {α:Type} (st:Store) (k:Nat):Res α→Res α
 | .ok w st'=>(match unlO st k st' with
  | some st2=>.ok w st2
  | none=>.bad)
 | _=>.bad
def sLockS (sel:Sl3→Store→Option Nat) (m:SM):SM:=fun u st=>match sel u st with
 | some k=>(match st[k]? with
  | some (.ddi ks us)=>unlS st k (m u (st.set k (.rdd ks us)))
  | _=>.bad)
 | none=>.bad
def lockR {α:Type} (sel:Sl3→Store→Option Nat) (m:Sl3→M α):Sl3→M α:=fun u st=>match sel u st with
 | some k=>(match st[k]? with
  | some (.ddi ks us)=>unlR st k (m u (st.set k (.rdd ks us)))
  | _=>.bad)
 | none=>.bad
def selOf (m:EM):Sl3→Store→Option Nat:=fun u st=>match m u st with
 | .ok (.val (.ref k)) _=>some k
 | _=>none
theorem unlO_some {st st' st2:Store} {k:Nat} (e:unlO st k st'=some st2):∃ks us,st'[k]?=some (.rdd ks us)∧st2=(fixL st st').set k (.ddi ks us):=by
 unfold unlO at e
 split at e
 ·rename_i h;cases e;exact⟨_,_,h,rfl⟩
 ·cases e
section
variable {G:G3} {X:Hex} {B0 B B':Addr→Prop} {st st' st2:Store} {s s':S3} {k:Nat} {a:Addr} {od:Obj} {xs:DkX}
abbrev S3.off (s':S3) (a:Addr) (u:HO):S3:=⟨s'.io,offF s'.F a,upd s'.H a u⟩
theorem off_all (nz:NoFz G.R) (wd:Wd G B st s) (hF:s.F a=none) (eio:s.io k=some a) (l:Le B0 ⟨s.io,upd s.F a (LK od (DkO G.w a xs)),upd s.H a (LK od (DkO G.w a xs))⟩ s') (w':Wd G B' st' s') (b':∀b,B0 b→B' b) (e:unlO st k st'=some st2) :
  s'.H a=some (LK od (DkO G.w a xs))∧s'.F a=some (LK od (DkO G.w a xs))∧(∀b,B' b→b≠a)∧Wd G B' st2 (s'.off a (DkO G.w a xs))∧Le B0 s (s'.off a (DkO G.w a xs)):=by
 obtain⟨ks,us,ek,rfl⟩:=unlO_some e
 have hF':s'.F a=some (LK od (DkO G.w a xs)):=l.fr _ _ upd_same
 have fr:Same s.F s'.F:=(same_upd hF).trans l.fr
 have nB:∀b,B' b→b≠a:=fun b q z=>by
  have:=(w'.hid b q).1
  rw[z,hF'] at this
  cases this
 refine⟨w'.sub _ _ hF',hF',nB,wd.unlockL nz hF l.io fr w' (l.io _ _ eio) hF' ek,l.io,fun b o q=>?_,fun b q=>?_⟩
 ·show offF s'.F a b=some o
  rw[offF_ne fun z=>by rw[z,hF] at q;cases q]
  exact fr b o q
 ·show upd s'.H a _ b=s.H b
  have nb:=nB b (b' b q)
  rw[upd_ne nb,l.hid b q]
  exact upd_ne nb
theorem RepW.off (nz:NoFz G.R) (hF':s'.F a=some (LK od (DkO G.w a xs))) (nB:∀b,B' b→b≠a) {w:W} {v:V} (r:RepW G X B' s' w v):RepW G X B' (s'.off a (DkO G.w a xs)) w v:=by
 cases w with
 | val d=>exact Rep.off nz hF' r
 | bor ys=>obtain⟨p,vs,e,b,h,r⟩:=r;exact⟨p,vs,e,b,(upd_ne (nB p b)).trans h,r.off nz hF'⟩
 | bod ks us=>obtain⟨p,vs,e,b,h,e2,r⟩:=r;exact⟨p,vs,e,b,(upd_ne (nB p b)).trans h,e2,r.off nz hF'⟩
 | bdd ks us=>obtain⟨p,vs,e,b,h,r⟩:=r;exact⟨p,vs,e,b,(upd_ne (nB p b)).trans h,r.off nz hF'⟩
 | exn c x=>
  obtain⟨p,dd,e1,e2,xf⟩:=r
  refine⟨p,dd,e1,e2,fun C f h1 h2=>?_⟩
  obtain⟨d,fs,v,q1,q2,q3,q4⟩:=xf C f h1 h2
  exact⟨d,fs,v,q1,by show offF s'.F a d=_;rw[offF_ne (off_ne hF' q2 fun z=>by cases z)];exact q2,q3,q4.off nz hF'⟩
 | len ys=>obtain⟨p,vs,o,e,b,h,r⟩:=r;exact⟨p,vs,o,e,b,(upd_ne (nB p b)).trans h,r.off nz hF'⟩
theorem RepWs.off (nz:NoFz G.R) (hF':s'.F a=some (LK od (DkO G.w a xs))) (nB:∀b,B' b→b≠a):∀{ws:List W} {vs:List V},RepWs G X B' s' ws vs→RepWs G X B' (s'.off a (DkO G.w a xs)) ws vs
 | _,_,.nil=>.nil
 | _,_,.cons r t=>.cons (r.off nz hF' nB) (RepWs.off nz hF' nB t)
theorem Slo.off {u:Sl3} {z:L2.St} (nz:NoFz G.R) (hF':s'.F a=some (LK od (DkO G.w a xs))) (nB:∀b,B' b→b≠a) (h:Slo G X B0 B' s' u z):Slo G X B0 B' (s'.off a (DkO G.w a xs)) u z:=by
 obtain⟨hl,ow,h1,h2⟩:=h
 exact⟨hl,ow,fun i w e=>let ⟨v,e1,r,q⟩:=h1 i w e;⟨v,e1,r.off nz hF' nB,q⟩,h2⟩
end
section
variable {P:P3}
theorem ms_lockS {st:Stmt} {m:SM} (sel:Sl3→Store→Option Nat) (nz:NoFz P.G.R) (h:MS P st m):MS P st (sLockS sel m):=by
 obtain⟨t,pt,ht⟩:=h.out
 refine MS.mk' (ps_lockL pt) fun B0 B s o u z D b0 wd sl hp=>?_
 unfold sLockS at hp
 cases es:sel u o with
 | none=>rw[es] at hp;exact hp.elim
 | some k=>
  rw[es] at hp
  dsimp only at hp
  cases ek:o[k]? with
  | none=>rw[ek] at hp;exact hp.elim
  | some ob=>
   rw[ek] at hp
   cases ob with
   | ddi ks us=>
    obtain⟨a,xs,eio,hF,eh,lk⟩:=wd.lockL ek
    refine⟨a,_,eh,True.intro,fun od=>?_⟩
    obtain⟨w1,l1⟩:=lk od
    refine ht B0 B _ _ u z _ b0 w1 (sl.mono l1) ?_
    dsimp only at hp
    cases em:m u (o.set k (.rdd ks us)) with
    | nx u' st'=>
     rw[em] at hp
     unfold unlS at hp
     cases eu:unlO o k st' with
     | none=>simp only[eu] at hp;exact hp.elim
     | some st2=>
      simp only[eu] at hp
      intro B' s' z' b' l' w' sl'
      obtain⟨q1,q2,q3,q4,q5⟩:=off_all nz wd hF eio l' w' b' eu
      exact⟨q1,hp B' _ z' b' q5 q4 (sl'.off nz q2 q3)⟩
    | bk u' st'=>
     rw[em] at hp
     unfold unlS at hp
     cases eu:unlO o k st' with
     | none=>simp only[eu] at hp;exact hp.elim
     | some st2=>
      simp only[eu] at hp
      intro B' s' z' b' l' w' sl'
      obtain⟨q1,q2,q3,q4,q5⟩:=off_all nz wd hF eio l' w' b' eu
      exact⟨q1,hp B' _ z' b' q5 q4 (sl'.off nz q2 q3)⟩
    | ct u' st'=>
     rw[em] at hp
     unfold unlS at hp
     cases eu:unlO o k st' with
     | none=>simp only[eu] at hp;exact hp.elim
     | some st2=>
      simp only[eu] at hp
      intro B' s' z' b' l' w' sl'
      obtain⟨q1,q2,q3,q4,q5⟩:=off_all nz wd hF eio l' w' b' eu
      exact⟨q1,hp B' _ z' b' q5 q4 (sl'.off nz q2 q3)⟩
    | rt w st'=>
     rw[em] at hp
     unfold unlS at hp
     cases eu:unlO o k st' with
     | none=>simp only[eu] at hp;exact hp.elim
     | some st2=>
      simp only[eu] at hp
      intro B' s' v b' l' w' r
      obtain⟨q1,q2,q3,q4,q5⟩:=off_all nz wd hF eio l' w' b' eu
      refine⟨q1,hp B' _ v b' q5 q4 ?_⟩
      cases w with
      | val d=>exact Rep.off nz q2 r
      | bor ys=>obtain⟨p,vs,e,b,nb,h,r⟩:=r;exact⟨p,vs,e,b,nb,(upd_ne (q3 p b)).trans h,r.off nz q2⟩
      | bod ks us=>obtain⟨p,vs,e,b,nb,h,e2,r⟩:=r;exact⟨p,vs,e,b,nb,(upd_ne (q3 p b)).trans h,e2,r.off nz q2⟩
      | bdd ks us=>obtain⟨p,vs,e,b,nb,h,r⟩:=r;exact⟨p,vs,e,b,nb,(upd_ne (q3 p b)).trans h,r.off nz q2⟩
      | exn c x=>exact r.elim
      | len ys=>exact r.elim
    | err c x u' st'=>rw[em] at hp;exact hp.elim
    | bad=>rw[em] at hp;exact hp.elim
   | _=>exact hp.elim
theorem me_lockS {e:Expr} {m:EM} (sel:Sl3→Store→Option Nat) (nz:NoFz P.G.R) (h:ME P e m):ME P e (lockR sel m):=by
 obtain⟨t,pt,ht⟩:=h.out
 refine ME.mk' (pe_lockL pt) fun B0 B s o u z Q wd sl hp=>?_
 unfold lockR at hp
 cases es:sel u o with
 | none=>rw[es] at hp;exact hp.elim
 | some k=>
  rw[es] at hp
  dsimp only at hp
  cases ek:o[k]? with
  | none=>rw[ek] at hp;exact hp.elim
  | some ob=>
   rw[ek] at hp
   cases ob with
   | ddi ks us=>
    obtain⟨a,xs,eio,hF,eh,lk⟩:=wd.lockL ek
    refine⟨a,_,eh,True.intro,fun od=>?_⟩
    obtain⟨w1,l1⟩:=lk od
    refine ht B0 B _ _ u z _ w1 (sl.mono l1) ?_
    dsimp only at hp
    cases em:m u (o.set k (.rdd ks us)) with
    | ok w st'=>
     rw[em] at hp
     unfold unlR at hp
     cases eu:unlO o k st' with
     | none=>simp only[eu] at hp;exact hp.elim
     | some st2=>
      simp only[eu] at hp
      intro s' v l' w' r
      obtain⟨q1,q2,q3,q4,q5⟩:=off_all nz wd hF eio l' w' (fun _ q=>q) eu
      exact⟨q1,hp _ v q5 q4 (r.off nz q2 q3)⟩
    | err c x st'=>rw[em] at hp;exact hp.elim
    | bad=>rw[em] at hp;exact hp.elim
   | _=>exact hp.elim
def ItkL (w:World) (d:Addr) (o:Obj) (xs:DkX):It where
 go i H:=H d=some (LK o (DkO w d xs))∧i<xs.length
 yld i H x H':=H'=H∧∃y,xs[i]?=some y∧x=.ref y.2.1
 stop i H:=H d=some (LK o (DkO w d xs))∧xs.length≤i
theorem lkDD {X:Cx} {pins:List (Addr×Obj)} {σ:L2.St} {H:Hp} {s:Shared} {d:Addr} {o:Obj} {xs:DkX} (I:Inv X pins σ H s) (h:H d=some (LK o (DkO X.w d xs))) :
  (d == sysModules)=false∧s.heap.get? d=some o∧o.ExactDict∧∃(es:Array DictEntry) (ep:Nat),o.data=.dict es ep∧es.size=xs.length∧∀(i:Nat) (y:NestedKey×Addr×Value),xs[i]?=some y→∃en:DictEntry,es[i]?=some en∧en.key=.ref y.2.1:=by
 obtain⟨hd,_,⟨h1,h2,h3,o',es,ep,g1,g2,g3,g4⟩,_,_⟩:=I.hok d _ h
 rw[hd] at g1
 cases g1
 refine⟨h1,hd,g2,es,ep,g3,by rw[←Array.length_toList,g4,List.length_map],fun i y hy=>?_⟩
 exact⟨_,by rw[←Array.getElem?_toList,g4,List.getElem?_map,hy];rfl,rfl⟩
theorem turn_LK {P:Program} {w:World} {K:PySem.W.Frag} {tg:Expr} {d:Addr} {o:Obj} {es:Array DictEntry} {ep:Nat} {xs:DkX} (it:Addr) (hod:o.data=.dict es ep) :
  Turn P w K tg (ItkL w d o xs) [it] it (fun i h=>h.IsKeyIter it d i xs.length ep):=by
 have T:=turn_DD (P:=P) (w:=w) (K:=K) (tg:=tg) (d:=d) (xs:=xs) it hod
 refine⟨T.mem,T.obj,T.keep,?_,?_,T.self⟩
 ·intro X eP eW eK calm i pins now σ H E I fp st ⟨hd,hi⟩
  subst eP eW eK
  obtain⟨f0,f1,f2,f3,f4,f5⟩:=fp it List.mem_cons_self
  obtain⟨_,hg,_,es',ep',e1,e2,ent⟩:=lkDD I hd
  obtain⟨rfl,rfl⟩:=dict_ep hod e1
  have hy:xs[i]?=some xs[i]:=List.getElem?_eq_getElem hi
  obtain⟨en,h1,h2⟩:=ent i _ hy
  refine next_key_item st hg hod e2 h1 fun h' st' sb=>⟨en.key,rfl,?_⟩
  obtain⟨oi,q1,q2,q3⟩:=id st'
  refine go_of (s:={ now with heap:=h' }) q1 q2 q3 (by decide) ⟨.ref xs[i].2.1,H,I.turned (t':=now.toks) (fun b ob hb e=>(sb.2 b hb).trans e) f0 f1 f3 f4 f5,h2,⟨rfl,_,hy,rfl⟩,st',fun b hb=>(fp b hb).1⟩
 ·intro X eP eW eK calm i pins now σ H E I fp st ⟨hd,hi⟩
  subst eP eW eK
  obtain⟨f0,f1,f2,f3,f4,f5⟩:=fp it List.mem_cons_self
  obtain⟨_,hg,_,es',ep',e1,e2,ent⟩:=lkDD I hd
  obtain⟨rfl,rfl⟩:=dict_ep hod e1
  exact keyStop (calm.but I (fp it List.mem_cons_self)) st hg hod e2 hi fun h' eb=>⟨rfl,I.turned (t':=now.toks) (fun b ob hb e=>eb b ob hb e) f0 f1 f3 f4 f5⟩
def iKeysLr (w:World) (td:TE):TI:=fun σ H R=>td σ H fun x H1=>∃d o xs,x=.ref d∧H1 d=some (LK o (DkO w d xs))∧R (ItkL w d o xs) H1
theorem pi_keysL {X:Cx} {tg e:Expr} {td:TE} (he:PE X e td):PI X tg e (iKeysLr X.w td):=
 ⟨fun pins now σ H R inv wish=>thn (he.run pins now σ H _ inv wish) fun v mid ⟨x,H1,J,rx,d,o,xs,ex,hd,q⟩=>by
  subst ex
  cases (show v=Value.ref d from rx)
  obtain⟨h1,hg,hx,es,ep,e1,e2,ent⟩:=lkDD J hd
  exact iter_keys h1 hg hx e1 (pi_one (tk:=mid.toks) J _ (turn_LK _ e1) ⟨_,Heap.get?_push_size _ rfl,rfl,by rw[e2];rfl⟩ q)⟩
def iKeysS (m:EM):FM:=fun u=>M.bind (m u) fun w=>fun st=>match w with
 | .val (.ref k)=>(match st[k]? with
  | some (.rdd ks _)=>.ok ks st
  | _=>.bad)
 | _=>.bad
theorem mi_keysS {tg e:Expr} {m:EM} (he:ME P e m):MI P tg e (iKeysS m):=by
 obtain⟨t,pt,ht⟩:=he.out
 refine MI.mk' (pi_keysL pt) fun B0 B s st u z R wd sl h=>ht B0 B s st u z _ wd sl (Post.bind h fun w st1 s1 v l1 wd1 r1 h1=>?_)
 cases w with
 | val d=>
  cases d with
  | ref k=>
   dsimp only at h1
   cases ek:st1[k]? with
   | none=>rw[ek] at h1;exact h1.elim
   | some ob=>
    rw[ek] at h1
    cases ob with
    | rdd ks us=>
     cases r1 with
     | ref eio=>
      obtain⟨a,e1,od,xs,hF,dr⟩:=wd1.unt _ _ ek rfl
      rw[eio] at e1
      cases e1
      refine⟨_,od,xs,rfl,by rw[P.hw];exact wd1.sub _ _ hF,h1 s1 _ (Le.refl _) wd1 ?_⟩
      have ln:ks.length=xs.length:=(dd_len dr).1
      refine⟨fun s' io ff sb i hi=>⟨by rw[P.hw];exact sb _ _ (ff _ _ hF),by omega⟩,?_,fun s' io ff sb i hi=>⟨by rw[P.hw];exact sb _ _ (ff _ _ hF),by omega⟩⟩
      rintro s' io ff sb i x H' hi ⟨rfl,y,hy,rfl⟩
      obtain⟨d,e1,e2⟩:=dr.keys.get' (i:=i) (v:=.ref y.2.1) (by rw[List.getElem?_map,hy];rfl)
      exact⟨rfl,d,e1,e2.mono ff io⟩
    | _=>exact h1.elim
  | _=>exact h1.elim
 | _=>exact h1.elim
end
end M3
namespace M3
open PySem PySem.Spec PyProof.Rows L2
theorem Wd.shareO {G:G3} {B:Addr→Prop} {s:S3} {st:Store} {p:Addr} {ob:MO} (w:Wd G (plus B p) st s) (nb:¬B p) (x:ObjR G s p ob) :
  Wd G B (st++[ob]) ⟨ioNew s.io st.length p,s.F,s.H⟩∧IoLe s.io (ioNew s.io st.length p)∧ioNew s.io st.length p st.length=some p:=by
 have hF:=(w.hid p (.inr rfl)).1
 have grow:IoLe s.io (ioNew s.io st.length p):=fun k a e=>by
  have lt:=w.dom k a e
  show (if k=st.length then some p else s.io k)=some a
  rw[if_neg (by omega)]
  exact e
 have far:∀{k:Nat} {a:Addr} {o:MO},s.io k=some a→st[k]?=some o→o.tr=true→a≠p:=fun {k a o} e eo t q=>by
  obtain⟨b,e2,nb2,_⟩:=w.obj k o eo t
  rw[e] at e2
  cases e2
  exact nb2 (.inr q)
 have split:∀{k:Nat} {o:MO},(st++[ob])[k]?=some o→(k<st.length∧st[k]?=some o)∨(k=st.length∧o=ob):=fun {k o} e=>by
  by_cases q:k<st.length
  ·rw[List.getElem?_append_left q] at e;exact .inl ⟨q,e⟩
  ·rw[List.getElem?_append_right (by omega)] at e
   cases z:k - st.length with
   | zero=>rw[z] at e;exact .inr ⟨by omega,(Option.some.inj e).symm⟩
   | succ n=>rw[z] at e;simp at e
 have at_:∀{k:Nat} {a:Addr},ioNew s.io st.length p k=some a→(k=st.length∧a=p)∨(k≠st.length∧s.io k=some a):=fun {k a} e=>by
  have e:(if k=st.length then some p else s.io k)=some a:=e
  split at e
  ·rename_i q;cases e;exact .inl ⟨q,rfl⟩
  ·rename_i q;exact .inr ⟨q,e⟩
 refine⟨⟨w.sub,fun a b=>w.hid a (.inl b),w.ftb,fun k a e=>?_,fun j k a oj ok e1 e2 q1 t1 q2 t2=>?_,fun k o e t=>?_,fun k o e t=>?_,w.tabM (Same.refl _) fun _ _ e=>e⟩,grow,if_pos rfl⟩
 ·rw[List.length_append]
  rcases at_ e with⟨q,_⟩ | ⟨_,q⟩
  ·simp;omega
  ·have:=w.dom k a q;omega
 ·rcases split q1 with⟨l1,q1⟩ | ⟨l1,q1⟩ <;> rcases split q2 with⟨l2,q2⟩ | ⟨l2,q2⟩
  ·rcases at_ e1 with⟨z,_⟩ | ⟨_,e1⟩
   ·omega
   ·rcases at_ e2 with⟨z,_⟩ | ⟨_,e2⟩
    ·omega
    ·exact w.inj j k a _ _ e1 e2 q1 t1 q2 t2
  ·rcases at_ e1 with⟨z,_⟩ | ⟨_,e1⟩
   ·omega
   ·rcases at_ e2 with⟨_,z⟩ | ⟨z,_⟩
    ·exact absurd z (far e1 q1 t1)
    ·exact absurd l2 z
  ·rcases at_ e2 with⟨z,_⟩ | ⟨_,e2⟩
   ·omega
   ·rcases at_ e1 with⟨_,z⟩ | ⟨z,_⟩
    ·exact absurd z (far e2 q2 t2)
    ·exact absurd l1 z
  ·omega
 ·rcases split e with⟨l,e⟩ | ⟨l,rfl⟩
  ·obtain⟨a,e1,b1,f1,o1⟩:=w.obj k o e t
   exact⟨a,grow k a e1,fun z=>b1 (.inl z),f1,ObjR.mono (s:=s) (s':=⟨ioNew s.io st.length p,s.F,s.H⟩) grow (Same.refl _) rfl o1⟩
  ·subst l
   exact⟨p,if_pos rfl,nb,hF,ObjR.mono (s:=s) (s':=⟨ioNew s.io st.length p,s.F,s.H⟩) grow (Same.refl _) rfl x⟩
 ·rcases split e with⟨l,e⟩ | ⟨l,rfl⟩
  ·exact w.untM (s':=⟨ioNew s.io st.length p,s.F,s.H⟩) grow (Same.refl _) k o e t
  ·rw[x.tr] at t;cases t
def sShareDD (i:Nat):SM:=fun u st=>match u[i]? with
 | some (some (.bdd ks us))=>.nx (u.set i (some (.val (.ref st.length)))) (st++[.ddi ks us])
 | _=>.bad
theorem Slo.shareDD {G:G3} {X:Hex} {B0 B:Addr→Prop} {s:S3} {u:Sl3} {z:L2.St} {i:Nat} {ks us:List D} {st:Store} (h:Slo G X B0 B s u z) (b0:∀a,B0 a→B a) (wd:Wd G B st s) (e:u[i]?=some (some (.bdd ks us))) :
  ∃(B':Addr→Prop) (s':S3),s'.H=s.H∧(∀a,B0 a→B' a)∧Le B0 s s'∧Wd G B' (st++[.ddi ks us]) s'∧Slo G X B0 B' s' (u.set i (some (.val (.ref st.length)))) z:=by
 obtain⟨hl,ow,h1,h2⟩:=h
 obtain⟨v,e1,⟨p,xs,rfl,bp,hp,dr⟩,q⟩:=h1 i _ e
 obtain⟨e3,nb⟩:=q rfl
 injection e3 with e3
 subst e3
 have wd':Wd G (plus (fun a=>B a∧a≠ow i) (ow i)) st s:=wd.less fun a z=>z.elim (fun z=>z.1) fun z=>z▸bp
 obtain⟨wn,gr,at_⟩:=wd'.shareO (ob:=.ddi ks us) (fun z=>z.2 rfl) ⟨xs,hp,dr⟩
 refine⟨fun a=>B a∧a≠ow i,⟨ioNew s.io st.length (ow i),s.F,s.H⟩,rfl,fun a q=>⟨b0 a q,fun z=>nb (z▸q)⟩,⟨gr,Same.refl _,fun _ _=>rfl⟩,wn,by simpa using hl,ow,fun j w ej=>?_,fun j k w w' o1 o2 q1 q2 q3=>?_⟩
 ·rcases get_set ej with⟨rfl,rfl⟩ | ⟨ne,ej⟩
  ·exact⟨.ref (ow i),e1,Rep.ref at_,fun q'=>by cases q'⟩
  ·obtain⟨v,ev,rv,qv⟩:=h1 j w ej
   refine⟨v,ev,?_,qv⟩
   have away:w.own=true→∀p',v=.ref p'→p'≠ow i:=fun o' p' e' z=>by
    obtain⟨e4,_⟩:=qv o'
    rw[e'] at e4
    injection e4 with e4
    exact ne (h2 i j (.bdd ks us) w rfl o' e ej (by rw[←e4,z]))
   cases w with
   | val d=>exact Rep.mono (Same.refl _) gr rv
   | exn c x=>
    obtain⟨ax,dd,x1,x2,xf⟩:=rv
    exact⟨ax,dd,x1,x2,xf.mono gr (Same.refl _)⟩
   | bor xs'=>obtain⟨p',vs',rfl,b',hp',rl'⟩:=rv;exact⟨p',vs',rfl,⟨b',away rfl p' rfl⟩,hp',rl'.mono (Same.refl _) gr⟩
   | bod k2 u2=>obtain⟨p',vs',rfl,b',hp',e',rl'⟩:=rv;exact⟨p',vs',rfl,⟨b',away rfl p' rfl⟩,hp',e',rl'.mono (Same.refl _) gr⟩
   | bdd k2 u2=>obtain⟨p',vs',rfl,b',hp',rl'⟩:=rv;exact⟨p',vs',rfl,⟨b',away rfl p' rfl⟩,hp',rl'.mono (Same.refl _) gr⟩
   | len ys=>obtain⟨p',vs',o,rfl,b',hp',rl'⟩:=rv;exact⟨p',vs',o,rfl,⟨b',fun z=>by subst z;rw[hp] at hp';unfold DkO at hp';cases hp'⟩,hp',rl'.mono (Same.refl _) gr⟩
 ·rcases get_set q1 with⟨_,z⟩ | ⟨_,q1⟩
  ·subst z;cases o1
  ·rcases get_set q2 with⟨_,z⟩ | ⟨_,q2⟩
   ·subst z;cases o2
   ·exact h2 j k w w' o1 o2 q1 q2 q3
section
variable {P:P3} {pos:Pos}
theorem ms_shareDD {st:Stmt} {m:SM} (i:Nat) (h:MS P st m):MS P st (sSeq (sShareDD i) m):=by
 obtain⟨t,pt,ht⟩:=h.out
 refine MS.mk' pt fun B0 B s o u z D b0 wd sl h=>?_
 unfold sSeq sShareDD at h
 cases eu:u[i]? with
 | none=>rw[eu] at h;exact h.elim
 | some ow=>
  rw[eu] at h
  cases ow with
  | none=>exact h.elim
  | some w=>
   cases w with
   | bdd ks us=>
    obtain⟨B',s',eH,b',le,wd',sl'⟩:=sl.shareDD b0 wd eu
    rw[←eH]
    exact ht B0 B' s' _ _ z D b' wd' sl' (PostS.mono le h)
   | _=>exact h.elim
end
def eIsDD (ma:AM):EM:=fun u=>M.bind (ma u) fun ws=>match ws with
 | [w,.val (.ty T)]=>M.bind (ddOf w) fun _=>M.bind (M.of (kitB "dict" T)) fun b=>M.pure (.val (.bl b))
 | _=>M.bad
@[simp] theorem run_eIsDD (ma:AM) {u:Sl3} {st:Store} {kw:Res W→Prop}:M3.run (eIsDD ma u st) kw=M3.run (ma u st) (kBind (fun ws=>match ws with
 | [w,.val (.ty T)]=>M.bind (ddOf w) fun _=>M.bind (M.of (kitB "dict" T)) fun b=>M.pure (.val (.bl b))
 | _=>M.bad) kw):=run_bind _ _
theorem run_sShareDD (i:Nat) {ks us:List D} {u:Sl3} {st:Store} {k:SRes→Prop} (h:u[i]?=some (some (.bdd ks us))):srun (sShareDD i u st) k=k (.nx (u.set i (some (.val (.ref st.length)))) (st++[.ddi ks us])):=by
 unfold srun sShareDD;rw[h]
def eClrDD (mo:EM):EM:=fun u=>M.bind (mo u) fun w=>M.bind (ddOw w) fun _=>fun st=>match w with
 | .val (.ref j)=>.ok (.val .non) (st.set j (.ddi [] []))
 | _=>.bad
section
variable {X:Cx}
theorem pe_clrDD {o:Expr} {apos cpos:Pos} {to:TE} (ho:PE X o to) (hbase:attributeBase o "clear" X.env (eval o X.env)=eval o X.env:=by rfl) (hline:(apos.endLine == cpos.line)=true:=by rfl) :
  PE X (.Call (.Attribute o "clear" apos) [] [] cpos) (fun σ H Q=>to σ H fun x H1=>∃a xs,x=.ref a∧H1 a=some (DkO X.w a xs)∧(∀x∈xs,KeyH H1 x.1 x.2.1)∧Q .non (upd H1 a (DkO X.w a []))):=by
 refine⟨fun pins s σ H Q I h=>wpAny_Call_method0_late hbase hline (thn (ho.run pins s σ H _ I h) fun v s1 ⟨x,H1,J,rx,a,xs,ex,ea,hk,q⟩=>?_)⟩
 subst ex
 obtain rfl:v=Value.ref a:=rx
 obtain⟨hd,few,dd⟩:=dkO_of J.hok (.inl ea) hk
 obtain⟨ob,es,ep,g1,g2,g3,g4,_,_⟩:=id dd
 have raw:s1.heap.DictRaw a es ep:=⟨ob,g1,g2,g3⟩
 have sz:es.size≤sizeLine:=by rw[←Array.length_toList,g4,List.length_map];exact few
 refine⟨"dict","dict.clear",PySem.F.plainAttrs_dict,PySem.F.slot_dict_clear,PySem.F.type_dict_clear,dd.typeIs,fun b q=>?_,Calls.callWith_builtin rfl (PySem.evalArgs_none ?_)⟩
 ·cases q
  exact⟨ob,g1,g2.2.1⟩
 ·refine call_meetsIn PySem.F.slot_dict_clear dd.typeIs PySem.F.entry_dict_clear (PySem.F.args_dict_clear_1 _) (meets_dict_clear_raw a) ⟨es,ep,raw,sz,fun h' hr' sb=>?_⟩
  obtain⟨o2,f1,f2,f3⟩:=hr'
  have new:h'.DictOfH (nestedKind X.prog X.w) a []:=⟨o2,#[],ep+1,f1,f2,f3,rfl,(fun _ hx=>nomatch hx),List.nodup_nil⟩
  exact⟨.non,_,d_write (t':=s1.toks) J (by rw[ea];exact True.intro) sb ⟨o2,f1⟩ (dkO_new hd (Nat.zero_le _) new),rfl,q⟩
end
section
variable {P:P3}
theorem me_clrDD {o:Expr} {apos cpos:Pos} {mo:EM} (ho:ME P o mo) (hbase:attributeBase o "clear" P.X.env (eval o P.X.env)=eval o P.X.env:=by rfl) (hline:(apos.endLine == cpos.line)=true:=by rfl):ME P (.Call (.Attribute o "clear" apos) [] [] cpos) (eClrDD mo):=by
 obtain⟨to,po,hto⟩:=ho.out
 refine ME.mk' (pe_clrDD po hbase hline) fun B0 B s st u z Q wd sl h=>hto B0 B s st u z _ wd sl (Post.bind h fun w st1 s1 v l1 wd1 r1 h1=>?_)
 obtain⟨ks,us,a,xs,j,rfl,ej,rfl,_,dr,h2⟩:=Post.of_ddw wd1 r1 h1
 clear h1
 cases r1 with
 | ref eio=>
  obtain⟨a',e1,nb,hF,ys,o1,o2⟩:=wd1.obj _ _ ej rfl
  rw[eio] at e1
  cases e1
  refine⟨_,ys,rfl,by rw[P.hw];exact o1,o2.keyH wd1.sub,?_⟩
  obtain⟨w4,l4⟩:=wd1.setO (o':=.ddi [] []) (ho:=DkO P.G.w a []) eio nb hF ⟨_,upd_same,dkR_nil⟩ ej
  rw[P.hw]
  exact h2 _ _ l4 w4 .non
end
@[simp] theorem run_eClrDD (mo:EM) {u:Sl3} {st:Store} {kw:Res W→Prop}:M3.run (eClrDD mo u st) kw=M3.run (mo u st) (kBind (fun w=>M.bind (ddOw w) fun _=>fun st=>match w with
 | .val (.ref j)=>.ok (.val .non) (st.set j (.ddi [] []))
 | _=>.bad) kw):=run_bind _ _
end M3
namespace M3
open PySem PySem.Spec PyProof.Rows L2
def mNewDD (q:List D×List D):M W:=fun st=>.ok (.val (.ref st.length)) (st++[.ddi q.1 q.2])
def eNewDc (mi:FM) (g:GM) (c:TM) (ek ev:EM) (own:List Nat):EM:=fun u=>M.bind (mi u) fun ds=>M.bind (dcL g c ek ev (wipe3 u own) ds [] []) mNewDD
section
variable {P:P3} {pos:Pos}
theorem me_dcN {kx vx tg iter:Expr} {ifs:List Expr} {scope:Scope} {own:List (Str×Nat)} {mi:FM} {g:GM} {gs:List Nat} {c:TM} {mk mv:EM} (hu:P.X.A.units+65<cLine) (hc:Cool P.X) (hN:P.X.N.Nodup) (hi:MI P tg iter mi) (ok:BlkOk P.X.N P.X.env.scope scope own)
  (hg:∀(s:Shared) (H:Hp) (C:Addr) (cl:List (Str×Addr)) (fp:List Addr),CoolS P.X.A s H (frs P.X.stack) fp→MG (P.blk s H scope C cl fp) tg g gs) (ht:∀(s:Shared) (H:Hp) (C:Addr) (cl:List (Str×Addr)) (fp:List Addr),CoolS P.X.A s H (frs P.X.stack) fp→MIfs (P.blk s H scope C cl fp) ifs c)
  (hk:∀(s:Shared) (H:Hp) (C:Addr) (cl:List (Str×Addr)) (fp:List Addr),CoolS P.X.A s H (frs P.X.stack) fp→ME (P.blk s H scope C cl fp) kx mk) (hv:∀(s:Shared) (H:Hp) (C:Addr) (cl:List (Str×Addr)) (fp:List Addr),CoolS P.X.A s H (frs P.X.stack) fp→ME (P.blk s H scope C cl fp) vx mv)
  (hgs:∀i∈gs,i∈own.map (·.2):=by decide) (hs:∀x,foldedSetIterable iter P.X.env x=pure x:=by intro _;rfl) :
  ME P (.DictComp kx vx [⟨tg,iter,ifs,0⟩] scope pos) (eNewDc mi g c mk mv (own.map (·.2))):=by
 obtain⟨ti,pi,hti⟩:=hi.out
 refine ME.mk' (pe_dcG (own:=own) (o0:=fun p=>DkO P.X.w p []) (put:=putDD P.X.w) (g:=tG P.G P.hx g gs) (tt:=tT P.G P.hx noW c) (tk:=tE P.G P.hx noW mk) (tv:=tE P.G P.hx noW mv) (fun h H' big=>new_DD h H' big) (stores_DD hu) hc hN pi ok
  (fun s H C cl fp co=>(hg s H C cl fp co).pg) (fun s H C cl fp co=>(ht s H C cl fp co).pts) (fun s H C cl fp co=>(hk s H C cl fp co).pe) (fun s H C cl fp co=>(hv s H C cl fp co).pe) hs) fun B0 B s st u z Q wd sl h=>?_
 refine hti B0 B s st u z _ wd sl (Post.bind h fun ds st1 s1 J l1 wd1 im h1=>?_)
 intro p hp
 rw[P.hw]
 obtain⟨wd2,l2⟩:=own_wd (ho:=DkO P.G.w p []) wd1 hp
 have nb:¬B p:=wd1.freshB hp
 have fin:∀(s':S3) (st':Store) (ks us:List D) (xs:DkX),Le B s1 s'→Wd P.G (plus B p) st' s'→s'.H p=some (DkO P.G.w p xs)→DkR P.G.R s'.F s'.io ks us xs→Post P.G B (RepW P.G P.hx B) (fun c d H=>P.wx c d z H) s' Q (mNewDD (ks,us) st')→Q (.ref p) s'.H:=by
  intro s' st' ks us xs l' w' hq dr pf
  obtain⟨wn,gr,at_⟩:=w'.shareO (ob:=.ddi ks us) nb ⟨xs,hq,dr⟩
  exact pf ⟨ioNew s'.io st'.length p,s'.F,s'.H⟩ (.ref p) ⟨gr,Same.refl _,fun _ _=>rfl⟩ wn (Rep.ref at_)
 refine⟨fun i n H'=>n=ds.length - i∧i≤ds.length∧∃(s':S3) (st':Store) (ks us:List D) (xs:DkX),s'.H=H'∧Le B s1 s'∧Wd P.G (plus B p) st' s'∧s'.H p=some (DkO P.G.w p xs)∧DkR P.G.R s'.F s'.io ks us xs∧
   Post P.G B (RepW P.G P.hx B) (fun c d H=>P.wx c d z H) s' Q (M.bind (dcL g c mk mv (wipe3 u (own.map (·.2))) (ds.drop i) ks us) mNewDD st'),
  ⟨_,rfl,Nat.zero_le _,_,st1,[],[],[],rfl,l2,wd2,upd_same,dkR_nil,Post.mono l2 h1⟩,?_⟩
 rintro i n H' ⟨rfl,hi,s',st',ks,us,xs,rfl,l',w',hq,dr,pf⟩
 rcases Nat.lt_or_ge i ds.length with hlt | hge
 ·right
  refine⟨im.go s' l'.io l'.fr w'.sub i hlt,fun H2=>i+1≤ds.length∧∃(s':S3) (st':Store) (ks us:List D) (xs:DkX),s'.H=H2∧Le B s1 s'∧Wd P.G (plus B p) st' s'∧s'.H p=some (DkO P.G.w p xs)∧DkR P.G.R s'.F s'.io ks us xs∧
   Post P.G B (RepW P.G P.hx B) (fun c d H=>P.wx c d z H) s' Q (M.bind (dcL g c mk mv (wipe3 u (own.map (·.2))) (ds.drop (i+1)) ks us) mNewDD st'),fun H2 q=>⟨_,by omega,rfl,q.1,q.2⟩,fun x H2 y=>?_⟩
  obtain⟨rfl,d,ed,rd⟩:=im.yld s' l'.io l'.fr w'.sub i x _ hlt y
  rw[List.drop_eq_getElem_cons hlt] at pf
  have ed':ds[i]=d:=by rw[List.getElem?_eq_getElem hlt] at ed;cases ed;rfl
  rw[ed'] at pf
  unfold dcL at pf
  have assoc:∀{α β γ:Type} (m:M α) (f:α→M β) (f2:β→M γ) (st:Store),M.bind (M.bind m f) f2 st=M.bind m (fun a=>M.bind (f a) f2) st:=fun m f f2 st=>by
   unfold M.bind
   cases m st <;> rfl
  rw[assoc] at pf
  obtain⟨u1,eg,pf⟩:=Post.of_of pf
  have slw:Slo P.G P.hx B0 (plus B p) s' (wipe3 u (own.map (·.2))) (L2.wipe z (own.map (·.2))):=((sl.mono' (l1.trans l')).more fun a b=>.inl b).wipe _
  refine⟨B0,plus B p,s',st',wipe3 u (own.map (·.2)),d,u1,rfl,w',slw,rd,eg,fun z2 sl2 b2=>⟨?_,?_⟩⟩
  ·rw[b2.wipe hgs,lc_ok.wipe_wipe]
  ·rw[assoc] at pf
   obtain⟨k,st3,ek,pf⟩:=of_quietE pf
   refine⟨B0,plus B p,s',st',u1,rfl,w',sl2,?_⟩
   rw[ek]
   intro s3 k' l3 w3 rk
   subst rk
   have hq3:s3.H p=some (DkO P.G.w p xs):=(l3.hid p (.inr rfl)).trans hq
   have dr3:=dr.mono l3.fr l3.io
   have pf:=Post.mono (plus_le l3) pf
   cases k with
   | false=>exact⟨hlt,s3,st3,ks,us,xs,rfl,l'.trans (plus_le l3),w3,hq3,dr3,pf⟩
   | true=>
    rw[if_pos rfl] at pf⊢
    rw[assoc] at pf
    obtain⟨kw,st4,ekw,pf⟩:=of_quietE pf
    refine⟨B0,plus B p,s3,st3,u1,rfl,w3,sl2.mono' l3,?_⟩
    rw[ekw]
    intro s4 v4 l4 w4 r4
    rw[assoc] at pf
    obtain⟨vw,st5,evw,pf⟩:=of_quietE pf
    refine⟨B0,plus B p,s4,st4,u1,rfl,w4,(sl2.mono' l3).mono' l4,?_⟩
    rw[evw]
    intro s5 v5 l5 w5 r5
    rw[assoc] at pf
    obtain⟨k,hk,pf1⟩:=Post.of_of pf
    clear pf
    rw[assoc] at pf1
    obtain⟨v,hv,pf2⟩:=Post.of_of pf1
    clear pf1
    rw[assoc] at pf2
    obtain⟨x,hx,pf3⟩:=Post.of_of pf2
    clear pf2
    rw[assoc] at pf3
    obtain⟨hz,pf9⟩:=Post.of_chk pf3
    clear pf3
    have ekd:=d_val hk
    have evd:=d_val hv
    subst ekd evd
    have dr5:=(dr3.mono l4.fr l4.io).mono l5.fr l5.io
    have hq5:s5.H p=some (DkO P.G.w p xs):=(l5.hid p (.inr rfl)).trans ((l4.hid p (.inr rfl)).trans hq3)
    have r4':Rep P.G.R s5.F s5.io k v4:=Rep.mono l5.fr l5.io r4
    obtain⟨b,eb,kb⟩:=tk_ok (H:=s5.H) w5.sub r4' hx
    subst eb
    refine⟨b,xs,x,rfl,hq5,dr5.keyH w5.sub,kb,by rw[←(dd_len dr5).1];exact szl hz,fun uv ruv=>?_⟩
    have w6:=own_put w5 nb (DkO P.G.w p (storedH xs x b uv))
    have l6:Le B s5 ⟨s5.io,s5.F,upd s5.H p (DkO P.G.w p (storedH xs x b uv))⟩:=⟨IoLe.refl _,Same.refl _,fun a ba=>upd_ne fun y=>nb (y▸ba)⟩
    exact⟨hlt,_,st5,_,_,_,rfl,(((l'.trans (plus_le l3)).trans (plus_le l4)).trans (plus_le l5)).trans l6,w6,upd_same,(dd_put hx r4' ruv r5 dr5),Post.mono (((plus_le l4).trans (plus_le l5)).trans l6) pf9⟩
 ·left
  have e:ds.drop i=[]:=List.drop_eq_nil_of_le hge
  rw[e] at pf
  exact⟨im.stop s' l'.io l'.fr w'.sub i hge,fin s' st' ks us xs l' w' hq dr pf⟩
end
@[simp] theorem run_eNewDc {mi:FM} {g:GM} {c:TM} {a b:EM} {own:List Nat} {u:Sl3} {st:Store} {kw:Res W→Prop}:M3.run (eNewDc mi g c a b own u st) kw=M3.run (mi u st) (kBind (fun ds=>M.bind (dcL g c a b (wipe3 u own) ds [] []) mNewDD) kw):=run_bind _ _
@[simp] theorem run_mNewDD (q:List D×List D) {st:Store} {kw:Res W→Prop}:M3.run (mNewDD q st) kw=kw (.ok (.val (.ref st.length)) (st++[.ddi q.1 q.2])):=rfl
mutual
def D.noL:D→Bool
 | .lst _=>false
 | .ro _=>false
 | .tup xs=>D.noLs xs
 | .ctup xs=>D.noLs xs
 | .dict _ us=>D.noLs us
 | .dd ks us=>D.noLs ks && D.noLs us
 | _=>true
def D.noLs:List D→Bool
 | []=>true
 | x :: xs=>x.noL && D.noLs xs
end
theorem noLs_all:∀{xs:List D},D.noLs xs=true↔∀x∈xs,x.noL=true
 | []=>by simp[D.noLs]
 | x :: xs=>by
  rw[D.noLs,Bool.and_eq_true,noLs_all (xs:=xs)]
  simp
def MO.noL:MO→Bool
 | .lst xs=>D.noLs xs
 | .dic _ us=>D.noLs us
 | .ddi ks us=>D.noLs ks && D.noLs us
 | .rdd ks us=>D.noLs ks && D.noLs us
 | .ins _ fs=>D.noLs (fs.map (·.2))
 | .cell d=>d.noL
 | .kc d=>d.noL
 | _=>true
section
variable {K:KW} {F:Hp} {io:Io} {a:Addr} {vs0:List V}
theorem offL_ne (h:F a=some (.lst vs0)) {p:Addr} {o:HO} (e:F p=some o) (n:o≠.lst vs0):p≠a:=fun z=>by
 rw[z,h] at e
 cases e
 exact n rfl
mutual
theorem Rep.offL (nz:NoFz K) (h:F a=some (.lst vs0)):∀{d:D} {v:V},d.noL=true→Rep K F io d v→Rep K (offF F a) io d v
 | _,_,_,.non=>.non
 | _,_,_,.bl=>.bl
 | _,_,_,.int=>.int
 | _,_,_,.str=>.str
 | _,_,_,.ty=>.ty
 | _,_,q,.tup s r=>by
  obtain⟨o,e,z⟩:=s
  exact .tup ⟨o,by rw[offF_ne (offL_ne h e (fun z=>by cases z))];exact e,z⟩ (RepL.offL nz h q r)
 | _,_,q,.ctup s r=>by
  refine .ctup ?_ (RepL.offL nz h q r)
  rcases s with (e | ⟨o,e⟩) | e
  ·exact .inl (.inl (by rw[offF_ne (offL_ne h e (fun z=>by cases z))];exact e))
  ·exact .inl (.inr ⟨o,by rw[offF_ne (offL_ne h e (fun z=>by cases z))];exact e⟩)
  ·exact .inr e
 | _,_,q,.lst e r=>by cases q
 | _,_,q,.ro s r=>by cases q
 | _,_,q,.dict e z r=>.dict (by rw[offF_ne (offL_ne h e (fun z=>by cases z))];exact e) z (RepL.offL nz h q r)
 | .dd ks us,_,q,.dd e k t vs r=>by
  have q:(D.noLs ks && D.noLs us)=true:=q
  rw[Bool.and_eq_true] at q
  exact .dd (by rw[offF_ne (offL_ne h e (fun z=>by cases z))];exact e) (RepL.offL nz h q.1 k) t vs (RepL.offL nz h q.2 r)
 | _,_,_,.ref e=>.ref e
 | _,_,_,.fn e n q l d=>.fn (by rw[offF_ne (offL_ne h e ((nz _ _ n _).2 _))];exact e) n (by rw[offF_ne (offL_ne h q (fun z=>by unfold LamX.CodeO at z;cases z))];exact q) l d
theorem RepL.offL (nz:NoFz K) (h:F a=some (.lst vs0)):∀{d:List D} {v:List V},D.noLs d=true→RepL K F io d v→RepL K (offF F a) io d v
 | _,_,_,.nil=>.nil
 | x :: xs,_,q,.cons r t=>by
  have q:(x.noL && D.noLs xs)=true:=q
  rw[Bool.and_eq_true] at q
  exact .cons (Rep.offL nz h q.1 r) (RepL.offL nz h q.2 t)
end
theorem FsR.offL (nz:NoFz K) (h:F a=some (.lst vs0)):∀{fs:List (Str×D)} {gs:List (Str×V)},D.noLs (fs.map (·.2))=true→FsR K F io fs gs→FsR K (offF F a) io fs gs
 | _,_,_,.nil=>.nil
 | (f,x) :: fs,_,q,.cons r t=>by
  have q:(x.noL && D.noLs (fs.map (·.2)))=true:=q
  rw[Bool.and_eq_true] at q
  exact .cons (r.offL nz h q.1) (FsR.offL nz h q.2 t)
theorem DkR.offL (nz:NoFz K) (h:F a=some (.lst vs0)) {ks us:List D} {xs:DkX} (q:(D.noLs ks && D.noLs us)=true) (r:DkR K F io ks us xs):DkR K (offF F a) io ks us xs:=by
 rw[Bool.and_eq_true] at q
 exact⟨r.keys.offL nz h q.1,r.tk,let ⟨vs,v,z⟩:=r.vals;⟨vs,v,z.offL nz h q.2⟩⟩
end
def D.re1 (f:Nat→Option (List D)):D→D
 | .ref k=>(match f k with
  | some xs=>.lst xs
  | none=>.ref k)
 | d=>d
def D.re2 (f:Nat→Option (List D)):D→D
 | .lst ds=>.lst (ds.map (D.re1 f))
 | d=>d.re1 f
def W.re (f:Nat→Option (List D)):W→W
 | .val d=>.val (d.re2 f)
 | w=>w
def reU (f:Nat→Option (List D)) (u:Sl3):Sl3:=u.map (Option.map (W.re f))
def oneL (k:Nat) (xs:List D):Nat→Option (List D):=fun j=>if j=k then some xs else none
def eLend1 (i j:Nat) (m:EM):EM:=fun u st=>match u[j]? with
 | some (some (.val (.lst ds)))=>(match ds[i]? with
  | some (.ref k)=>(match st[k]? with
   | some (.lst xs)=>(match m (reU (oneL k xs) u) (st.set k .dead) with
    | .ok (.val d) st'=>if d.noL=true∧st'.all MO.noL=true then .ok (.val d) (st'.set k (.lst xs)) else .bad
    | _=>.bad)
   | _=>.bad)
  | _=>.bad)
 | _=>.bad
section
variable {G:G3} {X:Hex} {B0 B B':Addr→Prop} {st st':Store} {s s':S3} {k:Nat} {xs:List D} {u:Sl3} {z:L2.St}
theorem re1_rep {K:KW} {F:Hp} {io:Io} {a:Addr} {vs:List V} (hF:F a=some (.lst vs)) (e:io k=some a) (rl:RepL K F io xs vs) {d:D} {v:V} (r:Rep K F io d v):Rep K F io (d.re1 (oneL k xs)) v:=by
 cases r with
 | @ref j b q=>
  unfold D.re1 oneL
  dsimp only
  by_cases z:j=k
  ·subst z
   rw[if_pos rfl]
   rw[e] at q
   cases q
   exact .lst hF rl
  ·rw[if_neg z]
   exact .ref q
 | non=>exact .non
 | bl=>exact .bl
 | int=>exact .int
 | str=>exact .str
 | ty=>exact .ty
 | tup a b=>exact .tup a b
 | ctup a b=>exact .ctup a b
 | lst a b=>exact .lst a b
 | ro a b=>exact .ro a b
 | dict a b c=>exact .dict a b c
 | dd a b c d e=>exact .dd a b c d e
 | fn a b c d e=>exact .fn a b c d e
theorem re1_repL {K:KW} {F:Hp} {io:Io} {a:Addr} {vs:List V} (hF:F a=some (.lst vs)) (e:io k=some a) (rl:RepL K F io xs vs):∀{ds:List D} {ws:List V},RepL K F io ds ws→RepL K F io (ds.map (D.re1 (oneL k xs))) ws
 | _,_,.nil=>.nil
 | _,_,.cons r t=>.cons (re1_rep hF e rl r) (re1_repL hF e rl t)
theorem re2_rep {K:KW} {F:Hp} {io:Io} {a:Addr} {vs:List V} (hF:F a=some (.lst vs)) (e:io k=some a) (rl:RepL K F io xs vs) {d:D} {v:V} (r:Rep K F io d v):Rep K F io (d.re2 (oneL k xs)) v:=by
 cases r with
 | lst h q=>exact .lst h (re1_repL hF e rl q)
 | non=>exact .non
 | bl=>exact .bl
 | int=>exact .int
 | str=>exact .str
 | ty=>exact .ty
 | tup a b=>exact .tup a b
 | ctup a b=>exact .ctup a b
 | ro a b=>exact .ro a b
 | dict a b c=>exact .dict a b c
 | dd a b c d e=>exact .dd a b c d e
 | fn a b c d e=>exact .fn a b c d e
 | ref q=>exact re1_rep hF e rl (.ref q)
theorem Wd.lendL (w:Wd G B st s) (ek:st[k]?=some (.lst xs)):∃a vs,s.io k=some a∧¬B a∧s.F a=none∧s.H a=some (.lst vs)∧RepL G.R s.F s.io xs vs∧Wd G B (st.set k .dead) ⟨s.io,upd s.F a (.lst vs),s.H⟩∧Le B s ⟨s.io,upd s.F a (.lst vs),s.H⟩:=by
 obtain⟨a,eio,nb,hF,vs,eh,rl⟩:=w.obj k _ ek rfl
 refine⟨a,vs,eio,nb,hF,eh,rl,?_,IoLe.refl _,same_upd hF,fun _ _=>rfl⟩
 have nB:∀b,B b→b≠a:=fun b q z=>nb (z▸q)
 have fr:=same_upd (o:=HO.lst vs) hF
 have other:∀{j:Nat} {o:MO},(st.set k .dead)[j]?=some o→o.tr=true→j≠k∧st[j]?=some o:=fun {j o} e t=>by
  by_cases q:k=j
  ·subst q
   rw[List.getElem?_set_self (w.dom k a eio)] at e
   cases e
   cases t
  ·rw[List.getElem?_set_ne q] at e
   exact⟨fun z=>q z.symm,e⟩
 refine⟨fun b o e=>?_,fun b q=>?_,fun b o e=>?_,fun j b e=>by rw[List.length_set];exact w.dom j b e,fun i j b oi oj e1 e2 q1 t1 q2 t2=>w.inj i j b oi oj e1 e2 (other q1 t1).2 t1 (other q2 t2).2 t2,fun j o e t=>?_,fun j o e t=>?_,w.tabM fr fun _ _ e=>e⟩
 ·have e:upd s.F a _ b=some o:=e
  by_cases z:b=a
  ·subst z;rw[upd_same] at e;cases e;exact eh
  ·rw[upd_ne z] at e;exact w.sub b o e
 ·obtain⟨h1,h2⟩:=w.hid b q
  exact⟨by show upd s.F a _ b=none;rw[upd_ne (nB b q)];exact h1,h2⟩
 ·have e:upd s.F a _ b=some o:=e
  by_cases z:b=a
  ·subst z;rw[upd_same] at e;cases e;exact fun _ q=>by cases q
  ·rw[upd_ne z] at e;exact w.ftb b o e
 ·obtain⟨ne,ej⟩:=other e t
  obtain⟨b,e1,b1,f1,o1⟩:=w.obj j o ej t
  have na:b≠a:=fun z=>ne (w.inj j k a _ _ (z▸e1) eio ej t ek rfl)
  exact⟨b,e1,b1,by show upd s.F a _ b=none;rw[upd_ne na];exact f1,ObjR.mono (s:=s) (s':=⟨s.io,upd s.F a _,s.H⟩) (IoLe.refl _) fr rfl o1⟩
 ·by_cases q:k=j
  ·subst q
   rw[List.getElem?_set_self (w.dom k a eio)] at e
   cases e
   exact⟨a,eio,True.intro⟩
  ·rw[List.getElem?_set_ne q] at e
   exact w.untM (s':=⟨s.io,upd s.F a _,s.H⟩) (IoLe.refl _) fr j o e t
theorem Slo.re {a:Addr} {vs:List V} (hF:s.F a=some (.lst vs)) (e:s.io k=some a) (rl:RepL G.R s.F s.io xs vs) (h:Slo G X B0 B s u z):Slo G X B0 B s (reU (oneL k xs) u) z:=by
 have own:∀w:W,(w.re (oneL k xs)).own=w.own:=fun w=>by cases w <;> rfl
 have get:∀{i:Nat} {w:W},(reU (oneL k xs) u)[i]?=some (some w)→∃w0,u[i]?=some (some w0)∧w0.re (oneL k xs)=w:=fun {i w} q=>by
  unfold reU at q
  rw[List.getElem?_map] at q
  obtain⟨o,q1,q2⟩:=Option.map_eq_some_iff.mp q
  obtain⟨w0,rfl,q3⟩:=Option.map_eq_some_iff.mp q2
  exact⟨w0,q1,q3⟩
 obtain⟨hl,ow,h1,h2⟩:=h
 refine⟨by unfold reU;simpa using hl,ow,fun i w q=>?_,fun i j w w' o1 o2 q1 q2 q3=>?_⟩
 ·obtain⟨w0,q0,rfl⟩:=get q
  obtain⟨v,e1,r,n⟩:=h1 i w0 q0
  refine⟨v,e1,?_,fun o=>n (by rw[←own];exact o)⟩
  cases w0 with
  | val d=>exact re2_rep hF e rl r
  | _=>exact r
 ·obtain⟨w0,y1,e1⟩:=get q1
  obtain⟨w1,y2,e2⟩:=get q2
  rw[←e1,own] at o1
  rw[←e2,own] at o2
  exact h2 i j w0 w1 o1 o2 y1 y2 q3
theorem ObjR.offL {a b:Addr} {vs:List V} {o:MO} (nz:NoFz G.R) (h:s.F a=some (.lst vs)) (q:o.noL=true) (x:ObjR G s b o):ObjR G ⟨s.io,offF s.F a,s.H⟩ b o:=by
 cases o with
 | lst xs=>obtain⟨ws,e,r⟩:=x;exact⟨ws,e,r.offL nz h q⟩
 | dic ks us=>obtain⟨ws,e,e2,r⟩:=x;exact⟨ws,e,e2,r.offL nz h q⟩
 | ddi ks us=>obtain⟨ws,e,r⟩:=x;exact⟨ws,e,r.offL nz h q⟩
 | ins c fs=>obtain⟨C,dx,gs,e0,e,r⟩:=x;exact⟨C,dx,gs,e0,e,r.offL nz h q⟩
 | cell d=>obtain⟨v,e,r⟩:=x;exact⟨v,e,r.offL nz h q⟩
 | _=>exact x.elim
theorem Wd.unlendL {a:Addr} {vs:List V} (nz:NoFz G.R) (w:Wd G B st s) (eio:s.io k=some a) (hF:s.F a=some (.lst vs)) (rl:RepL G.R (offF s.F a) s.io xs vs) (q:st.all MO.noL=true):Wd G B (st.set k (.lst xs)) ⟨s.io,offF s.F a,s.H⟩:=by
 have nl:∀{j:Nat} {o:MO},st[j]?=some o→o.noL=true:=fun e=>List.all_eq_true.mp q _ (List.mem_of_getElem? e)
 have lk:=w.dom k a eio
 have nB:∀b,B b→b≠a:=fun b q z=>by
  have:=(w.hid b q).1
  rw[z,hF] at this
  cases this
 have other:∀{j:Nat} {o:MO},j≠k→(st.set k (.lst xs))[j]?=some o→st[j]?=some o:=fun {j o} ne e=>by
  rw[List.getElem?_set_ne (Ne.symm ne)] at e;exact e
 have far:∀{j:Nat} {o:MO} {b:Addr},st[j]?=some o→o.tr=true→s.io j=some b→b≠a:=fun {j o b} e t i z=>by
  obtain⟨c,e1,_,f1,_⟩:=w.obj j o e t
  rw[i] at e1
  cases e1
  rw[z,hF] at f1
  cases f1
 refine⟨fun b o e=>?_,fun b q=>?_,fun b o e=>?_,fun j b e=>by rw[List.length_set];exact w.dom j b e,fun i j b oi oj e1 e2 q1 t1 q2 t2=>?_,fun j o e t=>?_,fun j o e t=>?_,fun p hp=>?_⟩
 ·have e:offF s.F a b=some o:=e
  by_cases z:b=a
  ·subst z;rw[offF_self] at e;cases e
  ·rw[offF_ne z] at e;exact w.sub b o e
 ·obtain⟨h1,h2⟩:=w.hid b q
  exact⟨by show offF s.F a b=none;rw[offF_ne (nB b q)];exact h1,h2⟩
 ·have e:offF s.F a b=some o:=e
  by_cases z:b=a
  ·subst z;rw[offF_self] at e;cases e
  ·rw[offF_ne z] at e;exact w.ftb b o e
 ·by_cases z1:i=k <;> by_cases z2:j=k
  ·rw[z1,z2]
  ·subst z1
   have e1:s.io i=some b:=e1
   rw[eio] at e1
   cases e1
   exact absurd rfl (far (other z2 q2) t2 e2)
  ·subst z2
   have e2:s.io j=some b:=e2
   rw[eio] at e2
   cases e2
   exact absurd rfl (far (other z1 q1) t1 e1)
  ·exact w.inj i j b oi oj e1 e2 (other z1 q1) t1 (other z2 q2) t2
 ·by_cases z:j=k
  ·subst z
   rw[List.getElem?_set_self lk] at e
   cases e
   exact⟨a,eio,fun q=>nB a q rfl,offF_self,vs,w.sub _ _ hF,rl⟩
  ·have ej:=other z e
   obtain⟨b,e1,b1,f1,o1⟩:=w.obj j o ej t
   exact⟨b,e1,b1,by show offF s.F a b=none;rw[offF_ne (far ej t e1)];exact f1,o1.offL nz hF (nl ej)⟩
 ·have z:j≠k:=fun z=>by
   subst z
   rw[List.getElem?_set_self lk] at e
   cases e
   cases t
  have ej:=other z e
  obtain⟨b,i,x⟩:=w.unt j o ej t
  refine⟨b,i,?_⟩
  cases o with
  | rdd k2 u2=>
   obtain⟨od,ys,f,dr⟩:=x
   exact⟨od,ys,by show offF s.F a b=_;rw[offF_ne (offL_ne hF f fun z=>by cases z)];exact f,dr.offL nz hF (nl ej)⟩
  | kc d=>obtain⟨v,q,r,c,y⟩:=x;exact⟨v,q,r,c,y.offL nz hF (nl ej)⟩
  | slp n=>exact x
  | dead=>exact True.intro
  | _=>cases t
 ·obtain⟨ps,e,t,r⟩:=w.tabs p hp
  refine⟨ps,e,t,fun pos cv q=>?_⟩
  obtain⟨c,e1,e2⟩:=r pos cv q
  exact⟨c,e1,by show offF s.F a c=_;rw[offF_ne (offL_ne hF e2 fun z=>by unfold LamX.CodeO at z;cases z)];exact e2⟩
end
section
variable {P:P3}
theorem me_lend1 {e:Expr} {m:EM} (i j:Nat) (nz:NoFz P.G.R) (h:ME P e m):ME P e (eLend1 i j m):=by
 obtain⟨t,pt,ht⟩:=h.out
 refine ME.mk' pt fun B0 B s st u z Q wd sl hp=>?_
 unfold eLend1 at hp
 split at hp
 ·rename_i ds eu
  split at hp
  ·rename_i k ed
   split at hp
   ·rename_i xs ek
    obtain⟨a,vs,eio,nb,hF,eh,rl,w1,l1⟩:=wd.lendL ek
    have rl1:=rl.mono l1.fr l1.io
    refine ht B0 B ⟨s.io,upd s.F a (.lst vs),s.H⟩ _ _ z _ w1 ((sl.mono l1).re (a:=a) (vs:=vs) upd_same eio rl1) ?_
    split at hp
    ·rename_i d st' em
     rw[em]
     split at hp
     ·rename_i hc
      intro s' v l' w' r
      have hF':s'.F a=some (.lst vs):=l'.fr _ _ upd_same
      have fr:Same s.F (offF s'.F a):=fun b o q=>by
       rw[offF_ne fun z=>by rw[z,hF] at q;cases q]
       exact l'.fr _ _ (l1.fr _ _ q)
      have w2:=Wd.unlendL nz w' (l'.io _ _ eio) hF' (rl.mono fr l'.io) hc.2
      exact hp ⟨s'.io,offF s'.F a,s'.H⟩ v ⟨l'.io,fr,fun b q=>l'.hid b q⟩ w2 (Rep.offL nz hF' hc.1 r)
     ·exact hp.elim
    ·exact hp.elim
   ·exact hp.elim
  ·exact hp.elim
 ·exact hp.elim
end
end M3
namespace M3
open PySem PySem.Spec PyProof.Rows L2
mutual
def D.noD:D→Bool
 | .dd _ _=>false
 | .tup xs=>D.noDs xs
 | .ctup xs=>D.noDs xs
 | .lst xs=>D.noDs xs
 | .ro xs=>D.noDs xs
 | .dict _ us=>D.noDs us
 | _=>true
def D.noDs:List D→Bool
 | []=>true
 | x :: xs=>x.noD && D.noDs xs
end
theorem noDs_all:∀{xs:List D},D.noDs xs=true↔∀x∈xs,x.noD=true
 | []=>by simp[D.noDs]
 | x :: xs=>by
  rw[D.noDs,Bool.and_eq_true,noDs_all (xs:=xs)]
  simp
def MO.noD:MO→Bool
 | .lst xs=>D.noDs xs
 | .dic _ us=>D.noDs us
 | .ddi ks us=>D.noDs ks && D.noDs us
 | .rdd ks us=>D.noDs ks && D.noDs us
 | .ins _ fs=>D.noDs (fs.map (·.2))
 | .cell d=>d.noD
 | .kc d=>d.noD
 | _=>true
section
variable {K:KW} {F:Hp} {io:Io} {a:Addr} {od:Obj} {w:World} {xs0:DkX}
theorem offD_ne {u:HO} (h:F a=some (.frz od u)) {p:Addr} {o:HO} (e:F p=some o) (n:o≠.frz od u):p≠a:=fun z=>by
 rw[z,h] at e
 cases e
 exact n rfl
mutual
theorem Rep.offD (nz:NoFz K) (h:F a=some (.frz od (DkO w a xs0))):∀{d:D} {v:V},d.noD=true→Rep K F io d v→Rep K (offF F a) io d v
 | _,_,_,.non=>.non
 | _,_,_,.bl=>.bl
 | _,_,_,.int=>.int
 | _,_,_,.str=>.str
 | _,_,_,.ty=>.ty
 | _,_,q,.tup s r=>by
  obtain⟨o,e,z⟩:=s
  exact .tup ⟨o,by rw[offF_ne (offD_ne h e (fun z=>by unfold DkO at z;cases z))];exact e,z⟩ (RepL.offD nz h q r)
 | _,_,q,.ctup s r=>by
  refine .ctup ?_ (RepL.offD nz h q r)
  rcases s with (e | ⟨o,e⟩) | e
  ·exact .inl (.inl (by rw[offF_ne (offD_ne h e (fun z=>by cases z))];exact e))
  ·exact .inl (.inr ⟨o,by rw[offF_ne (offD_ne h e (fun z=>by unfold DkO at z;cases z))];exact e⟩)
  ·exact .inr e
 | _,_,q,.lst e r=>.lst (by rw[offF_ne (offD_ne h e (fun z=>by cases z))];exact e) (RepL.offD nz h q r)
 | _,_,q,.ro s r=>by
  refine .ro ?_ (RepL.offD nz h q r)
  rcases s with (e | ⟨o,e⟩) | e
  ·exact .inl (.inl (by rw[offF_ne (offD_ne h e (fun z=>by cases z))];exact e))
  ·exact .inl (.inr ⟨o,by rw[offF_ne (offD_ne h e (fun z=>by unfold DkO at z;cases z))];exact e⟩)
  ·exact .inr e
 | _,_,q,.dict e z r=>.dict (by rw[offF_ne (offD_ne h e (fun z=>by unfold DkO at z;cases z))];exact e) z (RepL.offD nz h q r)
 | _,_,q,.dd e k t vs r=>by cases q
 | _,_,_,.ref e=>.ref e
 | _,_,_,.fn e n q l d=>.fn (by rw[offF_ne (offD_ne h e ((nz _ _ n _).1 _ _))];exact e) n (by rw[offF_ne (offD_ne h q (fun z=>by unfold LamX.CodeO at z;cases z))];exact q) l d
theorem RepL.offD (nz:NoFz K) (h:F a=some (.frz od (DkO w a xs0))):∀{d:List D} {v:List V},D.noDs d=true→RepL K F io d v→RepL K (offF F a) io d v
 | _,_,_,.nil=>.nil
 | x :: xs,_,q,.cons r t=>by
  have q:(x.noD && D.noDs xs)=true:=q
  rw[Bool.and_eq_true] at q
  exact .cons (Rep.offD nz h q.1 r) (RepL.offD nz h q.2 t)
end
theorem FsR.offD (nz:NoFz K) (h:F a=some (.frz od (DkO w a xs0))):∀{fs:List (Str×D)} {gs:List (Str×V)},D.noDs (fs.map (·.2))=true→FsR K F io fs gs→FsR K (offF F a) io fs gs
 | _,_,_,.nil=>.nil
 | (f,x) :: fs,_,q,.cons r t=>by
  have q:(x.noD && D.noDs (fs.map (·.2)))=true:=q
  rw[Bool.and_eq_true] at q
  exact .cons (r.offD nz h q.1) (FsR.offD nz h q.2 t)
theorem DkR.offD (nz:NoFz K) (h:F a=some (.frz od (DkO w a xs0))) {ks us:List D} {xs:DkX} (q:(D.noDs ks && D.noDs us)=true) (r:DkR K F io ks us xs):DkR K (offF F a) io ks us xs:=by
 rw[Bool.and_eq_true] at q
 exact⟨r.keys.offD nz h q.1,r.tk,let ⟨vs,v,z⟩:=r.vals;⟨vs,v,z.offD nz h q.2⟩⟩
end
def eLendD (i:Nat) (m:EM):EM:=fun u st=>match u[i]? with
 | some (some (.val (.ref k)))=>(match st[k]? with
  | some (.ddi ks us)=>(match m (u.set i (some (.val (.dd ks us)))) (st.set k .dead) with
   | .ok (.val d) st'=>if d.noD=true∧st'.all MO.noD=true then .ok (.val d) (st'.set k (.ddi ks us)) else .bad
   | _=>.bad)
  | _=>.bad)
 | _=>.bad
section
variable {G:G3} {X:Hex} {B0 B B':Addr→Prop} {st st':Store} {s s':S3} {k:Nat} {ks us:List D} {u:Sl3} {z:L2.St}
theorem Wd.lendD (w:Wd G B st s) (ek:st[k]?=some (.ddi ks us)):∃a xs,s.io k=some a∧¬B a∧s.F a=none∧s.H a=some (DkO G.w a xs)∧DkR G.R s.F s.io ks us xs∧
  ∀od,Wd G B (st.set k .dead) ⟨s.io,upd s.F a (.frz od (DkO G.w a xs)),upd s.H a (.frz od (DkO G.w a xs))⟩∧Le B s ⟨s.io,upd s.F a (.frz od (DkO G.w a xs)),upd s.H a (.frz od (DkO G.w a xs))⟩:=by
 obtain⟨a,eio,nb,hF,xs,eh,dr⟩:=w.obj k _ ek rfl
 refine⟨a,xs,eio,nb,hF,eh,dr,fun od=>?_⟩
 have nB:∀b,B b→b≠a:=fun b q z=>nb (z▸q)
 have fr:=same_upd (o:=HO.frz od (DkO G.w a xs)) hF
 have other:∀{j:Nat} {o:MO},(st.set k .dead)[j]?=some o→o.tr=true→j≠k∧st[j]?=some o:=fun {j o} e t=>by
  by_cases q:k=j
  ·subst q
   rw[List.getElem?_set_self (w.dom k a eio)] at e
   cases e
   cases t
  ·rw[List.getElem?_set_ne q] at e
   exact⟨fun z=>q z.symm,e⟩
 refine⟨⟨fun b o e=>?_,fun b q=>?_,fun b o e=>?_,fun j b e=>by rw[List.length_set];exact w.dom j b e,fun i j b oi oj e1 e2 q1 t1 q2 t2=>w.inj i j b oi oj e1 e2 (other q1 t1).2 t1 (other q2 t2).2 t2,fun j o e t=>?_,fun j o e t=>?_,w.tabM fr (upd_tbl fun ps z=>by rw[eh] at z;cases z)⟩,IoLe.refl _,fr,fun b q=>upd_ne (nB b q)⟩
 ·show upd s.H a _ b=some o
  have e:upd s.F a _ b=some o:=e
  by_cases z:b=a
  ·subst z;rw[upd_same] at e⊢;exact e
  ·rw[upd_ne z] at e⊢;exact w.sub b o e
 ·obtain⟨h1,o,h2,h3⟩:=w.hid b q
  exact⟨by show upd s.F a _ b=none;rw[upd_ne (nB b q)];exact h1,o,by show upd s.H a _ b=some o;rw[upd_ne (nB b q)];exact h2,h3⟩
 ·have e:upd s.F a _ b=some o:=e
  by_cases z:b=a
  ·subst z;rw[upd_same] at e;cases e;exact fun _ q=>by cases q
  ·rw[upd_ne z] at e;exact w.ftb b o e
 ·obtain⟨ne,ej⟩:=other e t
  obtain⟨b,e1,b1,f1,o1⟩:=w.obj j o ej t
  have na:b≠a:=fun z=>ne (w.inj j k a _ _ (z▸e1) eio ej t ek rfl)
  exact⟨b,e1,b1,by show upd s.F a _ b=none;rw[upd_ne na];exact f1,ObjR.mono (s:=s) (s':=⟨s.io,upd s.F a _,upd s.H a _⟩) (IoLe.refl _) fr (upd_ne na) o1⟩
 ·by_cases q:k=j
  ·subst q
   rw[List.getElem?_set_self (w.dom k a eio)] at e
   cases e
   exact⟨a,eio,True.intro⟩
  ·rw[List.getElem?_set_ne q] at e
   exact w.untM (s':=⟨s.io,upd s.F a _,upd s.H a _⟩) (IoLe.refl _) fr j o e t
theorem ObjR.offD {a b:Addr} {od:Obj} {xs0:DkX} {o:MO} {H':Hp} (nz:NoFz G.R) (h:s.F a=some (.frz od (DkO G.w a xs0))) (e:H' b=s.H b) (q:o.noD=true) (x:ObjR G s b o):ObjR G ⟨s.io,offF s.F a,H'⟩ b o:=by
 cases o with
 | lst xs=>obtain⟨ws,y,r⟩:=x;exact⟨ws,e.trans y,r.offD nz h q⟩
 | dic ks us=>obtain⟨ws,y,e2,r⟩:=x;exact⟨ws,e.trans y,e2,r.offD nz h q⟩
 | ddi ks us=>obtain⟨ws,y,r⟩:=x;exact⟨ws,e.trans y,r.offD nz h q⟩
 | ins c fs=>obtain⟨C,dx,gs,e0,y,r⟩:=x;exact⟨C,dx,gs,e0,e.trans y,r.offD nz h q⟩
 | cell d=>obtain⟨v,y,r⟩:=x;exact⟨v,e.trans y,r.offD nz h q⟩
 | _=>exact x.elim
theorem Wd.unlendD {a:Addr} {od:Obj} {xs:DkX} (nz:NoFz G.R) (w:Wd G B st s) (eio:s.io k=some a) (hF:s.F a=some (.frz od (DkO G.w a xs))) (dr:DkR G.R (offF s.F a) s.io ks us xs) (q:st.all MO.noD=true):Wd G B (st.set k (.ddi ks us)) (s.off a (DkO G.w a xs)):=by
 have nl:∀{j:Nat} {o:MO},st[j]?=some o→o.noD=true:=fun e=>List.all_eq_true.mp q _ (List.mem_of_getElem? e)
 have lk:=w.dom k a eio
 have nB:∀b,B b→b≠a:=fun b q z=>by
  have:=(w.hid b q).1
  rw[z,hF] at this
  cases this
 have other:∀{j:Nat} {o:MO},j≠k→(st.set k (.ddi ks us))[j]?=some o→st[j]?=some o:=fun {j o} ne e=>by
  rw[List.getElem?_set_ne (Ne.symm ne)] at e;exact e
 have far:∀{j:Nat} {o:MO} {b:Addr},st[j]?=some o→o.tr=true→s.io j=some b→b≠a:=fun {j o b} e t i z=>by
  obtain⟨c,e1,_,f1,_⟩:=w.obj j o e t
  rw[i] at e1
  cases e1
  rw[z,hF] at f1
  cases f1
 refine⟨fun b o e=>?_,fun b q=>?_,fun b o e=>?_,fun j b e=>by rw[List.length_set];exact w.dom j b e,fun i j b oi oj e1 e2 q1 t1 q2 t2=>?_,fun j o e t=>?_,fun j o e t=>?_,fun p hp=>?_⟩
 ·have e:offF s.F a b=some o:=e
  show upd s.H a _ b=some o
  by_cases z:b=a
  ·subst z;rw[offF_self] at e;cases e
  ·rw[offF_ne z] at e;rw[upd_ne z];exact w.sub b o e
 ·obtain⟨h1,o,h2,h3⟩:=w.hid b q
  exact⟨by show offF s.F a b=none;rw[offF_ne (nB b q)];exact h1,o,by show upd s.H a _ b=some o;rw[upd_ne (nB b q)];exact h2,h3⟩
 ·have e:offF s.F a b=some o:=e
  by_cases z:b=a
  ·subst z;rw[offF_self] at e;cases e
  ·rw[offF_ne z] at e;exact w.ftb b o e
 ·by_cases z1:i=k <;> by_cases z2:j=k
  ·rw[z1,z2]
  ·subst z1
   have e1:s.io i=some b:=e1
   rw[eio] at e1
   cases e1
   exact absurd rfl (far (other z2 q2) t2 e2)
  ·subst z2
   have e2:s.io j=some b:=e2
   rw[eio] at e2
   cases e2
   exact absurd rfl (far (other z1 q1) t1 e1)
  ·exact w.inj i j b oi oj e1 e2 (other z1 q1) t1 (other z2 q2) t2
 ·by_cases z:j=k
  ·subst z
   rw[List.getElem?_set_self lk] at e
   cases e
   exact⟨a,eio,fun q=>nB a q rfl,offF_self,xs,upd_same,dr⟩
  ·have ej:=other z e
   obtain⟨b,e1,b1,f1,o1⟩:=w.obj j o ej t
   have na:=far ej t e1
   exact⟨b,e1,b1,by show offF s.F a b=none;rw[offF_ne na];exact f1,o1.offD nz hF (upd_ne na) (nl ej)⟩
 ·have z:j≠k:=fun z=>by
   subst z
   rw[List.getElem?_set_self lk] at e
   cases e
   cases t
  have ej:=other z e
  obtain⟨b,i,x⟩:=w.unt j o ej t
  refine⟨b,i,?_⟩
  cases o with
  | rdd k2 u2=>
   obtain⟨od2,ys,f,dr⟩:=x
   exact⟨od2,ys,by show offF s.F a b=_;rw[offF_ne (offD_ne hF f fun z=>by unfold DkO at z;cases z)];exact f,dr.offD nz hF (nl ej)⟩
  | kc d=>obtain⟨v,q,r,c,y⟩:=x;exact⟨v,q,r,c,y.offD nz hF (nl ej)⟩
  | slp n=>exact x
  | dead=>exact True.intro
  | _=>cases t
 ·obtain⟨ps,e,t,r⟩:=w.tabs p hp
  refine⟨ps,?_,t,fun pos cv q=>?_⟩
  ·show upd s.H a _ p.1=_
   rw[upd_ne fun z=>?_]
   ·exact e
   ·have:=w.sub a _ hF
    rw[←z,e] at this
    cases this
  ·obtain⟨c,e1,e2⟩:=r pos cv q
   exact⟨c,e1,by show offF s.F a c=_;rw[offF_ne (offD_ne hF e2 fun z=>by unfold LamX.CodeO at z;cases z)];exact e2⟩
end
section
variable {P:P3}
theorem me_lendD {e:Expr} {m:EM} (i:Nat) (nz:NoFz P.G.R) (h:ME P e m):ME P e (eLendD i m):=by
 obtain⟨t,pt,ht⟩:=h.out
 refine ME.mk' (pe_lock pt) fun B0 B s st u z Q wd sl hp=>?_
 unfold eLendD at hp
 split at hp
 ·rename_i k eu
  split at hp
  ·rename_i ks us ek
   obtain⟨a,xs,eio,nb,hF,eh,dr,lk⟩:=wd.lendD ek
   refine⟨a,_,eh,True.intro,fun od=>?_⟩
   obtain⟨w1,l1⟩:=lk od
   have dr1:=dr.mono l1.fr l1.io
   obtain⟨vs,hv,hr⟩:=dr1.vals
   have sl1:=sl.mono l1
   obtain⟨v,ez,rv⟩:=sl1.get eu
   have ev:v=.ref a:=by
    cases rv with
    | ref q=>rw[show s.io k=some _ from q] at eio;cases eio;rfl
   subst ev
   have rd:Rep P.G.R (upd s.F a (.frz od (DkO P.G.w a xs))) s.io (.dd ks us) (.ref a):=.dd upd_same dr1.keys dr1.tk hv hr
   have sl2:Slo P.G P.hx B0 B ⟨s.io,upd s.F a (.frz od (DkO P.G.w a xs)),upd s.H a (.frz od (DkO P.G.w a xs))⟩ (u.set i (some (.val (.dd ks us)))) z:=by
    have:=sl1.set rd i
    rw[show z.set i (some (.ref a))=z from List.ext_getElem? fun j=>by
     by_cases q:i=j
     ·subst q;rw[List.getElem?_set_self (List.getElem?_eq_some_iff.mp ez).1,ez]
     ·rw[List.getElem?_set_ne q]] at this
    exact this
   refine ht B0 B ⟨s.io,upd s.F a (.frz od (DkO P.G.w a xs)),upd s.H a (.frz od (DkO P.G.w a xs))⟩ _ _ z _ w1 sl2 ?_
   split at hp
   ·rename_i d st' em
    rw[em]
    split at hp
    ·rename_i hc
     intro s' v l' w' r
     have hF':s'.F a=some (.frz od (DkO P.G.w a xs)):=l'.fr _ _ upd_same
     have fr:Same s.F (offF s'.F a):=fun b o q=>by
      rw[offF_ne fun z=>by rw[z,hF] at q;cases q]
      exact l'.fr _ _ (l1.fr _ _ q)
     have w2:=Wd.unlendD nz w' (l'.io _ _ eio) hF' (dr.mono fr l'.io) hc.2
     refine⟨w'.sub _ _ hF',hp (s'.off a (DkO P.G.w a xs)) v ⟨l'.io,fr,fun b q=>?_⟩ w2 (Rep.offD nz hF' hc.1 r)⟩
     have na:b≠a:=fun z=>nb (z▸q)
     show upd s'.H a _ b=s.H b
     rw[upd_ne na,l'.hid b q]
     exact upd_ne na
    ·exact hp.elim
   ·exact hp.elim
  ·exact hp.elim
 ·exact hp.elim
end
section
variable {sel:Sl3→Store→Option Nat} {u:Sl3} {st:Store} {k:Nat} {keys us:List D}
def kUnl (st:Store) (k:Nat) (kw:Res W→Prop):Res W→Prop
 | .ok w st'=>(match unlO st k st' with
  | some st2=>kw (.ok w st2)
  | none=>kw .bad)
 | _=>kw .bad
def kUnlS (st:Store) (k:Nat) (kw:SRes→Prop):SRes→Prop
 | .nx u st'=>(match unlO st k st' with
  | some st2=>kw (.nx u st2)
  | none=>kw .bad)
 | .rt w st'=>(match unlO st k st' with
  | some st2=>kw (.rt w st2)
  | none=>kw .bad)
 | .bk u st'=>(match unlO st k st' with
  | some st2=>kw (.bk u st2)
  | none=>kw .bad)
 | .ct u st'=>(match unlO st k st' with
  | some st2=>kw (.ct u st2)
  | none=>kw .bad)
 | _=>kw .bad
theorem run_lockR {m:EM} {kw:Res W→Prop} (hs:sel u st=some k) (hk:st[k]?=some (.ddi keys us)):M3.run (lockR sel m u st) kw=M3.run (m u (st.set k (.rdd keys us))) (kUnl st k kw):=by
 unfold M3.run lockR kUnl
 simp only[hs,hk]
 generalize m u (st.set k (.rdd keys us))=r
 cases r with
 | ok w st'=>
  unfold unlR
  dsimp only
  cases unlO st k st' <;> rfl
 | _=>rfl
theorem run_sLockS {m:SM} {kw:SRes→Prop} (hs:sel u st=some k) (hk:st[k]?=some (.ddi keys us)):srun (sLockS sel m u st) kw=srun (m u (st.set k (.rdd keys us))) (kUnlS st k kw):=by
 unfold srun sLockS kUnlS
 simp only[hs,hk]
 generalize m u (st.set k (.rdd keys us))=r
 cases r with
 | nx w st'=>unfold unlS;dsimp only;cases unlO st k st' <;> rfl
 | rt w st'=>unfold unlS;dsimp only;cases unlO st k st' <;> rfl
 | bk w st'=>unfold unlS;dsimp only;cases unlO st k st' <;> rfl
 | ct w st'=>unfold unlS;dsimp only;cases unlO st k st' <;> rfl
 | _=>rfl
theorem unlO_gen {st':Store} (hk:st'[k]?=some (.rdd keys us)) (h:∀(j:Nat) (a b:List D),j≠k→st'[j]?=some (MO.rdd a b)→st[j]?=some (MO.rdd a b)):unlO st k st'=some (st'.set k (.ddi keys us)):=by
 unfold unlO
 rw[hk]
 dsimp only
 refine congrArg some (List.ext_getElem? fun j=>?_)
 have lk:=(List.getElem?_eq_some_iff.mp hk).1
 by_cases q:k=j
 ·subst q
  rw[List.getElem?_set_self (by rw[fixL_len];exact lk),List.getElem?_set_self lk]
 ·rw[List.getElem?_set_ne q,List.getElem?_set_ne q,fixL_get]
  cases e:st'[j]? with
  | none=>rfl
  | some o=>
   cases o with
   | rdd a b=>
    have:=h j a b (fun z=>q z.symm) e
    rw[Option.map_some,this]
    rfl
   | _=>rfl
theorem unlO_same (hk:st[k]?=some (.ddi keys us)):unlO st k (st.set k (.rdd keys us))=some st:=by
 have lk:=(List.getElem?_eq_some_iff.mp hk).1
 rw[unlO_gen (keys:=keys) (us:=us) (List.getElem?_set_self lk) fun j a b ne e=>by rw[List.getElem?_set_ne (Ne.symm ne)] at e;exact e]
 rw[List.set_set]
 refine congrArg some (List.ext_getElem? fun j=>?_)
 by_cases q:k=j
 ·subst q;rw[List.getElem?_set_self lk,hk]
 ·rw[List.getElem?_set_ne q]
theorem kUnl_same {kw:Res W→Prop} {w:W} (hk:st[k]?=some (.ddi keys us)):kUnl st k kw (.ok w (st.set k (.rdd keys us)))=kw (.ok w st):=by
 unfold kUnl
 dsimp only
 rw[unlO_same hk]
theorem kUnlS_same {kw:SRes→Prop} (hk:st[k]?=some (.ddi keys us)):kUnlS st k kw (.nx u (st.set k (.rdd keys us)))=kw (.nx u st):=by
 unfold kUnlS
 dsimp only
 rw[unlO_same hk]
theorem run_iKeysS {m:EM} {kf:Res (List D)→Prop} (h:m u st=.ok (.val (.ref k)) st) (hk:st[k]?=some (.rdd keys us)):M3.run (iKeysS m u st) kf=kf (.ok keys st):=by
 unfold M3.run iKeysS M.bind
 rw[h]
 dsimp only
 rw[hk]
def kLendD (k:Nat) (ks us:List D) (kw:Res W→Prop):Res W→Prop
 | .ok (.val d) st'=>if d.noD=true∧st'.all MO.noD=true then kw (.ok (.val d) (st'.set k (.ddi ks us))) else kw .bad
 | _=>kw .bad
theorem run_eLendD {m:EM} {kw:Res W→Prop} (i:Nat) (hu:u[i]?=some (some (.val (.ref k)))) (hk:st[k]?=some (.ddi keys us)):M3.run (eLendD i m u st) kw=M3.run (m (u.set i (some (.val (.dd keys us)))) (st.set k .dead)) (kLendD k keys us kw):=by
 unfold M3.run eLendD kLendD
 simp only[hu,hk]
 generalize m (u.set i (some (.val (.dd keys us)))) (st.set k .dead)=r
 cases r with
 | ok w st'=>
  cases w with
  | val d=>dsimp only;split <;> rfl
  | _=>rfl
 | _=>rfl
theorem kLendD_ok {kw:Res W→Prop} {d:D} {st':Store} (h:d.noD=true∧st'.all MO.noD=true):kLendD k keys us kw (.ok (.val d) st')=kw (.ok (.val d) (st'.set k (.ddi keys us))):=if_pos h
def kLend1 (k:Nat) (xs:List D) (kw:Res W→Prop):Res W→Prop
 | .ok (.val d) st'=>if d.noL=true∧st'.all MO.noL=true then kw (.ok (.val d) (st'.set k (.lst xs))) else kw .bad
 | _=>kw .bad
theorem run_eLend1 {m:EM} {kw:Res W→Prop} (i j:Nat) {ds xs:List D} (hu:u[j]?=some (some (.val (.lst ds)))) (hd:ds[i]?=some (.ref k)) (hk:st[k]?=some (.lst xs)):M3.run (eLend1 i j m u st) kw=M3.run (m (reU (oneL k xs) u) (st.set k .dead)) (kLend1 k xs kw):=by
 unfold M3.run eLend1 kLend1
 simp only[hu,hd,hk]
 generalize m (reU (oneL k xs) u) (st.set k .dead)=r
 cases r with
 | ok w st'=>
  cases w with
  | val d=>dsimp only;split <;> rfl
  | _=>rfl
 | _=>rfl
theorem kLend1_ok {kw:Res W→Prop} {xs:List D} {d:D} {st':Store} (h:d.noL=true∧st'.all MO.noL=true):kLend1 k xs kw (.ok (.val d) st')=kw (.ok (.val d) (st'.set k (.lst xs))):=if_pos h
end
end M3
namespace My
open PySem L2 M3
theorem range_get {n i:Nat} {d:D} (h:(rangeD 0 n)[i]?=some d):d=.int i∧i<n:=by
 unfold rangeD at h
 rw[List.getElem?_map] at h
 by_cases hi:i<n
 ·rw[List.getElem?_range hi] at h
  simp at h
  exact⟨h.symm,hi⟩
 ·rw[List.getElem?_eq_none (by simpa using hi)] at h;cases h
theorem rangeD_length (lo:Int) (n:Nat):(rangeD lo n).length=n:=by simp[rangeD]
def S (l:List Nat):Str:=⟨l.toArray⟩
@[simp] theorem S_length (l:List Nat):(S l).length=l.length:=by show l.toArray.size=_;simp
@[simp] theorem S_list (l:List Nat):(S l).cps.toList=l:=by simp[S]
theorem S_app (a b:List Nat):S a++S b=S (a++b):=by
 show (⟨a.toArray++b.toArray⟩:Str)=⟨(a++b).toArray⟩
 simp
theorem S_inj {a b:List Nat} (h:S a=S b):a=b:=by have:=congrArg (fun z:Str=>z.cps.toList) h;simpa using this
theorem S_eta (z:Str):S z.cps.toList=z:=by cases z;simp[S]
theorem S_cut (l:List Nat) (lo hi:Option Int):cutS (S l) lo hi=S (cutD l lo hi):=by
 unfold cutS cutD
 rw[S_list,S_length]
 rfl
theorem cut_to {α:Type} (xs:List α) {i:Int} (h:0≤i):cutD xs none (some i)=xs.take i.toNat:=by
 obtain⟨n,rfl⟩:=Int.eq_ofNat_of_zero_le h
 unfold cutD
 rw[HT.sIx_none,HT.sIx_nat]
 simp[List.take_eq_take_iff]
theorem cut_from {α:Type} (xs:List α) {i:Int} (h:0≤i):cutD xs (some i) none=xs.drop i.toNat:=by
 obtain⟨n,rfl⟩:=Int.eq_ofNat_of_zero_le h
 unfold cutD
 rw[HT.sIx_none,HT.sIx_nat]
 simp only[Int.toNat_natCast]
 by_cases q:n≤xs.length
 ·rw[Nat.min_eq_left q];exact List.take_of_length_le (by simp)
 ·rw[Nat.min_eq_right (by omega),List.drop_eq_nil_of_le (Nat.le_refl _),List.drop_eq_nil_of_le (by omega)];simp
theorem cut_mid {α:Type} (xs:List α) {i j:Int} (h:0≤i) (h':0≤j):cutD xs (some i) (some j)=(xs.drop i.toNat).take (j.toNat - i.toNat):=by
 obtain⟨n,rfl⟩:=Int.eq_ofNat_of_zero_le h
 obtain⟨m,rfl⟩:=Int.eq_ofNat_of_zero_le h'
 unfold cutD
 rw[HT.sIx_nat,HT.sIx_nat]
 simp only[Int.toNat_natCast]
 by_cases q:n≤xs.length
 ·rw[Nat.min_eq_left q]
  rw[List.take_eq_take_iff]
  simp only[List.length_drop]
  omega
 ·rw[Nat.min_eq_right (a:=n) (by omega),List.drop_eq_nil_of_le (Nat.le_refl _),List.drop_eq_nil_of_le (by omega)];simp
theorem mul_one_sign (c n:Nat):Txt.mul (S [c]) (n:Int)=S (List.replicate n c):=by
 unfold Txt.mul
 by_cases h0:(n:Int)<1
 ·rw[if_pos h0]
  have:n=0:=by omega
  subst this;rfl
 ·rw[if_neg h0]
  by_cases h1:n=1
  ·subst h1;rfl
  ·rw[if_neg (by simp only[S_length,Bool.or_eq_true,beq_iff_eq,List.length_cons,List.length_nil];omega)]
   unfold S
   congr 1
   have all:∀(n:Nat) (acc:List Nat),List.foldl (fun x1 x2=>x1++x2) acc.toArray (List.replicate n [c].toArray)=(acc++List.replicate n c).toArray:=by
    intro n
    induction n with
    | zero=>intro acc;simp
    | succ n ih=>
     intro acc
     rw[List.replicate_succ,List.foldl_cons]
     have:acc.toArray++[c].toArray=(acc++[c]).toArray:=by simp
     rw[this,ih,List.replicate_succ]
     simp
   have:=all n []
   simpa using this
def IsNm (w:Str):Prop:=1≤w.length∧w.length≤8∧∀c∈w.cps.toList,97≤c∧c≤122
def letters:List Nat:=(List.range 26).map (97 + ·)
theorem letters_eq:("abcdefghijklmnopqrstuvwxyz" : Str)=S letters:=by decide +kernel
theorem letters_get {n:Nat} (h:n<26):letters[n]?=some (97+n):=by unfold letters;simp[h]
def wordL (d k:Nat):List Nat:=
 ((List.replicate (d % 8) (97+d / 64 % 26)).take (d / 8 % 8)++[97+(d+5 * k) % 26]++((List.replicate (d % 8) (97+d / 64 % 26)).drop (d / 8 % 8)++(List.replicate (d % 8) (97+d / 64 % 26)).take (k * (d / 3 % 3)))).take 8
def word (d k:Nat):Str:=S (wordL d k)
theorem wordL_nm (d k:Nat):1≤(wordL d k).length∧(wordL d k).length≤8∧∀c∈wordL d k,97≤c∧c≤122:=by
 unfold wordL
 refine⟨by simp;omega,by simp;omega,fun c hc=>?_⟩
 have h:=List.mem_of_mem_take hc
 have rep:∀c∈List.replicate (d % 8) (97+d / 64 % 26),97≤c∧c≤122:=fun c hc=>by rw[List.eq_of_mem_replicate hc];omega
 rcases List.mem_append.mp h with h | h
 ·rcases List.mem_append.mp h with h | h
  ·exact rep c (List.mem_of_mem_take h)
  ·rw[List.mem_singleton.mp h];omega
 ·rcases List.mem_append.mp h with h | h
  ·exact rep c (List.mem_of_mem_drop h)
  ·exact rep c (List.mem_of_mem_take h)
theorem word_nm (d k:Nat):IsNm (word d k):=by
 have:=wordL_nm d k
 exact⟨by rw[word,S_length];exact this.1,by rw[word,S_length];exact this.2.1,by rw[word,S_list];exact this.2.2⟩
theorem wordL_at (d k:Nat):(wordL d k)[min (d / 8 % 8) (d % 8)]?=some (97+(d+5 * k) % 26):=by
 unfold wordL
 rw[List.getElem?_take_of_lt (by omega),List.append_assoc,List.getElem?_append_right (by simp),List.getElem?_append_left (by simp)]
 simp
theorem word_inj {d j k:Nat} (hj:j<26) (hk:k<26) (h:word d j=word d k):j=k:=by
 have e:=S_inj h
 have a:=wordL_at d j
 rw[e,wordL_at] at a
 simp at a
 omega
def words (d n:Nat):List Str:=(List.range n).map (word d)
theorem words_nodup (d:Nat) {n:Nat} (h:n≤26):(words d n).Nodup:=by
 unfold words
 rw[List.nodup_iff_pairwise_ne,List.pairwise_map]
 refine List.Pairwise.imp_of_mem ?_ (List.nodup_iff_pairwise_ne.mp List.nodup_range)
 intro a b ha hb hab e
 exact hab (word_inj (by have:=List.mem_range.mp ha;omega) (by have:=List.mem_range.mp hb;omega) e)
theorem words_length (d n:Nat):(words d n).length=n:=by simp[words]
theorem words_nm {d n:Nat} {w:Str} (h:w∈words d n):IsNm w:=by
 unfold words at h
 obtain⟨k,_,rfl⟩:=List.mem_map.mp h
 exact word_nm d k
theorem lcL_range {gm:GM} {m:EM} {u0:Sl3} {st:Store} {n:Nat} (f:Nat→D) (h:∀i,i<n→∃u1,gm (.int i) u0=some u1∧m u1 st=.ok (.val (f i)) st) (hn:n≤1000000) :
  lcL gm tYes3 m u0 (rangeD 0 n) [] st=.ok ((List.range n).map f) st:=by
 have:=lcL_eq (st:=st) (t:=tYes3) (m:=m) (gm:=gm) (u0:=u0) (fun _=>true) (fun d=>match d with | .int i=>f i.toNat | _=>.non) (rangeD 0 n) [] (fun d hd=>?_) (by simp[rangeD_length];exact hn)
 ·rw[this]
  have e:(rangeD 0 n).filter (fun _=>true)=rangeD 0 n:=List.filter_eq_self.mpr fun _ _=>rfl
  rw[e,rangeD,List.map_map,List.nil_append]
  congr 1
  apply List.map_congr_left
  intro a _
  simp
 ·unfold rangeD at hd
  obtain⟨i,hi,rfl⟩:=List.mem_map.mp hd
  obtain⟨u1,e1,e2⟩:=h i (List.mem_range.mp hi)
  exact⟨u1,by simpa using e1,rfl,fun _=>by simpa using e2⟩
theorem lcR_run {gm:GM} {m:EM} {u0:Sl3} {st:Store} {n:Nat} {k:Res (List D)→Prop} (f:Nat→D) (hn:n≤1000000) (h:∀i,i<n→∃u1,gm (.int i) u0=some u1∧M3.run (m u1 st) (fun r=>r=.ok (.val (f i)) st)) (hk:k (.ok ((List.range n).map f) st)) :
  M3.run (lcL gm tYes3 m u0 (rangeD 0 n) [] st) k:=by
 rw[lcL_range f h hn];exact hk
theorem log2_le {n k:Nat} (h:n<2 ^ k):n.log2≤k:=by
 by_cases z:n=0
 ·subst z;simp
 ·exact Nat.le_of_lt ((Nat.log2_lt z).mpr h)
theorem two20:(2:Nat) ^ 31≤2 ^ 1048576:=Nat.pow_le_pow_right (by decide) (by decide)
theorem mulC_of {i j:Int} {a b:Nat} (ha:i.natAbs.log2≤a) (hb:j.natAbs.log2≤b) (h:a+b<100000000):mulC i j=true:=decide_eq_true (by omega)
theorem pys_strs:∀ws:List Str,D.pys (ws.map .str)=some (ws.map .str)
 | []=>rfl
 | w :: ws=>by
  rw[List.map_cons,D.pys,pys_strs ws]
  rfl
theorem okN {w:Str} (h:IsNm w):PyData.strOk w=true:=by
 unfold PyData.strOk
 rw[Array.all_eq_true_iff_forall_mem]
 intro c hc
 have:=h.2.2 c (by simpa using hc)
 exact decide_eq_true (by omega)
theorem canLay_strs:∀{ws:List Str},(∀w∈ws,PyData.strOk w=true)→PyData.canLayAll0 (ws.map .str)=true
 | [],_=>rfl
 | w :: ws,h=>by
  rw[List.map_cons,PyData.canLayAll0,PyData.canLay0,h w List.mem_cons_self,canLay_strs fun x hx=>h x (List.mem_cons_of_mem _ hx)]
  rfl
theorem depth_strs:∀ws:List Str,PyData.depthAll (ws.map .str)=0
 | []=>rfl
 | w :: ws=>by rw[List.map_cons,PyData.depthAll,PyData.depth,depth_strs ws];rfl
theorem eqF_str (neg:Bool) {x y:Str} (hx:PyData.strOk x=true) (hy:PyData.strOk y=true):eqF neg (.val (.str x)) (.val (.str y))=some (.val (.bl (if neg then !decide (x=y) else decide (x=y)))):=by
 have s:∀{z:Str},PyData.strOk z=true→SeqAt.shaped (.str z)=true:=fun {z} h=>by
  unfold SeqAt.shaped
  rw[PyData.canLay0,h,PyData.depth];rfl
 unfold eqF
 simp only[W_rd_val,D.eqv?,D.py,s hx,s hy,and_self,if_true,Option.map_some,PyData.eqv]
 congr 4
 all_goals (by_cases h:x=y <;> simp[h])
def tupS (ws:List Str):D:=.tup (ws.map .str)
theorem lc_strs {gm:GM} {t:TM} {m:EM} {u0:Sl3} {st:Store} {ws:List Str} {k:Res (List D)→Prop} (p:Str→Bool) (f:Str→D) (hn:ws.length≤1000000)
  (h:∀w∈ws,∃u1,gm (.str w) u0=some u1∧M3.run (t u1 st) (fun r=>r=.ok (p w) st)∧(p w=true→M3.run (m u1 st) (fun r=>r=.ok (.val (f w)) st))) (hk:k (.ok ((ws.filter p).map f) st)) :
  M3.run (lcL gm t m u0 (ws.map .str) [] st) k:=by
 have e:=lcL_eq (gm:=gm) (t:=t) (m:=m) (u0:=u0) (st:=st) (fun d=>match d with | .str x=>p x | _=>false) (fun d=>match d with | .str x=>f x | _=>.non) (ws.map .str) [] (fun d hd=>by
  obtain⟨w,hw,rfl⟩:=List.mem_map.mp hd
  exact h w hw) (by simpa using hn)
 rw[e]
 have e2:((ws.map D.str).filter fun d=>match d with | .str x=>p x | _=>false)=(ws.filter p).map D.str:=by
  clear e hk h hn
  induction ws with
  | nil=>rfl
  | cons w ws ih=>
   simp only[List.map_cons,List.filter_cons,ih]
   cases p w <;> simp
 rw[e2,List.map_map]
 exact hk
theorem get_map {α β:Type} {f:α→β} {l:List α} {i:Nat} {b:β} (h:(l.map f)[i]?=some b):∃a,l[i]?=some a∧b=f a:=by
 rw[List.getElem?_map] at h
 cases e:l[i]? with
 | none=>rw[e] at h;cases h
 | some a=>rw[e] at h;exact⟨a,rfl,by cases h;rfl⟩
theorem kit_tuple:kitB "tuple" "tuple" = some true:=by decide +kernel
@[simp] theorem isiF_tup (xs:List D):isiF [.val (.tup xs),.val (.ty "tuple")]=some (.val (.bl true)):=by
 unfold isiF
 simp[D.tyn,kit_tuple]
theorem lcL_mapE {α:Type} {gm:GM} {t:TM} {m:EM} {u0:Sl3} {st:Store} (f:α→D) (p:α→Bool) (g:α→D):∀(xs:List α) (acc:List D),
  (∀x∈xs,∃u1,gm (f x) u0=some u1∧t u1 st=.ok (p x) st∧(p x=true→m u1 st=.ok (.val (g x)) st))→acc.length+xs.length≤1000000→
  lcL gm t m u0 (xs.map f) acc st=.ok (acc++(xs.filter p).map g) st
 | [],acc,_,_=>by simp[lcL,M.pure]
 | x :: xs,acc,h,hz=>by
  obtain⟨u1,e1,e2,e3⟩:=h x List.mem_cons_self
  have ih:=fun acc=>lcL_mapE f p g xs acc fun d hd=>h d (List.mem_cons_of_mem _ hd)
  simp only[List.length_cons] at hz
  apply of_run
  rw[List.map_cons,lcL_cons,e1]
  simp only[run_of_some,kBind_ok,run_bind,run_quiet,e2,run_ok,kQuiet_ok,run_ite]
  cases hp:p x with
  | false=>
   rw[if_neg Bool.false_ne_true,ih acc (by omega)]
   simp[hp]
  | true=>
   rw[if_pos rfl,e3 hp]
   simp only[run_ok,kQuiet_ok,kBind_ok,run_bind,W.d,run_of_some,run_chk]
   rw[if_pos (by omega),ih _ (by simp;omega)]
   simp[hp]
theorem lcM_run {α:Type} {gm:GM} {t:TM} {m:EM} {u0:Sl3} {st:Store} {xs:List α} {k:Res (List D)→Prop} (f:α→D) (p:α→Bool) (g:α→D) (hn:xs.length≤1000000)
  (h:∀x∈xs,∃u1,gm (f x) u0=some u1∧M3.run (t u1 st) (fun r=>r=.ok (p x) st)∧(p x=true→M3.run (m u1 st) (fun r=>r=.ok (.val (g x)) st))) (hk:k (.ok ((xs.filter p).map g) st)) :
  M3.run (lcL gm t m u0 (xs.map f) [] st) k:=by
 rw[lcL_mapE f p g xs [] h (by simpa using hn)];exact hk
theorem lcA_run {α:Type} {gm:GM} {m:EM} {u0:Sl3} {st:Store} {xs:List α} {k:Res (List D)→Prop} (f:α→D) (g:α→D) (hn:xs.length≤1000000)
  (h:∀x∈xs,∃u1,gm (f x) u0=some u1∧M3.run (m u1 st) (fun r=>r=.ok (.val (g x)) st)) (hk:k (.ok (xs.map g) st)) :
  M3.run (lcL gm tYes3 m u0 (xs.map f) [] st) k:=
 lcM_run f (fun _=>true) g hn (fun x hx=>let ⟨u1,e,r⟩:=h x hx;⟨u1,e,rfl,fun _=>r⟩) (by rw[List.filter_eq_self.mpr (fun _ _=>rfl)];exact hk)
theorem kit_bool:kitB "bool" "bool" = some true:=by decide +kernel
@[simp] theorem isiF_bool (x:Bool):isiF [.val (.bl x),.val (.ty "bool")]=some (.val (.bl true)):=by
 unfold isiF
 simp[D.tyn,kit_bool]
@[simp] theorem eqF_bl (neg a b:Bool):eqF neg (.val (.bl a)) (.val (.bl b))=some (.val (.bl (if neg then !decide (a=b) else decide (a=b)))):=by
 cases neg <;> cases a <;> cases b <;> rfl
end My
namespace My
open PySem L2 M3
def mb_w_digits:SM:=(sSeq (sOwn 3 (fLst aNil))
 (sSeq (sSet 4 (eBin subF (eVar 0) (eBin powF (eC (.int 10)) (eC (.int 18)))))
 (sSeq (sFor (iRange1 (aCons (eVar 2) aNil)) (gName3 5) (sIf (tOf (eBin geF (eVar 0) (eBin powF (eC (.int 10)) (eC (.int 18))))) (sSeq (sApp 3 (eBin modF (eB intCF (aCons (eVar 4) aNil)) (eC (.int 5040))))
 (sSet 4 (eBin divF (eVar 4) (eC (.int 5040))))) (sSeq (sSet 6 (eBin modF (eB intCF (aCons (eBin addF (eBin addF (eBin mulF (eVar 0) (eC (.int 48271))) (eBin mulF (eBin addF (eVar 1) (eVar 5)) (eC (.int 69621)))) (eC (.int 7))) aNil)) (eC (.int 2147483647))))
 (sApp 3 (eBin modF (eBin modF (eB intCF (aCons (eBin addF (eBin addF (eBin mulF (eVar 6) (eVar 6)) (eBin mulF (eC (.int 40692)) (eVar 1))) (eVar 5)) aNil)) (eC (.int 1000003))) (eC (.int 5040)))))))
 (sRetO 3))))
def mf_w_digits:List D→M D:=mfn 7 mb_w_digits
def mb_w_cell_at:SM:=(sSeq (sIf (tOf (eBin ltF (eVar 1) (eB lenF (aCons (eVar 0) aNil)))) (sRetV (eBin ixF (eVar 0) (eVar 1))) sNext)
 (sSeq (sIf (tOf (eBin gtF (eB lenF (aCons (eVar 0) aNil)) (eC (.int 0)))) (sRetV (eBin addF (eBin modF (eB intCF (aCons (eBin ixF (eVar 0) (eBin modF (eVar 1) (eB lenF (aCons (eVar 0) aNil)))) aNil)) (eC (.int 1000003))) (eBin mulF (eC (.int 1009)) (eVar 1)))) sNext)
 (sRetV (eVar 1))))
def mf_w_cell_at:List D→M D:=mfn 2 mb_w_cell_at
def mb_w_spelled:SM:=(sSeq (sSet 2 (eC (.str "abcdefghijklmnopqrstuvwxyz")))
 (sSeq (sSet 3 (eBin mulF (eBin ixF (eVar 2) (eBin modF (eBin divF (eB intCF (aCons (eVar 0) aNil)) (eC (.int 64))) (eC (.int 26)))) (eBin modF (eB intCF (aCons (eVar 0) aNil)) (eC (.int 8)))))
 (sSeq (sSet 4 (eBin modF (eBin divF (eB intCF (aCons (eVar 0) aNil)) (eC (.int 8))) (eC (.int 8))))
 (sSeq (sSet 5 (eBin modF (eBin divF (eB intCF (aCons (eVar 0) aNil)) (eC (.int 3))) (eC (.int 3))))
 (sSeq (sSet 6 (eF (fLc (iRange1 (aCons (eVar 1) aNil)) (gName3 8) tYes3 (eBin ixF (eVar 2) (eBin modF (eB intCF (aCons (eBin addF (eVar 0) (eBin mulF (eC (.int 5)) (eVar 8))) aNil)) (eC (.int 26)))) [8])))
 (sSeq (sSet 7 (eF (fLc (iRange1 (aCons (eVar 1) aNil)) (gName3 8) tYes3 (eBin addF (eSlA (eVar 3) (pSome (eVar 4)) pNone) (eSlA (eVar 3) pNone (pSome (eBin mulF (eVar 8) (eVar 5))))) [8])))
 (sRetV (eF (fLc (iRange1 (aCons (eVar 1) aNil)) (gName3 8) tYes3 (eSlA (eBin addF (eBin addF (eSlA (eVar 3) pNone (pSome (eVar 4))) (eBin ixF (eVar 6) (eVar 8))) (eBin ixF (eVar 7) (eVar 8))) pNone (pSome (eC (.int 8)))) [8])))))))))
def mf_w_spelled:List D→M D:=mfn 9 mb_w_spelled
def mb_w_ordered:SM:=(sSeq (sOwnD 2)
 (sSeq (sFor (iSeq (eBin addF (eF (fB lstCF (aCons (eVar 0) aNil))) (eF (fLst (aCons (eTup (aCons (eC (.str "")) (aCons (eVar 1) aNil))) aNil))))) (gName3 3) (sSeq (sSet 4 (eBin addF (eF (fLc (iSeq (eBin ixF (eVar 3) (eC (.int 1)))) (gName3 9) tYes3 (eBin dgF (eVar 2) (eVar 9)) [9])) (eF (fLst (aCons (eF (fB lstCF (aCons (eBin ixF (eVar 3) (eC (.int 1))) aNil))) aNil)))))
 (sSeq (sSet 5 (eF (fLst (aCons (eBin ixF (eVar 3) (eC (.int 0))) aNil))))
 (sSeq (sFor (iRange1 (aCons (eC (.int 3)) aNil)) (gName3 6) (sSeq (sSet 7 (eF (fLc (iSeq (eVar 4)) (gName3 10) (tOf (eBin gtF (eB lenF (aCons (eVar 10) aNil)) (eC (.int 0)))) (eBin ixF (eVar 10) (eC (.int 0))) [10])))
 (sSeq (sSet 8 (eF (fLc (iSeq (eVar 7)) (gName3 9) (tNot3 (tTru (eB anyF (aCons (eF (fLc (iSeq (eVar 4)) (gName3 10) tYes3 (eBin (inF false) (eVar 9) (eSlA (eVar 10) (pSome (eC (.int 1))) pNone)) [10])) aNil)))) (eVar 9) [9])))
 (sSeq (sSet 5 (eBin addF (eVar 5) (eSlA (eVar 8) pNone (pSome (eC (.int 1))))))
 (sSet 4 (eF (fLc (iSeq (eVar 4)) (gName3 10) tYes3 (eF (fLc (iSeq (eVar 10)) (gName3 9) (tOf (eBin (inF true) (eVar 9) (eVar 5))) (eVar 9) [9])) [10])))))))
 (sSeq (sIf (tTru (eB anyF (aCons (eF (fLc (iSeq (eVar 4)) (gName3 10) tYes3 (eBin gtF (eB lenF (aCons (eVar 10) aNil)) (eC (.int 0))) [10])) aNil))) (sRetV (eC .non)) sNext)
 (sSetK 2 (eBin ixF (eVar 3) (eC (.int 0))) (eVar 5)))))))
 (sRetV (eSlA (eBin dgF (eVar 2) (eC (.str ""))) (pSome (eC (.int 1))) pNone))))
def mf_w_ordered:List W→M D:=mfnW 11 mb_w_ordered
def mb_w_class_list:SM:=(sSeq (sOwn 2 (fLst aNil))
 (sSeq (sFor (iRange1 (aCons (eB lenF (aCons (eVar 1) aNil)) aNil)) (gName3 3) (sSeq (sSet 4 (eBin addF (eF (fLst (aCons (eTup aNil) aNil))) (eF (fLc (iSeq (eSlA (eVar 1) pNone (pSome (eVar 3)))) (gName3 6) tYes3 (eTup (aCons (eVar 6) aNil)) [6]))))
 (sSeq (sIf (tOf (eBin (eqF false) (eVar 3) (eC (.int 2)))) (sSet 4 (eBin addF (eVar 4) (eF (fLst (aCons (eTup (aCons (eBin ixF (eVar 1) (eC (.int 0))) (aCons (eBin ixF (eVar 1) (eC (.int 1))) aNil))) (aCons (eTup (aCons (eBin ixF (eVar 1) (eC (.int 1))) (aCons (eBin ixF (eVar 1) (eC (.int 0))) aNil))) aNil)))))) sNext)
 (sSeq (sSet 5 (eBin ixF (eVar 4) (eBin modF (eB intCF (aCons (eBin ixF (eVar 0) (eVar 3)) aNil)) (eB lenF (aCons (eVar 4) aNil)))))
 (sSeq (sIf (tOf (eBin (isNF false) (eLend 2 (eCallW 2 mf_w_ordered (aCons (eVar 2) (aCons (eVar 5) aNil)))) (eC .non))) (sSet 5 (eTup aNil)) sNext)
 (sApp 2 (eTup (aCons (eBin ixF (eVar 1) (eVar 3)) (aCons (eVar 5) aNil)))))))))
 (sRetO 2)))
def mf_w_class_list:List D→M D:=mfn 7 mb_w_class_list
def mb_is_word:SM:=(sSeq (sIf (tNot3 (tTru (eB isi2F (aCons (eVar 0) (aCons (eC (.ty "str")) aNil))))) (sRetV (eC (.bl false))) sNext)
 (sRetV (eAnd (eChain leF leF (eC (.int 1)) (eB lenF (aCons (eVar 0) aNil)) (eC (.int 8))) (eB allF (aCons (eF (fLc (iSeq (eVar 0)) (gName3 1) tYes3 (eBin (inF false) (eVar 1) (eC (.str "abcdefghijklmnopqrstuvwxyz"))) [1])) aNil)))))
def mf_is_word:List D→M D:=mfn 2 mb_is_word
def mb_good_names:SM:=(sSeq (sIf (tOr3 (tNot3 (tTru (eB isi2F (aCons (eVar 0) (aCons (eC (.ty "list")) aNil))))) (tNot3 (tOf (eChain leF leF (eVar 1) (eB lenF (aCons (eVar 0) aNil)) (eVar 2))))) (sRetV (eC (.bl false))) sNext)
 (sSeq (sIf (tNot3 (tTru (eB allF (aCons (eF (fLc (iSeq (eVar 0)) (gName3 3) tYes3 (eCall 1 mf_is_word (aCons (eVar 3) aNil)) [3])) aNil)))) (sRetV (eC (.bl false))) sNext)
 (sRetV (eBin (eqF false) (eLenSet (eVar 0)) (eB lenF (aCons (eVar 0) aNil))))))
def mf_good_names:List D→M D:=mfn 4 mb_good_names
def mb_are_chosen:SM:=(sSeq (sIf (tNot3 (tTru (eB isi2F (aCons (eVar 0) (aCons (eC (.ty "tuple")) aNil))))) (sRetV (eC (.bl false))) sNext)
 (sRetV (eB allF (aCons (eF (fLc (iSeq (eVar 0)) (gName3 2) tYes3 (eAnd (eBin (inF false) (eVar 2) (eVar 1)) (eBin (eqF false) (eCnt (eVar 0) (eVar 2)) (eC (.int 1)))) [2])) aNil))))
def mf_are_chosen:List D→M D:=mfn 3 mb_are_chosen
def mb_good_classes:SM:=(sSeq (sIf (tNot3 (tTru (eB isi2F (aCons (eVar 0) (aCons (eC (.ty "list")) aNil))))) (sRetV (eC (.bl false))) sNext)
 (sSeq (sIf (tNot3 (tTru (eB allF (aCons (eF (fLc (iSeq (eVar 0)) (gName3 2) tYes3 (eAnd (eB isi2F (aCons (eVar 2) (aCons (eC (.ty "tuple")) aNil))) (eBin (eqF false) (eB lenF (aCons (eVar 2) aNil)) (eC (.int 2)))) [2])) aNil)))) (sRetV (eC (.bl false))) sNext)
 (sSeq (sSet 1 (eF (fLc (iSeq (eVar 0)) (gName3 2) tYes3 (eBin ixF (eVar 2) (eC (.int 0))) [2])))
 (sSeq (sIf (tNot3 (tTru (eCall 3 mf_good_names (aCons (eVar 1) (aCons (eC (.int 1)) (aCons (eC (.int 3)) aNil)))))) (sRetV (eC (.bl false))) sNext)
 (sRetV (eB allF (aCons (eF (fLc (iRange1 (aCons (eB lenF (aCons (eVar 1) aNil)) aNil)) (gName3 3) tYes3 (eCall 2 mf_are_chosen (aCons (eBin ixF (eBin ixF (eVar 0) (eVar 3)) (eC (.int 1))) (aCons (eSlA (eVar 1) pNone (pSome (eVar 3))) aNil))) [3])) aNil)))))))
def mf_good_classes:List D→M D:=mfn 4 mb_good_classes
def mb_free_name:SM:=(sSeq (sFor (iSeq (eVar 0)) (gName3 1) (sIf (tNot3 (tTru (eB anyF (aCons (eF (fLc (iSeq (eVar 0)) (gName3 2) tYes3 (eBin (inF false) (eBin ixF (eVar 1) (eC (.int 0))) (eSlA (eVar 2) (pSome (eC (.int 1))) pNone)) [2])) aNil)))) (sRetV (eBin ixF (eVar 1) (eC (.int 0)))) sNext))
 (sRaise "NoOrder"))
def mf_free_name:List D→M D:=mfn 3 mb_free_name
def mb_merge_orders:SM:=(sSeq (sSet 1 (eF (fLc (iSeq (eVar 0)) (gName3 5) (tOf (eBin gtF (eB lenF (aCons (eVar 5) aNil)) (eC (.int 0)))) (eB tupCF (aCons (eVar 5) aNil)) [5])))
 (sSeq (sOwn 2 (fLst aNil))
 (sSeq (whileL (tTru (eVar 1)) (sSeq (sSet 3 (eCall 1 mf_free_name (aCons (eVar 1) aNil)))
 (sSeq (sApp 2 (eVar 3))
 (sSeq (sSet 4 (eF (fLc (iSeq (eVar 1)) (gName3 5) tYes3 (eB tupCF (aCons (eF (fLc (iSeq (eVar 5)) (gName3 6) (tOf (eBin (eqF true) (eVar 6) (eVar 3))) (eVar 6) [6])) aNil)) [5])))
 (sSet 1 (eF (fLc (iSeq (eVar 4)) (gName3 5) (tOf (eBin gtF (eB lenF (aCons (eVar 5) aNil)) (eC (.int 0)))) (eVar 5) [5])))))) 1000)
 (sRetV (eB tupCF (aCons (eVar 2) aNil))))))
def mf_merge_orders:List D→M D:=mfn 7 mb_merge_orders
def mb_class_orders:SM:=(sSeq (sOwnD 1)
 (sSeq (sFor (iSeq (eVar 0)) (gTup3 2 (gCons3 (gName3 2) (gCons3 (gName3 3) gNil3))) (sSeq (sSet 4 (eF (fLc (iSeq (eVar 3)) (gName3 5) tYes3 (eBin dgF (eVar 1) (eVar 5)) [5])))
 (sSetK 1 (eVar 2) (eBin addF (eTup (aCons (eVar 2) aNil)) (eCall 1 mf_merge_orders (aCons (eBin addF (eVar 4) (eF (fLst (aCons (eVar 3) aNil)))) aNil))))))
 (sRetD 1)))
def mf_class_orders:List D→M D:=mfn 6 mb_class_orders
def mb_bad_part:SM:=(sSeq (sIf (tNot3 (tTru (eCall 3 mf_good_names (aCons (eVar 0) (aCons (eC (.int 1)) (aCons (eC (.int 3)) aNil)))))) (sRetV (eC (.str "methods"))) sNext)
 (sSeq (sIf (tNot3 (tTru (eCall 3 mf_good_names (aCons (eVar 1) (aCons (eC (.int 0)) (aCons (eC (.int 4)) aNil)))))) (sRetV (eC (.str "layers"))) sNext)
 (sSeq (sIf (tNot3 (tTru (eCall 2 mf_are_chosen (aCons (eVar 2) (aCons (eVar 1) aNil))))) (sRetV (eC (.str "inner"))) sNext)
 (sSeq (sIf (tOf (eBin (inF true) (eVar 3) (eTup (aCons (eC (.str "keep")) (aCons (eC (.str "live")) aNil))))) (sRetV (eC (.str "running"))) sNext)
 (sSeq (sIf (tOf (eBin (inF true) (eVar 4) (eTup (aCons (eC (.str "maker")) (aCons (eC (.str "caller")) aNil))))) (sRetV (eC (.str "stored"))) sNext)
 (sRetV (eC .non)))))))
def mf_bad_part:List D→M D:=mfn 5 mb_bad_part
def mb_good_row:SM:=(sSeq (sIf (tNot3 (tTru (eB isi2F (aCons (eVar 0) (aCons (eC (.ty "str")) aNil))))) (sRetV (eC (.bl false))) sNext)
 (sSeq (sIf (tOf (eBin (inF false) (eVar 0) (eC (.ctup ((["set 0","set 1","if","else","end","proceed","run","yield"]:List Str).map .str))))) (sRetV (eC (.bl true))) sNext)
 (sSeq (sSet 3 (eM1 splitF (eVar 0) (eC (.str " "))))
 (sSeq (sIf (tOf (eBin (eqF true) (eB lenF (aCons (eVar 3) aNil)) (eC (.int 2)))) (sRetV (eC (.bl false))) sNext)
 (sSeq (sIf (tOf (eBin (inF false) (eBin ixF (eVar 3) (eC (.int 0))) (eTup (aCons (eC (.str "say")) (aCons (eC (.str "ask")) aNil))))) (sRetV (eCall 1 mf_is_word (aCons (eBin ixF (eVar 3) (eC (.int 1))) aNil))) sNext)
 (sSeq (sIf (tOf (eBin (inF false) (eBin ixF (eVar 3) (eC (.int 0))) (eTup (aCons (eC (.str "on")) (aCons (eC (.str "off")) aNil))))) (sRetV (eBin (inF false) (eBin ixF (eVar 3) (eC (.int 1))) (eVar 1))) sNext)
 (sRetV (eAnd (eBin (inF false) (eBin ixF (eVar 3) (eC (.int 0))) (eTup (aCons (eC (.str "call")) (aCons (eC (.str "store")) aNil)))) (eBin (inF false) (eBin ixF (eVar 3) (eC (.int 1))) (eVar 2))))))))))
def mf_good_row:List D→M D:=mfn 4 mb_good_row
def mb_switches:SM:=(sRetV (eOr (eM1 startsF (eVar 0) (eC (.str "on "))) (eM1 startsF (eVar 0) (eC (.str "off ")))))
def mf_switches:List D→M D:=mfn 1 mb_switches
def mb_well_nested:SM:=(sSeq (sOwn 1 (fLst aNil))
 (sSeq (sFor (iSeq (eVar 0)) (gName3 2) (sIf (tOr3 (tOf (eBin (eqF false) (eVar 2) (eC (.str "if")))) (tTru (eCall 1 mf_switches (aCons (eVar 2) aNil)))) (sSeq (sApp 1 (eVar 2))
 (sIf (tOf (eBin gtF (eB lenF (aCons (eVar 1) aNil)) (eC (.int 3)))) (sRetV (eC (.bl false))) sNext)) (sIf (tOf (eBin (eqF false) (eVar 2) (eC (.str "else")))) (sSeq (sIf (tOr3 (tOf (eBin (eqF false) (eB lenF (aCons (eVar 1) aNil)) (eC (.int 0)))) (tOf (eBin (eqF true) (eBin ixF (eVar 1) (eNeg (eC (.int 1)))) (eC (.str "if"))))) (sRetV (eC (.bl false))) sNext)
 (sSetI 1 (eNeg (eC (.int 1))) (eC (.str "else")))) (sIf (tOf (eBin (eqF false) (eVar 2) (eC (.str "end")))) (sSeq (sIf (tOf (eBin (eqF false) (eB lenF (aCons (eVar 1) aNil)) (eC (.int 0)))) (sRetV (eC (.bl false))) sNext)
 (sPop 1)) sNext))))
 (sRetV (eBin (eqF false) (eB lenF (aCons (eVar 1) aNil)) (eC (.int 0))))))
def mf_well_nested:List D→M D:=mfn 3 mb_well_nested
def mb_good_body:SM:=(sSeq (sIf (tNot3 (tTru (eB isi2F (aCons (eVar 0) (aCons (eC (.ty "tuple")) aNil))))) (sRetV (eC (.bl false))) sNext)
 (sSeq (sIf (tOr3 (tOf (eBin gtF (eB lenF (aCons (eVar 0) aNil)) (eC (.int 10)))) (tOf (eBin gtF (eCnt (eVar 0) (eC (.str "proceed"))) (eC (.int 2))))) (sRetV (eC (.bl false))) sNext)
 (sSeq (sIf (tNot3 (tTru (eB allF (aCons (eF (fLc (iSeq (eVar 0)) (gName3 3) tYes3 (eCall 3 mf_good_row (aCons (eVar 3) (aCons (eVar 1) (aCons (eVar 2) aNil)))) [3])) aNil)))) (sRetV (eC (.bl false))) sNext)
 (sRetV (eCall 1 mf_well_nested (aCons (eVar 0) aNil))))))
def mf_good_body:List D→M D:=mfn 4 mb_good_body
def mb_good_bodies:SM:=(sSeq (sIf (tNot3 (tTru (eB isi2F (aCons (eVar 0) (aCons (eC (.ty "dict")) aNil))))) (sRetV (eC (.bl false))) sNext)
 (sSeq (sFor (iKeysDD (eVar 0)) (gName3 4) (sSeq (sIf (tOr3 (tNot3 (tTru (eB isi2F (aCons (eVar 4) (aCons (eC (.ty "tuple")) aNil))))) (tOf (eBin (eqF true) (eB lenF (aCons (eVar 4) aNil)) (eC (.int 3))))) (sRetV (eC (.bl false))) sNext)
 (sSeq (sIf (tAnd3 (tOf (eBin (eqF true) (eBin ixF (eVar 4) (eC (.int 0))) (eC (.str "")))) (tOf (eBin (inF true) (eBin ixF (eVar 4) (eC (.int 0))) (eVar 2)))) (sRetV (eC (.bl false))) sNext)
 (sSeq (sIf (tOr3 (tOf (eBin (inF true) (eBin ixF (eVar 4) (eC (.int 1))) (eVar 1))) (tOf (eBin (inF true) (eBin ixF (eVar 4) (eC (.int 2))) (eVar 3)))) (sRetV (eC (.bl false))) sNext)
 (sIf (tNot3 (tTru (eCall 3 mf_good_body (aCons (eGetDD (eVar 0) (eVar 4)) (aCons (eVar 2) (aCons (eVar 3) aNil)))))) (sRetV (eC (.bl false))) sNext)))))
 (sRetV (eC (.bl true)))))
def mf_good_bodies:List D→M D:=mfn 5 mb_good_bodies
end My
namespace My
open PySem L2 M3
set_option maxHeartbeats 4000000 in
theorem cell_at_spec (ns:List Int) (k:Nat) (hk:k<1000000) (hb:∀i∈ns,i.natAbs.log2≤1048576) (hl:ns.length≤63) (st:Store) :
  ∃c:Int,mf_w_cell_at [.ro (ns.map .int),.int k] st=.ok (.int c) st∧c.natAbs.log2≤1048576:=by
 have hs:sizeLine=16777216:=sizeLine_eq
 by_cases h1:k<ns.length
 ·refine⟨ns[k],of_run ?_,hb _ (List.getElem_mem h1)⟩
  rw[mf_w_cell_at,run_mfn]
  simp[mb_w_cell_at,atN,h1]
 ·by_cases h2:0<ns.length
  ·have h3:k % ns.length<ns.length:=Nat.mod_lt _ h2
   have hat:atI (ns.map D.int) ((k:Int) % (ns.length:Int))=some (.int ns[k % ns.length]):=by
    have e3:((k:Int) % (ns.length:Int))=((k % ns.length:Nat):Int):=by omega
    rw[e3,atN];simp[h3]
   refine⟨ns[k % ns.length] % 1000003+1009 * k,of_run ?_,?_⟩
   ·rw[mf_w_cell_at,run_mfn]
    have hm:mulC 1009 k=true:=by
     unfold mulC
     have:=log2_le (n:=(k:Int).natAbs) (k:=20) (by omega)
     have e:Nat.log2 (Int.natAbs 1009)=9:=by decide
     exact decide_eq_true (by omega)
    simp[mb_w_cell_at,h1,h2,hat,hm]
   ·refine log2_le (Nat.lt_of_lt_of_le ?_ two20)
    have:=Int.emod_nonneg ns[k % ns.length] (b:=1000003) (by decide)
    have:=Int.emod_lt_of_pos ns[k % ns.length] (b:=1000003) (by decide)
    omega
  ·refine⟨k,of_run ?_,log2_le (Nat.lt_of_lt_of_le (m:=2 ^ 31) (by omega) two20)⟩
   rw[mf_w_cell_at,run_mfn]
   simp[mb_w_cell_at,h1,h2]
def Draws (n:Nat) (ds:List Int):Prop:=ds.length=n∧∀d∈ds,0≤d∧d<5040
set_option maxHeartbeats 4000000 in
theorem digits_spec (c:Int) (salt many:Nat) (hc:c.natAbs.log2≤1048576) (hs:salt<1000000) (hm:many≤1000) (st:Store) :
  ∃ds:List Int,mf_w_digits [.int c,.int salt,.int many] st=.ok (.lst (ds.map .int)) st∧Draws many ds:=by
 have hz:sizeLine=16777216:=sizeLine_eq
 suffices h:M3.run (mf_w_digits [.int c,.int salt,.int many] st) (fun r=>∃ds:List Int,r=.ok (.lst (ds.map .int)) st∧Draws many ds) by
  obtain⟨ds,e,h⟩:=h
  exact⟨ds,e,h⟩
 rw[mf_w_digits,run_mfn]
 have hr : -1000000≤(many:Int)∧(many:Int)≤1000000:=by omega
 simp[mb_w_digits,hr]
 refine forL_run (fun i u st'=>st'=st∧∃(ds:List Int) (rest:Int) (x y:Option W),Draws i ds∧u=[some (.val (.int c)),some (.val (.int salt)),some (.val (.int many)),some (.bor (ds.map .int)),some (.val (.int rest)),x,y]) ?_ ?_ ?_
 ·exact⟨rfl,[],_,none,none,⟨rfl,by simp⟩,rfl⟩
 ·rintro i d u st' hd ⟨rfl,ds,rest,x,y,hD,rfl⟩
  obtain⟨rfl,hi⟩:=range_get hd
  refine⟨_,rfl,?_⟩
  have hlen:ds.length<1000000:=by rw[hD.1];omega
  by_cases hb:(1000000000000000000:Int)≤c
  ·simp[hb,hlen]
   refine⟨ds++[rest % 5040],⟨by simp[hD.1],fun e he=>?_⟩,by simp⟩
   rcases List.mem_append.mp he with q | q
   ·exact hD.2 e q
   ·rw[List.mem_singleton.mp q];omega
  ·have m1:mulC c 48271=true:=mulC_of hc (b:=16) (by decide) (by omega)
   have m2:mulC ((salt:Int)+(i:Int)) 69621=true:=mulC_of (a:=40) (log2_le (by omega)) (b:=17) (by decide) (by omega)
   generalize hq:(c * 48271+((salt:Int)+(i:Int)) * 69621+7) % 2147483647=q
   have q0:0≤q∧q<2147483647:=by omega
   have m3:mulC q q=true:=mulC_of (a:=40) (log2_le (by omega)) (b:=40) (log2_le (by omega)) (by omega)
   have m4:mulC 40692 (salt:Int)=true:=mulC_of (a:=16) (by decide) (b:=40) (log2_le (by omega)) (by omega)
   simp[hb,hlen,m1,m2,hq,m3,m4]
   refine⟨ds++[(q * q+40692 * (salt:Int)+(i:Int)) % 1000003 % 5040],⟨by simp[hD.1],fun e he=>?_⟩,by simp⟩
   rcases List.mem_append.mp he with h | h
   ·exact hD.2 e h
   ·rw[List.mem_singleton.mp h];omega
 ·rintro u st' ⟨rfl,ds,rest,x,y,hD,rfl⟩
  rw[rangeD_length] at hD
  simp
  exact⟨ds,rfl,hD⟩
set_option maxHeartbeats 4000000 in
theorem spelled_spec (d many:Nat) (hd:d<5040) (hm:many≤26) (st:Store):mf_w_spelled [.int d,.int many] st=.ok (.lst ((words d many).map .str)) st:=by
 apply of_run
 rw[mf_w_spelled,run_mfn]
 have e1:(d:Int) / 64 % 26=((d / 64 % 26:Nat):Int):=by omega
 have e2:(d:Int) % 8=((d % 8:Nat):Int):=by omega
 have e3:(d:Int) / 8 % 8=((d / 8 % 8:Nat):Int):=by omega
 have e4:(d:Int) / 3 % 3=((d / 3 % 3:Nat):Int):=by omega
 have a1:atI letters ((d:Int) / 64 % 26)=some (97+d / 64 % 26):=by rw[e1,atN,letters_get (by omega)]
 have m1:MulS ⟨#[97+d / 64 % 26]⟩ ((d:Int) % 8)=true:=decide_eq_true ⟨by omega,by omega,by show (#[97+d / 64 % 26]:Array Nat).size≤1000;simp⟩
 have x1:Txt.mul ⟨#[97+d / 64 % 26]⟩ ((d:Int) % 8)=S (List.replicate (d % 8) (97+d / 64 % 26)):=by rw[e2];exact mul_one_sign _ _
 have r1 : -1000000≤(many:Int)∧(many:Int)≤1000000:=by omega
 have l1:letters.length≤1000000:=by decide
 simp only[mb_w_spelled,letters_eq]
 simp[a1,m1,x1,r1,l1]
 refine lcR_run (fun k=>.str (S [97+(d+5 * k) % 26])) (by omega) (fun i hi=>⟨_,rfl,?_⟩) ?_
 ·have e:((d:Int)+5 * (i:Int)) % 26=(((d+5 * i) % 26:Nat):Int):=by omega
  have a:atI letters (((d:Int)+5 * (i:Int)) % 26)=some (97+(d+5 * i) % 26):=by rw[e,atN,letters_get (by omega)]
  have m:mulC 5 (i:Int)=true:=mulC_of (a:=3) (by decide) (b:=40) (log2_le (by omega)) (by omega)
  simp[m,a,l1]
  rfl
 simp[r1]
 generalize hF:List.replicate (d % 8) (97+d / 64 % 26)=F
 have lF:F.length≤7:=by rw[←hF,List.length_replicate];omega
 refine lcR_run (fun k=>.str (S (F.drop (d / 8 % 8)++F.take (k * (d / 3 % 3))))) (by omega) (fun i hi=>⟨_,rfl,?_⟩) ?_
 ·have m:mulC (i:Int) ((d:Int) / 3 % 3)=true:=mulC_of (a:=40) (log2_le (by omega)) (b:=40) (log2_le (by omega)) (by omega)
  have c1:cutD F (some ((d:Int) / 8 % 8)) none=F.drop (d / 8 % 8):=by rw[e3,cut_from _ (by omega)];rfl
  have c2:cutD F none (some ((i:Int) * ((d:Int) / 3 % 3)))=F.take (i * (d / 3 % 3)):=by
   rw[e4,show ((i:Int) * ((d / 3 % 3:Nat):Int))=((i * (d / 3 % 3):Nat):Int) by simp,cut_to _ (by omega)];rfl
  have z1:F.length - d / 8 % 8+min (i * (d / 3 % 3)) F.length≤1000000:=by omega
  simp[m,S_cut,c1,c2,S_app,z1,show F.length≤1000000 by omega]
 simp[r1]
 refine lcR_run (fun k=>.str (word d k)) (by omega) (fun i hi=>⟨_,rfl,?_⟩) ?_
 ·have c1:cutD F none (some ((d:Int) / 8 % 8))=F.take (d / 8 % 8):=by rw[e3,cut_to _ (by omega)];rfl
  have c3:∀l:List Nat,cutD l none (some 8)=l.take 8:=fun l=>by rw[cut_to _ (by omega)];rfl
  simp[S_cut,c1,S_app,atN,hi,show F.length≤1000000 by omega,show min (d / 8 % 8) F.length+1≤1000000 by omega,c3]
  have z2:min (d / 8 % 8) F.length+1+(F.length - d / 8 % 8+min (i * (d / 3 % 3)) F.length)≤1000000:=by omega
  refine⟨z2,by omega,?_⟩
  unfold word wordL
  rw[hF]
  simp
 ·simp[words]
end My
namespace My
open PySem L2 M3
abbrev Ok (w:Str):Prop:=PyData.strOk w=true
abbrev Oks (ws:List Str):Prop:=∀w∈ws,PyData.strOk w=true
theorem any_strs (a:Str):∀xs:List Str,((xs.map PyData.str).any fun z=>PyData.eqv z (.str a))=decide (a∈xs)
 | []=>by simp
 | x :: xs=>by
  rw[List.map_cons,List.any_cons,any_strs a xs,PyData.eqv]
  by_cases h:x=a
  ·subst h;simp
  ·have h2:¬a=x:=fun e=>h e.symm
   simp[h,h2]
theorem shaped_str {a:Str} (h:Ok a):SeqAt.shaped (.str a)=true:=by
 unfold SeqAt.shaped
 rw[PyData.canLay0,h,PyData.depth];rfl
theorem shaped_lst {zs:List Str} (h:Oks zs):SeqAt.shaped (.list (zs.map .str))=true:=by
 unfold SeqAt.shaped
 rw[PyData.canLay0,canLay_strs h,PyData.depth,depth_strs];rfl
theorem shaped_tup {zs:List Str} (h:Oks zs):SeqAt.shaped (.tuple (zs.map .str))=true:=by
 unfold SeqAt.shaped
 rw[PyData.canLay0,canLay_strs h,PyData.depth,depth_strs];rfl
theorem inF_lst (neg:Bool) {a:Str} {xs:List Str} (ha:Ok a) (hx:Oks xs):inF neg (.val (.str a)) (.val (.lst (xs.map .str)))=some (.val (.bl (if neg then !decide (a∈xs) else decide (a∈xs)))):=by
 unfold inF
 dsimp only[W.dic]
 simp only[W_rd_val,D.py,pys_strs,Option.map_some,shaped_str ha,shaped_lst hx,and_self,if_true,any_strs]
theorem inF_tup (neg:Bool) {a:Str} {xs:List Str} (ha:Ok a) (hx:Oks xs):inF neg (.val (.str a)) (.val (.tup (xs.map .str)))=some (.val (.bl (if neg then !decide (a∈xs) else decide (a∈xs)))):=by
 unfold inF
 dsimp only[W.dic]
 simp only[W_rd_val,D.py,pys_strs,Option.map_some,shaped_str ha,shaped_tup hx,and_self,if_true,any_strs]
theorem inF_ctup (neg:Bool) {a:Str} {xs:List Str} (ha:Ok a) (hx:Oks xs):inF neg (.val (.str a)) (.val (.ctup (xs.map .str)))=some (.val (.bl (if neg then !decide (a∈xs) else decide (a∈xs)))):=by
 unfold inF
 dsimp only[W.dic]
 simp only[W_rd_val,D.py,pys_strs,Option.map_some,shaped_str ha,shaped_tup hx,and_self,if_true,any_strs]
theorem filter_strs (a:Str):∀xs:List Str,((xs.map PyData.str).filter fun z=>PyData.eqv z (.str a)).length=xs.count a
 | []=>by simp
 | x :: xs=>by
  rw[List.map_cons,List.filter_cons,PyData.eqv,List.count_cons]
  have ih:=filter_strs a xs
  by_cases h:x=a
  ·subst h;simp[ih]
  ·simp[h,ih]
theorem cutD_map {α β:Type} (f:α→β) (xs:List α) (lo hi:Option Int):cutD (xs.map f) lo hi=(cutD xs lo hi).map f:=by
 unfold cutD
 rw[List.length_map,←List.map_drop,←List.map_take]
theorem cut1 {α:Type} (xs:List α):cutD xs (some 1) none=xs.tail:=by rw[cut_from _ (by decide)];simp
theorem cutT {α:Type} (xs:List α) (n:Nat):cutD xs none (some (n:Int))=xs.take n:=by rw[cut_to _ (by omega)];simp
theorem eqF_int (neg:Bool) (i j:Int):eqF neg (.val (.int i)) (.val (.int j))=some (.val (.bl (if neg then !decide (i=j) else decide (i=j)))):=by
 unfold eqF
 have s:∀i:Int,SeqAt.shaped (.int i)=true:=fun i=>by unfold SeqAt.shaped;rw[PyData.canLay0,PyData.depth];rfl
 simp only[W_rd_val,D.eqv?,D.py,s,and_self,if_true,Option.map_some,PyData.eqv]
 congr 4
 all_goals (by_cases h:i=j <;> simp[h])
end My
namespace My
open PySem L2 M3
theorem countP_strs (a:Str) (xs:List Str):((xs.map PyData.str).countP fun z=>PyData.eqv z (.str a))=xs.count a:=by
 rw[List.countP_eq_length_filter,filter_strs]
theorem cntF_str {a:Str} {xs:List Str} (ha:Ok a) (hx:Oks xs):cntF (xs.map .str) (.val (.str a))=some (.val (.int (xs.count a:Nat))):=by
 unfold cntF
 simp only[W_rd_val,Option.bind_some,pys_strs,D.py,shaped_str ha,shaped_tup hx,and_self,if_true,countP_strs]
abbrev Ords:=List (List Str)
def freeB (ls:Ords) (n:Str):Bool:=!ls.any fun q=>decide (n∈q.tail)
def frees (ls:Ords):List Str:=(ls.filterMap List.head?).filter (freeB ls)
def rm (n:Str) (o:List Str):List Str:=o.filter fun w=>!decide (w=n)
def without (n:Str) (ls:Ords):Ords:=(ls.map (rm n)).filter fun o=>!o.isEmpty
def mergeN:Nat→Ords→List Str→Option (List Str)
 | 0,ls,acc=>if ls=[] then some acc else none
 | f+1,ls,acc=>if ls=[] then some acc else match (frees ls).head? with
  | none=>none
  | some n=>mergeN f (without n ls) (acc++[n])
def nonempty (ls:Ords):Ords:=ls.filter fun o=>!o.isEmpty
def size (ls:Ords):Nat:=(ls.map List.length).sum
theorem size_le {ls:Ords} {p:List Str→Bool}:size (ls.filter p)≤size ls:=by
 unfold size
 induction ls with
 | nil=>simp
 | cons o ls ih=>
  rw[List.filter_cons]
  split <;> simp only[List.map_cons,List.sum_cons] <;> omega
theorem size_map {ls:Ords} {f:List Str→List Str} (h:∀o,(f o).length≤o.length):size (ls.map f)≤size ls:=by
 unfold size
 induction ls with
 | nil=>simp
 | cons o ls ih=>
  simp only[List.map_cons,List.sum_cons]
  have:=h o
  omega
theorem size_without {n:Str} {ls:Ords} (h:∃o∈ls,n∈o):size (without n ls)<size ls:=by
 refine Nat.lt_of_le_of_lt size_le ?_
 obtain⟨o,ho,hn⟩:=h
 unfold size
 induction ls with
 | nil=>cases ho
 | cons q ls ih=>
  simp only[List.map_cons,List.sum_cons]
  have all:∀q:List Str,(rm n q).length≤q.length:=fun q=>List.length_filter_le _ _
  have rest:((ls.map (rm n)).map List.length).sum≤(ls.map List.length).sum:=size_map (ls:=ls) all
  rcases List.mem_cons.mp ho with e | ho
  ·subst e
   have lt:(rm n o).length<o.length:=by
    rcases Nat.lt_or_ge (rm n o).length o.length with h | h
    ·exact h
    ·have e:=List.filter_eq_self.mp ((List.filter_sublist (p:=fun w=>!decide (w=n))).eq_of_length (Nat.le_antisymm (all o) h)) n hn
     simp at e
   omega
  ·have:=ih ho
   have:=all q
   omega
theorem frees_mem {n:Str} {ls:Ords} (h:n∈frees ls):∃o∈ls,n∈o:=by
 unfold frees at h
 obtain⟨h,_⟩:=List.mem_filter.mp h
 obtain⟨o,ho,e⟩:=List.mem_filterMap.mp h
 exact⟨o,ho,List.mem_of_head? e⟩
def OksL (ls:Ords):Prop:=∀o∈ls,Oks o
theorem oks_filter {o:List Str} {p} (h:Oks o):Oks (o.filter p):=fun w hw=>h w (List.mem_filter.mp hw).1
theorem oks_tail {o:List Str} (h:Oks o):Oks o.tail:=fun w hw=>h w (List.mem_of_mem_tail hw)
theorem oksL_without {n:Str} {ls:Ords} (h:OksL ls):OksL (without n ls):=fun o ho=>by
 obtain⟨ho,_⟩:=List.mem_filter.mp ho
 obtain⟨q,hq,rfl⟩:=List.mem_map.mp ho
 exact oks_filter (h q hq)
def Full (ls:Ords):Prop:=∀o∈ls,o≠[]
theorem full_without {n:Str} {ls:Ords}:Full (without n ls):=fun o ho e=>by
 have:=(List.mem_filter.mp ho).2
 subst e;simp at this
def hd0:List Str→Str
 | []=>""
 | n :: _=>n
theorem frees_full {ls:Ords} (h:Full ls):frees ls=(ls.map hd0).filter (freeB ls):=by
 have e:ls.filterMap List.head?=ls.map hd0:=by
  induction ls with
  | nil=>rfl
  | cons o ls ih=>
   cases o with
   | nil=>exact absurd rfl (h [] List.mem_cons_self)
   | cons n o=>rw[List.filterMap_cons,List.head?_cons,ih fun q hq=>h q (List.mem_cons_of_mem _ hq)];rfl
 unfold frees
 rw[e]
theorem frees_head {ls:Ords} (h:Full ls):(frees ls).head?=(ls.map hd0).find? (freeB ls):=by
 rw[frees_full h,List.head?_filter]
theorem find_at {α:Type} {p:α→Bool} {ls:List α} {i:Nat} {o:α} (h:ls[i]?=some o) (hp:p o=true) (hb:∀q∈ls.take i,p q=false):ls.find? p=some o:=by
 have e:ls=ls.take i++o :: ls.drop (i+1):=by
  obtain⟨hi,rfl⟩:=List.getElem?_eq_some_iff.mp h
  rw[←List.drop_eq_getElem_cons hi,List.take_append_drop]
 rw[e,List.find?_append,List.find?_eq_none.mpr (fun q hq=>by rw[hb q hq];exact Bool.false_ne_true)]
 simp[hp]
theorem take_succ {α:Type} {ls:List α} {i:Nat} {o q:α} (h:ls[i]?=some o) (hq:q∈ls.take (i+1)):q∈ls.take i∨q=o:=by
 rw[List.take_add_one,h] at hq
 rcases List.mem_append.mp hq with k | k
 ·exact .inl k
 ·right;simpa using k
set_option maxHeartbeats 4000000 in
theorem free_name_spec (ls:Ords) (hf:Full ls) (ho:OksL ls) (hn:ls.length≤1000) (st:Store) :
  mf_free_name [.lst (ls.map tupS)] st=match (frees ls).head? with | some n=>.ok (.str n) st | none=>.err "NoOrder" .non st:=by
 apply of_run
 rw[mf_free_name,run_mfn,frees_head hf]
 generalize hF:(ls.map hd0).find? (freeB ls)=F
 simp[mb_free_name]
 refine forL_run (fun i u st'=>st'=st∧(∃x y,u=[some (.val (.lst (ls.map tupS))),x,y])∧∀o∈(ls.map hd0).take i,freeB ls o=false) ⟨rfl,⟨_,_,rfl⟩,by simp⟩ ?_ ?_
 ·rintro i d u st' hd ⟨rfl,⟨x,y,rfl⟩,hb⟩
  obtain⟨o,ho',rfl⟩:=get_map hd
  have hmem:=List.mem_of_getElem? ho'
  refine⟨_,rfl,?_⟩
  obtain⟨n,t,rfl⟩:∃n t,o=n :: t:=by
   cases o with
   | nil=>exact absurd rfl (hf _ hmem)
   | cons n t=>exact⟨n,t,rfl⟩
  have okn:Ok n:=ho _ hmem n List.mem_cons_self
  have hi:(ls.map hd0)[i]?=some n:=by rw[List.getElem?_map,ho'];rfl
  simp only[List.set_cons_zero,List.set_cons_succ]
  simp
  refine lcA_run tupS (fun q=>.bl (decide (n∈q.tail))) (by omega) (fun q hq=>⟨_,rfl,?_⟩) ?_
  ·simp only[List.set_cons_zero,List.set_cons_succ]
   simp[tupS,atI_int]
   rw[cutD_map,cut1]
   exact inF_tup false okn (oks_tail (ho q hq))▸rfl
  ·have fr:freeB ls n = !ls.any fun q=>decide (n∈q.tail):=rfl
   cases hb':freeB ls n with
   | true=>
    rw[hb'] at fr
    have fr':(ls.any fun q=>decide (n∈q.tail))=false:=by simpa using fr.symm
    have e:=find_at (p:=freeB ls) hi hb' hb
    rw[e] at hF
    subst hF
    simp[fr',tupS,atI_int]
   | false=>
    rw[hb'] at fr
    have fr':(ls.any fun q=>decide (n∈q.tail))=true:=by simpa using fr.symm
    simp[fr']
    refine fun o ho=>?_
    rcases take_succ hi ho with k | k
    ·exact hb o k
    ·rw[k,hb']
 ·rintro u st' ⟨rfl,⟨x,y,rfl⟩,hb⟩
  have e:(ls.map hd0).find? (freeB ls)=none:=by
   rw[List.find?_eq_none]
   intro o ho
   rw[hb o (by rw[List.length_map,←List.length_map (f:=hd0),List.take_length];exact ho)]
   exact Bool.false_ne_true
  rw[e] at hF
  subst hF
  simp
theorem size_sum (ls:Ords):ls.length≤size ls∨¬Full ls:=by
 unfold size Full
 induction ls with
 | nil=>exact .inl (Nat.le_refl _)
 | cons o ls ih=>
  cases o with
  | nil=>exact .inr fun h=>h [] List.mem_cons_self rfl
  | cons n o=>
   rcases ih with ih | ih
   ·left;simp only[List.length_cons,List.map_cons,List.sum_cons];omega
   ·exact .inr fun h=>ih fun q hq=>h q (List.mem_cons_of_mem _ hq)
theorem Full.len {ls:Ords} (h:Full ls):ls.length≤size ls:=(size_sum ls).resolve_right fun q=>q h
theorem full_nonempty (ls:Ords):Full (nonempty ls):=fun o ho e=>by
 have:=(List.mem_filter.mp ho).2
 subst e;simp at this
theorem full_empty {ls:Ords} (h:Full ls) (z:size ls=0):ls=[]:=by
 have:=h.len
 rw[z] at this
 exact List.length_eq_zero_iff.mp (Nat.le_zero.mp this)
theorem mergeN_fuel:∀(f g:Nat) (ls:Ords) (acc:List Str),Full ls→size ls≤f→size ls≤g→mergeN f ls acc=mergeN g ls acc
 | 0,0,_,_,_,_,_=>rfl
 | 0,g+1,ls,acc,h,hf,_=>by
  have:=full_empty h (Nat.le_zero.mp hf)
  subst this;rfl
 | f+1,0,ls,acc,h,_,hg=>by
  have:=full_empty h (Nat.le_zero.mp hg)
  subst this;rfl
 | f+1,g+1,ls,acc,h,hf,hg=>by
  rw[mergeN,mergeN]
  split
  ·rfl
  ·cases e:(frees ls).head? with
   | none=>rfl
   | some n=>
    have lt:=size_without (frees_mem (List.mem_of_head? e))
    exact mergeN_fuel f g _ _ full_without (by omega) (by omega)
def mergeG (ls:Ords) (acc:List Str):Option (List Str):=mergeN (size ls) ls acc
theorem mergeG_nil (acc:List Str):mergeG [] acc=some acc:=rfl
theorem mergeG_step {ls:Ords} (h:Full ls) (hn:ls≠[]) (acc:List Str):mergeG ls acc=match (frees ls).head? with
  | none=>none
  | some n=>mergeG (without n ls) (acc++[n]):=by
 unfold mergeG
 have pos:size ls≠0:=fun z=>hn (full_empty h z)
 obtain⟨k,hk⟩:=Nat.exists_eq_succ_of_ne_zero pos
 rw[hk,mergeN,if_neg hn]
 cases e:(frees ls).head? with
 | none=>rfl
 | some n=>
  have lt:=size_without (frees_mem (List.mem_of_head? e))
  exact mergeN_fuel _ _ _ _ full_without (by omega) (Nat.le_refl _)
theorem len_size {ls:Ords} {o:List Str} (h:o∈ls):o.length≤size ls:=by
 unfold size
 induction ls with
 | nil=>cases h
 | cons q ls ih=>
  simp only[List.map_cons,List.sum_cons]
  rcases List.mem_cons.mp h with e | h
  ·subst e;omega
  ·have:=ih h;omega
set_option maxHeartbeats 4000000 in
theorem merge_orders_spec (ls:Ords) (ho:OksL ls) (hz:size ls≤900) (hl:ls.length≤900) (st:Store) :
  mf_merge_orders [.lst (ls.map tupS)] st=match mergeG (nonempty ls) [] with | some r=>.ok (tupS r) st | none=>.err "NoOrder" .non st:=by
 apply of_run
 rw[mf_merge_orders,run_mfn]
 generalize hR:mergeG (nonempty ls) []=R
 simp[mb_merge_orders]
 refine lcM_run tupS (fun o=>!o.isEmpty) tupS (by omega) (fun o _=>⟨_,rfl,?_,fun _=>?_⟩) ?_
 ·simp[tupS]
  cases o <;> simp
 ·simp[tupS]
 simp
 have hN:(ls.filter fun o=>!o.isEmpty)=nonempty ls:=rfl
 rw[hN]
 have sN:size (nonempty ls)≤900:=Nat.le_trans size_le hz
 refine whileL_run (fun m u st'=>st'=st∧∃(cur:Ords) (acc:List Str) (x3 x4 x5 x6:Option W),m=size cur∧Full cur∧OksL cur∧acc.length+size cur≤900∧mergeG cur acc=R∧
  u=[some (.val (.lst (ls.map tupS))),some (.val (.lst (cur.map tupS))),some (.bor (acc.map .str)),x3,x4,x5,x6]) _ (size (nonempty ls)) (by omega) ⟨rfl,nonempty ls,[],_,_,_,_,rfl,full_nonempty _,fun o h=>ho o (List.mem_filter.mp h).1,by simpa using sN,hR,rfl⟩ ?_
 rintro m u st' ⟨rfl,cur,acc,x3,x4,x5,x6,rfl,hF,hO,hA,hM,rfl⟩
 by_cases he:cur=[]
 ·subst he
  rw[mergeG_nil] at hM
  subst hM
  simp[tupS]
 ·have ne:cur.isEmpty=false:=by cases cur <;> simp at he⊢
  have lc:cur.length≤900:=Nat.le_trans hF.len (by omega)
  have fn:=free_name_spec cur hF hO (by omega) st'
  rw[mergeG_step hF he] at hM
  simp[ne]
  cases e:(frees cur).head? with
  | none=>
   rw[e] at fn hM
   simp only at fn hM
   subst hM
   simp[fn]
  | some n=>
   rw[e] at fn hM
   simp only at fn hM
   simp[fn]
   have okn:Ok n:=by
    obtain⟨o,h1,h2⟩:=frees_mem (List.mem_of_head? e)
    exact hO o h1 n h2
   have lt:=size_without (frees_mem (List.mem_of_head? e))
   simp[show acc.length<1000000 by omega]
   refine lcA_run tupS (fun o=>tupS (rm n o)) (by omega) (fun o hoc=>⟨_,rfl,?_⟩) ?_
   ·simp[tupS]
    have lo:o.length≤900:=Nat.le_trans (len_size hoc) (by omega)
    refine lc_strs (fun w=>!decide (w=n)) .str (by omega) (fun w hw=>⟨_,rfl,?_,fun _=>by simp⟩) ?_
    ·simp[eqF_str true (hO o hoc w hw) okn]
    ·simp[rm]
   simp
   refine lcM_run (fun o=>tupS (rm n o)) (fun o=>!(rm n o).isEmpty) (fun o=>tupS (rm n o)) (xs:=cur) (by omega) (fun o hoc=>⟨_,rfl,?_,fun _=>?_⟩) ?_
   ·simp[tupS]
    generalize rm n o=q
    cases q <;> simp
   ·simp
   simp
   refine⟨_,lt,without n cur,rfl,full_without,oksL_without hO,acc++[n],by simp;omega,hM,?_,by simp⟩
   unfold without
   rw[List.filter_map,List.map_map]
   rfl
end My
namespace My
open PySem L2 M3
def lstS (ws:List Str):D:=.lst (ws.map .str)
abbrev Ctab:=List (Str×List Str)
def pairD (c:Str×List Str):D:=.tup [.str c.1,tupS c.2]
def look (os:Ctab) (n:Str):List Str:=(os.lookup n).getD []
def keysT (os:Ctab):List Key:=os.map fun c=>Sum.inr c.1
theorem atK_tab (f:List Str→D) (n:Str):∀os:Ctab,atK (keysT os) (os.map fun c=>f c.2) (Sum.inr n)=(os.lookup n).map f
 | []=>rfl
 | c :: os=>by
  show (if (Sum.inr c.1:Key)=Sum.inr n then some (f c.2) else atK (keysT os) (os.map fun c=>f c.2) (Sum.inr n))=_
  rw[List.lookup_cons,atK_tab f n os]
  by_cases h:c.1=n
  ·subst h;simp
  ·have h2:¬(n == c.1)=true:=by simpa using fun e:n=c.1=>h e.symm
   rw[if_neg (fun e=>h (by injection e))]
   simp[h2]
theorem putK3_tab (f:List Str→D) (n:Str) (y:List Str) (os:Ctab) (h:n∉os.map (·.1)):putK3 (keysT os) (os.map fun c=>f c.2) (Sum.inr n) (f y)=(keysT (os++[(n,y)]),(os++[(n,y)]).map fun c=>f c.2):=by
 unfold putK3 keysT
 rw[if_neg (fun q=>h (by obtain⟨c,h1,h2⟩:=List.mem_map.mp q;injection h2 with h2;exact List.mem_map.mpr ⟨c,h1,h2⟩))]
 simp
def turn1 (p:Ords×List Str):Ords×List Str:=
 (p.1.map fun o=>o.filter fun w=>!decide (w∈p.2++(frees p.1).take 1),p.2++(frees p.1).take 1)
def turnsN:Nat→Ords×List Str→Ords×List Str
 | 0,p=>p
 | k+1,p=>turnsN k (turn1 p)
theorem turnsN_succ (k:Nat):∀p,turnsN (k+1) p=turn1 (turnsN k p):=by
 induction k with
 | zero=>intro p;rfl
 | succ k ih=>intro p;rw[turnsN,ih];rfl
def left0 (os:Ctab) (bs:List Str):Ords:=bs.map (look os)++[bs]
def lawStep (os:Ctab) (c:Str×List Str):Option Ctab:=
 if ((turnsN 3 (left0 os c.2,[c.1])).1.any fun o=>!o.isEmpty)=true then none else some (os++[(c.1,(turnsN 3 (left0 os c.2,[c.1])).2)])
def ordStep (os:Ctab) (c:Str×List Str):Option Ctab:=(mergeG (nonempty (left0 os c.2)) []).map fun m=>os++[(c.1,c.1 :: m)]
theorem frees_nonempty (ls:Ords):frees ls=frees (nonempty ls):=by
 have e1:ls.filterMap List.head?=(nonempty ls).filterMap List.head?:=by
  unfold nonempty
  induction ls with
  | nil=>rfl
  | cons o ls ih=>cases o <;> simp[List.filterMap_cons,List.filter_cons,ih]
 have e2:freeB ls=freeB (nonempty ls):=by
  funext n
  unfold freeB nonempty
  rw[List.any_filter]
  congr 2
  funext q
  cases q <;> simp
 unfold frees
 rw[e1,e2]
theorem turn1_none {p:Ords×List Str} (h:(frees p.1).head?=none) (ha:∀o∈p.1,∀w∈o,w∉p.2):turn1 p=p:=by
 have e:frees p.1=[]:=List.head?_eq_none_iff.mp h
 obtain⟨l,m⟩:=p
 unfold turn1
 dsimp only at e ha⊢
 rw[e,List.take_nil,List.append_nil]
 congr 1
 conv=>rhs;rw[←List.map_id l]
 apply List.map_congr_left
 intro o ho
 rw[List.filter_eq_self.mpr]
 ·rfl
 ·intro w hw;simpa using ha o ho w hw
theorem turnsN_fix {p:Ords×List Str} (h:turn1 p=p):∀k,turnsN k p=p
 | 0=>rfl
 | k+1=>by rw[turnsN,h,turnsN_fix h k]
theorem turn1_some {l:Ords} {m:List Str} {n:Str} (h:(frees l).head?=some n) (ha:∀o∈l,∀w∈o,w∉m):turn1 (l,m)=(l.map (rm n),m++[n]):=by
 obtain⟨r,e⟩:∃r,frees l=n :: r:=by
  cases q:frees l with
  | nil=>rw[q] at h;cases h
  | cons a r=>rw[q] at h;cases h;exact⟨r,rfl⟩
 unfold turn1
 dsimp only
 rw[e]
 simp only[List.take_succ_cons,List.take_zero]
 congr 1
 apply List.map_congr_left
 intro o ho
 unfold rm
 apply List.filter_congr
 intro w hw
 have:=ha o ho w hw
 simp[this]
theorem nonempty_rm (n:Str) (l:Ords):nonempty (l.map (rm n))=without n (nonempty l):=by
 unfold nonempty without
 induction l with
 | nil=>rfl
 | cons o l ih=>
  cases o with
  | nil=>simpa[List.filter_cons,rm] using ih
  | cons a o=>
   simp only[List.map_cons,List.filter_cons,List.isEmpty_cons,Bool.not_false,if_true]
   rw[ih]
theorem turns_merge:∀(k:Nat) (N:List Str) (l:Ords) (m acc:List Str),N.length≤k→(∀o∈l,∀w∈o,w∈N∧w∉m)→
  mergeG (nonempty l) acc=if ((turnsN k (l,m)).1.any fun o=>!o.isEmpty)=true then none else some (acc++(turnsN k (l,m)).2.drop m.length)
 | k,N,l,m,acc,hk,ha=>by
  have ha2:∀o∈l,∀w∈o,w∉m:=fun o ho w hw=>(ha o ho w hw).2
  by_cases he:nonempty l=[]
  ·have hf:(frees (l,m).1).head?=none:=by rw[show frees (l,m).1=frees l from rfl,frees_nonempty,he];rfl
   rw[turnsN_fix (turn1_none hf ha2),he,mergeG_nil]
   have:(l.any fun o=>!o.isEmpty)=false:=by
    rw[List.any_eq_false]
    intro o ho q
    have:o∈nonempty l:=List.mem_filter.mpr ⟨ho,q⟩
    rw[he] at this;cases this
   simp[this]
  ·rw[mergeG_step (full_nonempty l) he,←frees_nonempty]
   have some_left:(l.any fun o=>!o.isEmpty)=true:=by
    cases q:nonempty l with
    | nil=>exact absurd q he
    | cons o r=>
     have:o∈nonempty l:=by rw[q];exact List.mem_cons_self
     obtain⟨h1,h2⟩:=List.mem_filter.mp this
     exact List.any_eq_true.mpr ⟨o,h1,h2⟩
   cases hf:(frees l).head? with
   | none=>
    rw[turnsN_fix (turn1_none (p:=(l,m)) hf ha2)]
    simp[some_left]
   | some n=>
    obtain⟨o,ho,hn⟩:=frees_mem (List.mem_of_head? hf)
    obtain⟨nN,nm⟩:=ha o ho n hn
    have pos:0<N.length:=List.length_pos_of_mem nN
    obtain⟨k,rfl⟩:∃j,k=j+1:=⟨k - 1,by omega⟩
    have ih:=turns_merge k (N.erase n) (l.map (rm n)) (m++[n]) (acc++[n]) (by rw[List.length_erase_of_mem nN];omega) (fun q hq w hw=>by
     obtain⟨q',hq',rfl⟩:=List.mem_map.mp hq
     obtain⟨hw1,hw2⟩:=List.mem_filter.mp hw
     have hne:w≠n:=by simpa using hw2
     obtain⟨a,b⟩:=ha q' hq' w hw1
     exact⟨(List.mem_erase_of_ne hne).mpr a,by simp[b,hne]⟩)
    rw[nonempty_rm] at ih
    dsimp only
    rw[ih,turnsN,turn1_some hf ha2]
    by_cases hb:((turnsN k (l.map (rm n),m++[n])).1.any fun o=>!o.isEmpty)=true
    ·rw[if_pos hb,if_pos hb]
    ·rw[if_neg hb,if_neg hb]
     congr 1
     obtain⟨t,ht⟩:∃t,(turnsN k (l.map (rm n),m++[n])).2=(m++[n])++t:=by
      have all:∀(k:Nat) (p:Ords×List Str),∃t,(turnsN k p).2=p.2++t:=by
       intro k
       induction k with
       | zero=>exact fun p=>⟨[],by simp[turnsN]⟩
       | succ k ih=>
        intro p
        obtain⟨t,ht⟩:=ih (turn1 p)
        exact⟨_,by rw[turnsN,ht];show (p.2++_)++t=_;rw[List.append_assoc]⟩
      exact all k _
     rw[ht]
     simp
theorem step_eq {os:Ctab} {c:Str×List Str} (N:List Str) (hN:N.length≤3) (ha:∀o∈left0 os c.2,∀w∈o,w∈N∧w≠c.1):lawStep os c=ordStep os c:=by
 have h:=turns_merge 3 N (left0 os c.2) [c.1] [] hN (fun o ho w hw=>⟨(ha o ho w hw).1,by simpa using (ha o ho w hw).2⟩)
 unfold lawStep ordStep
 rw[h]
 by_cases hb:((turnsN 3 (left0 os c.2,[c.1])).1.any fun o=>!o.isEmpty)=true
 ·rw[if_pos hb,if_pos hb];rfl
 ·rw[if_neg hb,if_neg hb]
  obtain⟨t,ht⟩:∃t,(turnsN 3 (left0 os c.2,[c.1])).2=[c.1]++t:=by
   have all:∀(k:Nat) (p:Ords×List Str),∃t,(turnsN k p).2=p.2++t:=by
    intro k
    induction k with
    | zero=>exact fun p=>⟨[],by simp[turnsN]⟩
    | succ k ih=>
     intro p
     obtain⟨t,ht⟩:=ih (turn1 p)
     exact⟨_,by rw[turnsN,ht];show (p.2++_)++t=_;rw[List.append_assoc]⟩
   exact all 3 _
  rw[ht]
  simp
structure Small (p:Ords×List Str) (b:Nat):Prop where
 n:p.1.length≤200
 o:∀o∈p.1,o.length≤200∧Oks o
 m:p.2.length≤b∧Oks p.2
theorem small_turn {p:Ords×List Str} {b:Nat} (h:Small p b):Small (turn1 p) (b+1):=by
 refine⟨by simpa[turn1] using h.n,fun o ho=>?_,?_,fun w hw=>?_⟩
 ·obtain⟨q,hq,rfl⟩:=List.mem_map.mp ho
  exact⟨Nat.le_trans (List.length_filter_le _ _) (h.o q hq).1,oks_filter (h.o q hq).2⟩
 ·have:=h.m.1
  simp[turn1];omega
 ·rcases List.mem_append.mp hw with k | k
  ·exact h.m.2 w k
  ·obtain⟨o,ho,hn⟩:=frees_mem (List.mem_of_mem_take k)
   exact(h.o o ho).2 w hn
theorem small_turns {p:Ords×List Str} {b:Nat} (h:Small p b):∀k,Small (turnsN k p) (b+k)
 | 0=>h
 | k+1=>by rw[turnsN_succ];exact small_turn (small_turns h k)
theorem hd0_ok {o:List Str} (h:Oks o) (ne:o≠[]):Ok (hd0 o):=by
 cases o with
 | nil=>exact absurd rfl ne
 | cons n o=>exact h n List.mem_cons_self
theorem lookT_mem {os:Ctab} {n:Str} {o:List Str} (h:os.lookup n=some o):(n,o)∈os:=by
 induction os with
 | nil=>cases h
 | cons c os ih=>
  rw[List.lookup_cons] at h
  split at h
  ·rename_i e
   cases h
   rw[show n=c.1 from by simpa using e]
   exact List.mem_cons_self
  ·exact List.mem_cons_of_mem _ (ih h)
def okTab (os:Ctab):Prop:=∀c∈os,c.2.length≤4∧Oks c.2
theorem look_ok {os:Ctab} (h:okTab os) (n:Str):(look os n).length≤4∧Oks (look os n):=by
 unfold look
 cases e:os.lookup n with
 | none=>exact⟨Nat.zero_le _,fun w hw=>by cases hw⟩
 | some o=>exact h (n,o) (lookT_mem e)
theorem M3lookup_some {os:Ctab} {n:Str} (h:n∈os.map (·.1)):os.lookup n=some (look os n):=by
 unfold look
 induction os with
 | nil=>cases h
 | cons c os ih=>
  rw[List.lookup_cons]
  by_cases e:(n == c.1)=true
  ·rw[e];rfl
  ·have ne:n≠c.1:=fun q=>e (by rw[q];exact beq_self_eq_true _)
   have e':(n == c.1)=false:=by simpa using e
   rw[e']
   exact ih (by
    rcases List.mem_map.mp h with⟨d,hd,q⟩
    rcases List.mem_cons.mp hd with z | z
    ·subst z;exact absurd q.symm ne
    ·exact List.mem_map.mpr ⟨d,z,q⟩)
set_option maxHeartbeats 8000000 in
theorem ordered_spec (cs:Ctab) (bs:List Str) {w:W} (hw:lstCF [w]=some (cs.map pairD)) (hn:((cs++[(("" : Str),bs)]).map (·.1)).Nodup) (ok1:∀c∈cs++[(("" : Str),bs)],Ok c.1∧Oks c.2∧c.2.length≤100)
  (hin:∀i c,(cs++[(("" : Str),bs)])[i]?=some c→∀b∈c.2,b∈(cs.take i).map (·.1)) (hl:cs.length≤900) (st:Store) :
  mf_w_ordered [w,.val (tupS bs)] st=match ((cs++[(("" : Str),bs)]).foldlM lawStep []) with | some os=>.ok (lstS (look os "").tail) st | none=>.ok .non st:=by
 apply of_run
 rw[mf_w_ordered,run_mfnW]
 generalize hR:((cs++[(("" : Str),bs)]).foldlM lawStep [])=R
 simp[mb_w_ordered,hw]
 rw[if_pos (by omega)]
 have e0:cs.map pairD++[D.tup [D.str "",tupS bs]]=(cs++[(("" : Str),bs)]).map pairD:=by simp[pairD]
 rw[e0]
 generalize hC:cs++[(("" : Str),bs)]=C at *
 refine forL_run (fun i u st'=>st'=st∧∃(os:Ctab) (x3 x4 x5 x6 x7 x8 x9 x10:Option W),okTab os∧os.map (·.1)=(C.take i).map (·.1)∧(C.drop i).foldlM lawStep os=R∧
  u=[some w,some (.val (tupS bs)),some (.bod (keysT os) (os.map fun c=>lstS c.2)),x3,x4,x5,x6,x7,x8,x9,x10]) ⟨rfl,[],_,_,_,_,_,_,_,_,(fun c h=>by cases h),rfl,hR,rfl⟩ ?_ ?_
 ·rintro i d u st' hd ⟨rfl,os,x3,x4,x5,x6,x7,x8,x9,x10,hO,hK,hM,rfl⟩
  obtain⟨c,hc,rfl⟩:=get_map hd
  obtain⟨n,bb⟩:=c
  obtain⟨okn,okb,lb⟩:=ok1 _ (List.mem_of_getElem? hc)
  dsimp only at okn okb lb
  have hi:i<C.length:=(List.getElem?_eq_some_iff.mp hc).1
  have inb:∀b∈bb,b∈os.map (·.1):=fun b hb=>by
   rw[hK,←hC,List.take_append_of_le_length (by rw[←hC] at hi;simp at hi;omega)]
   exact hin i _ hc b hb
  refine⟨_,rfl,?_⟩
  simp[pairD,tupS]
  refine lcA_run (xs:=bb) D.str (fun b=>lstS (look os b)) (by omega) (fun b hb=>⟨_,rfl,?_⟩) ?_
  ·simp
   rw[atK_tab lstS b os,M3lookup_some (inb b hb)]
   simp
  simp
  rw[if_pos (by omega)]
  have e1:bb.map (fun b=>lstS (look os b))++[D.lst (bb.map .str)]=(left0 os bb).map lstS:=by simp[left0,lstS]
  rw[e1]
  have sm:Small (left0 os bb,[n]) 1:=⟨by simp[left0];omega,fun o ho=>by
   rcases List.mem_append.mp ho with k | k
   ·obtain⟨b,hb,rfl⟩:=List.mem_map.mp k
    have:=look_ok hO b
    exact⟨by omega,this.2⟩
   ·rw[List.mem_singleton.mp k];exact⟨by omega,okb⟩,by simp,fun w hw=>by rw[List.mem_singleton.mp hw];exact okn⟩
  refine forL_run (fun j u st2=>st2=st'∧∃(x6 x7 x8 x9 x10:Option W),
   u=[some w,some (.val (.tup (bs.map .str))),some (.bod (keysT os) (os.map fun c=>lstS c.2)),some (.val (.tup [.str n,.tup (bb.map .str)])),some (.val (.lst ((turnsN j (left0 os bb,[n])).1.map lstS))),some (.val (lstS (turnsN j (left0 os bb,[n])).2)),x6,x7,x8,x9,x10])
   ⟨rfl,_,_,_,_,_,rfl⟩ ?_ ?_
  ·rintro j d u st2 hd2 ⟨rfl,y6,y7,y8,y9,y10,rfl⟩
   obtain⟨rfl,hj⟩:=range_get hd2
   refine⟨_,rfl,?_⟩
   have sj:=small_turns sm j
   rw[turnsN_succ]
   generalize turnsN j (left0 os bb,[n])=p at sj⊢
   obtain⟨l,m⟩:=p
   have hl2:=sj.n
   have hm2:=sj.m
   dsimp only at hl2 hm2
   simp
   refine lcM_run lstS (fun o=>!o.isEmpty) (fun o=>.str (hd0 o)) (by omega) (fun o ho=>⟨_,rfl,?_,fun ne=>?_⟩) ?_
   ·simp[lstS]
    cases o <;> simp
   ·obtain⟨a,o,rfl⟩:∃a q,o=a :: q:=by
     cases o with
     | nil=>cases ne
     | cons a q=>exact⟨a,q,rfl⟩
    simp[lstS,atI_int,hd0]
   simp
   have okh:∀o∈nonempty l,Ok (hd0 o):=fun o ho=>hd0_ok (sj.o o (List.mem_filter.mp ho).1).2 (full_nonempty l o ho)
   have hN:(l.filter fun o=>!o.isEmpty)=nonempty l:=rfl
   rw[hN]
   have ln:(nonempty l).length≤l.length:=List.length_filter_le _ _
   refine lcM_run (xs:=nonempty l) (fun o=>.str (hd0 o)) (fun o=>freeB l (hd0 o)) (fun o=>.str (hd0 o)) (by omega) (fun o ho=>⟨_,rfl,?_,fun _=>?_⟩) ?_
   ·simp
    refine lcA_run lstS (fun q=>.bl (decide (hd0 o∈q.tail))) (by omega) (fun q hq=>⟨_,rfl,?_⟩) ?_
    ·simp[lstS]
     rw[cutD_map,cut1]
     exact inF_lst false (okh o ho) (oks_tail (sj.o q hq).2)▸rfl
    ·simp[freeB]
   ·simp
   simp
   have hf:(nonempty l).filter (fun o=>freeB l (hd0 o))=(nonempty l).filter (freeB l∘hd0):=rfl
   have fr:((nonempty l).filter (fun o=>freeB l (hd0 o))).map (fun o=>D.str (hd0 o))=(frees l).map .str:=by
    rw[frees_nonempty l,frees_full (full_nonempty l),List.filter_map,List.map_map]
    have e2:freeB (nonempty l)=freeB l:=by
     funext n
     unfold freeB nonempty
     rw[List.any_filter]
     congr 2
     funext q
     cases q <;> simp
    rw[e2]
    rfl
   rw[fr,show (1:Int)=((1:Nat):Int) from rfl,cutT,←List.map_take]
   have z1:m.length+((frees l).take 1).length≤1000000:=by
    have:=List.length_take_le 1 (frees l)
    omega
   have okm:Oks (turn1 (l,m)).2:=(small_turn sj).m.2
   have e5:(lstS m,D.lst (((frees l).take 1).map .str))=(D.lst (m.map .str),D.lst (((frees l).take 1).map .str)):=rfl
   rw[lstS,addF_lst,if_pos (by simpa using z1),←List.map_append,run_of_some,kSet_ok]
   have e6:m++(frees l).take 1=(turn1 (l,m)).2:=rfl
   rw[e6]
   simp
   refine lcA_run (xs:=l) lstS (fun o=>lstS (o.filter fun w=>!decide (w∈(turn1 (l,m)).2))) (by omega) (fun o ho=>⟨_,rfl,?_⟩) ?_
   ·simp[lstS]
    have:=(sj.o o ho).1
    refine lc_strs (ws:=o) (fun w=>!decide (w∈(turn1 (l,m)).2)) .str (by omega) (fun w hw=>⟨_,rfl,?_,fun _=>by simp⟩) ?_
    ·simp
     rw[inF_lst true ((sj.o o ho).2 w hw) okm]
     simp
    ·simp
   simp
   exact⟨by simp[turn1,lstS],by simp[lstS]⟩
  ·rintro u st2 ⟨rfl,y6,y7,y8,y9,y10,rfl⟩
   rw[rangeD_length]
   have s3:=small_turns sm 3
   have hM':lawStep os (n,bb) >>= (fun os'=>(C.drop (i+1)).foldlM lawStep os')=R:=by
    rw[←hM,List.drop_eq_getElem_cons hi,show C[i]=(n,bb) from by rw[List.getElem?_eq_getElem hi] at hc;exact Option.some.inj hc]
    rfl
   have sn:=s3.n
   have smm:=s3.m
   simp
   refine lcA_run lstS (fun o=>.bl (!o.isEmpty)) (by omega) (fun o ho=>⟨_,rfl,?_⟩) ?_
   ·simp[lstS]
    cases o <;> simp
   simp
   unfold lawStep at hM'
   dsimp only at hM'
   generalize turnsN 3 (left0 os bb,[n])=p at *
   have hx:(∃x,x∈p.1∧¬x=[])↔(p.1.any fun o=>!o.isEmpty)=true:=by
    rw[List.any_eq_true]
    exact⟨fun ⟨x,h1,h2⟩=>⟨x,h1,by cases x <;> simp at h2⊢⟩,fun ⟨x,h1,h2⟩=>⟨x,h1,by rintro rfl;simp at h2⟩⟩
   by_cases hb:(p.1.any fun o=>!o.isEmpty)=true
   ·rw[if_pos hb] at hM'
    have:R=none:=hM'.symm
    subst this
    rw[if_pos (hx.mpr hb)]
   ·rw[if_neg hb] at hM'
    rw[if_neg (fun q=>hb (hx.mp q)),run_sSetK 2 _ _ rfl]
    have fresh:n∉os.map (·.1):=by
     rw[hK]
     intro hm
     have nd:=hn
     have e:(C.map (·.1)).take i++n :: (C.map (·.1)).drop (i+1)=C.map (·.1):=by
      have hi2:i<(C.map (·.1)).length:=by simpa using hi
      have e1:(C.map (·.1))[i]=n:=by
       rw[List.getElem_map]
       rw[List.getElem?_eq_getElem hi] at hc
       rw[Option.some.inj hc]
      rw[←e1,←List.drop_eq_getElem_cons hi2,List.take_append_drop]
     rw[←e,List.nodup_append] at nd
     rw[List.map_take] at hm
     exact nd.2.2 n hm n List.mem_cons_self rfl
    have lo:os.length=i:=by
     have:=congrArg List.length hK
     simp at this;omega
    have hp2:=putK3_tab lstS n p.2 os fresh
    have kl:(keysT os).length<1000000:=by
     unfold keysT
     rw[List.length_map,lo]
     have:=congrArg List.length hC
     simp at this;omega
    simp[kl,hp2]
    refine⟨os++[(n,p.2)],?_,?_,hM',rfl,by simp⟩
    ·intro c hcm
     rcases List.mem_append.mp hcm with k | k
     ·exact hO c k
     ·rw[List.mem_singleton.mp k];exact smm
    ·rw[List.map_append,hK,List.take_add_one,List.getElem?_map,hc,List.map_take];rfl
 ·rintro u st' ⟨rfl,os,x3,x4,x5,x6,x7,x8,x9,x10,hO,hK,hM,rfl⟩
  rw[List.length_map,List.drop_length] at hM
  have:R=some os:=hM.symm
  subst this
  have hmem:("" : Str)∈os.map (·.1):=by
   rw[hK,List.length_map,List.take_length,←hC];simp
  have hg:=atK_tab lstS "" os
  rw[M3lookup_some hmem] at hg
  rw[kSeq_nx,run_sRetV,run_eSlA,run_eBin,run_eVar]
  simp only[List.getElem?_cons_succ,List.getElem?_cons_zero,kVar_some,kBind_ok,run_bind,run_eC,dgF_bod,hg,Option.map_some,run_of_some]
  simp[lstS]
  rw[cutD_map,cut1]
  simp
end My
namespace My
open PySem L2 M3
theorem mem_rm {n w:Str} {o:List Str}:w∈rm n o↔w∈o∧w≠n:=by unfold rm;simp
theorem mem_without {n w:Str} {ls:Ords}:(∃o∈without n ls,w∈o)↔(∃o∈ls,w∈o)∧w≠n:=by
 constructor
 ·rintro⟨o,ho,hw⟩
  obtain⟨h1,_⟩:=List.mem_filter.mp ho
  obtain⟨q,hq,rfl⟩:=List.mem_map.mp h1
  exact⟨⟨q,hq,(mem_rm.mp hw).1⟩,(mem_rm.mp hw).2⟩
 ·rintro⟨⟨q,hq,hw⟩,ne⟩
  have hm:=mem_rm.mpr ⟨hw,ne⟩
  refine⟨rm n q,List.mem_filter.mpr ⟨List.mem_map.mpr ⟨q,hq,rfl⟩,?_⟩,hm⟩
  cases e:rm n q with
  | nil=>rw[e] at hm;cases hm
  | cons a l=>rfl
theorem mergeG_some:∀(k:Nat) (ls:Ords) (acc r:List Str),size ls≤k→Full ls→mergeG ls acc=some r→∃t,r=acc++t∧t.Nodup∧∀w,w∈t↔∃o∈ls,w∈o
 | k,[],acc,r,_,_,h=>by
  rw[mergeG_nil] at h
  cases h
  exact⟨[],by simp,List.nodup_nil,by simp⟩
 | 0,o :: ls,acc,r,hk,hf,_=>by
  have:=full_empty hf (Nat.le_zero.mp hk)
  cases this
 | k+1,o :: ls,acc,r,hk,hf,h=>by
  rw[mergeG_step hf (by simp)] at h
  cases e:(frees (o :: ls)).head? with
  | none=>rw[e] at h;cases h
  | some n=>
   rw[e] at h
   obtain⟨t,e1,nd,hm⟩:=mergeG_some k (without n (o :: ls)) (acc++[n]) r (by have:=size_without (frees_mem (List.mem_of_head? e));omega) full_without h
   refine⟨n :: t,by rw[e1];simp,List.nodup_cons.mpr ⟨fun q=>((mem_without.mp ((hm n).mp q)).2) rfl,nd⟩,fun w=>?_⟩
   rw[List.mem_cons,hm,mem_without]
   by_cases q:w=n
   ·subst q
    exact⟨fun _=>frees_mem (List.mem_of_head? e),fun _=>.inl rfl⟩
   ·exact⟨fun z=>z.elim (fun y=>absurd y q) fun y=>y.1,fun z=>.inr ⟨z,q⟩⟩
theorem mem_nonempty {w:Str} {ls:Ords}:(∃o∈nonempty ls,w∈o)↔∃o∈ls,w∈o:=by
 constructor
 ·rintro⟨o,ho,hw⟩;exact⟨o,(List.mem_filter.mp ho).1,hw⟩
 ·rintro⟨o,ho,hw⟩
  exact⟨o,List.mem_filter.mpr ⟨ho,by cases o with | nil=>cases hw | cons a l=>rfl⟩,hw⟩
theorem merge_some {ls:Ords} {r:List Str} (h:mergeG (nonempty ls) []=some r):r.Nodup∧∀w,w∈r↔∃o∈ls,w∈o:=by
 obtain⟨t,e,nd,hm⟩:=mergeG_some _ _ _ _ (Nat.le_refl _) (full_nonempty ls) h
 rw[List.nil_append] at e
 subst e
 exact⟨nd,fun w=>(hm w).trans mem_nonempty⟩
abbrev keysS (os:Ctab):List Str:=os.map (·.1)
structure Tab (os:Ctab):Prop where
 el:∀c∈os,(∀w∈c.2,w∈keysS os)∧c.2.Nodup∧c.2.head?=some c.1
 nd:(keysS os).Nodup
theorem nodup_len {l m:List Str} (h:l.Nodup) (hs:∀w∈l,w∈m):l.length≤m.length:=by
 induction l generalizing m with
 | nil=>simp
 | cons a l ih=>
  obtain⟨h1,h2⟩:=List.nodup_cons.mp h
  have ha:=hs a List.mem_cons_self
  have:=ih h2 (m:=m.erase a) (fun w hw=>(List.mem_erase_of_ne (fun e:w=a=>h1 (by rw[←e];exact hw))).mpr (hs w (List.mem_cons_of_mem _ hw)))
  rw[List.length_erase_of_mem ha] at this
  have:=List.length_pos_of_mem ha
  simp;omega
theorem look_mem {os:Ctab} {n:Str} (h:n∈keysS os):(n,look os n)∈os:=lookT_mem (M3lookup_some h)
theorem Tab.look {os:Ctab} (t:Tab os) (n:Str):∀w∈look os n,w∈keysS os:=fun w hw=>by
 by_cases h:n∈keysS os
 ·exact(t.el _ (look_mem h)).1 w hw
 ·unfold My.look at hw
  have:os.lookup n=none:=by
   cases e:os.lookup n with
   | none=>rfl
   | some o=>exact absurd (List.mem_map.mpr ⟨(n,o),lookT_mem e,rfl⟩) h
  rw[this] at hw;cases hw
theorem Tab.left {os:Ctab} (t:Tab os) {bs:List Str} (hb:∀b∈bs,b∈keysS os):∀o∈left0 os bs,∀w∈o,w∈keysS os:=fun o ho w hw=>by
 rcases List.mem_append.mp ho with k | k
 ·obtain⟨b,hb',rfl⟩:=List.mem_map.mp k
  exact t.look b w hw
 ·rw[List.mem_singleton.mp k] at hw;exact hb w hw
theorem Tab.okTab {os:Ctab} (t:Tab os) (hl:os.length≤4) (ok:Oks (keysS os)):okTab os:=fun c hc=>by
 obtain⟨h1,h2,_⟩:=t.el c hc
 refine⟨?_,fun w hw=>ok w (h1 w hw)⟩
 have:=nodup_len h2 h1
 simp[keysS] at this
 omega
theorem Tab.step {os os':Ctab} {c:Str×List Str} (t:Tab os) (hf:c.1∉keysS os) (hb:∀b∈c.2,b∈keysS os) (h:ordStep os c=some os'):Tab os'∧keysS os'=keysS os++[c.1]∧∃m,os'=os++[(c.1,c.1 :: m)]:=by
 unfold ordStep at h
 obtain⟨m,hm,rfl⟩:=Option.map_eq_some_iff.mp h
 obtain⟨nd,el⟩:=merge_some hm
 have inm:∀w∈m,w∈keysS os:=fun w hw=>by
  obtain⟨o,ho,hw'⟩:=(el w).mp hw
  exact t.left hb o ho w hw'
 refine⟨⟨fun d hd=>?_,?_⟩,by simp[keysS],m,rfl⟩
 ·rcases List.mem_append.mp hd with k | k
  ·obtain⟨h1,h2,h3⟩:=t.el d k
   exact⟨fun w hw=>by simp only[keysS,List.map_append];exact List.mem_append_left _ (h1 w hw),h2,h3⟩
  ·rw[List.mem_singleton.mp k]
   refine⟨fun w hw=>?_,List.nodup_cons.mpr ⟨fun q=>hf (inm _ q),nd⟩,rfl⟩
   simp only[keysS,List.map_append]
   rcases List.mem_cons.mp hw with q | q
   ·subst q;exact List.mem_append_right _ (by simp)
   ·exact List.mem_append_left _ (inm w q)
 ·simp only[keysS,List.map_append]
  rw[List.nodup_append]
  exact⟨t.nd,by simp,fun a ha b hb e=>by simp at hb;subst hb;subst e;exact hf ha⟩
def Follows (ks:List Str):Ctab→Prop
 | []=>True
 | c :: cs=>c.1∉ks∧(∀b∈c.2,b∈ks)∧Follows (ks++[c.1]) cs
theorem fold_eq:∀(cs os:Ctab),Tab os→Follows (keysS os) cs→os.length+cs.length≤4→cs.foldlM lawStep os=cs.foldlM ordStep os
 | [],os,_,_,_=>rfl
 | c :: cs,os,t,⟨h1,h2,h3⟩,hl=>by
  rw[List.foldlM_cons,List.foldlM_cons,step_eq (keysS os) (by simp at hl⊢;omega) (fun o ho w hw=>⟨t.left h2 o ho w hw,fun e=>h1 (e▸t.left h2 o ho w hw)⟩)]
  cases e:ordStep os c with
  | none=>rfl
  | some os'=>
   obtain⟨t',k',m,em⟩:=t.step h1 h2 e
   exact fold_eq cs os' t' (by rw[k'];exact h3) (by rw[em];simp at hl⊢;omega)
theorem fold_tab:∀(cs os os':Ctab),Tab os→Follows (keysS os) cs→cs.foldlM ordStep os=some os'→Tab os'∧keysS os'=keysS os++keysS cs
 | [],os,os',t,_,h=>by cases h;exact⟨t,by simp⟩
 | c :: cs,os,os',t,⟨h1,h2,h3⟩,h=>by
  rw[List.foldlM_cons] at h
  cases e:ordStep os c with
  | none=>rw[e] at h;cases h
  | some os1=>
   rw[e] at h
   obtain⟨t',k',m,em⟩:=t.step h1 h2 e
   obtain⟨a,b⟩:=fold_tab cs os1 os' t' (by rw[k'];exact h3) h
   exact⟨a,by rw[b,k'];simp[keysS]⟩
theorem Tab.nil:Tab []:=⟨fun c h=>(by cases h),List.nodup_nil⟩
theorem follows_append {ks:List Str}:∀{cs:Ctab} {d:Ctab},Follows ks (cs++d)↔Follows ks cs∧Follows (ks++keysS cs) d
 | [],d=>by simp[Follows,keysS]
 | c :: cs,d=>by
  simp only[List.cons_append,Follows,follows_append (cs:=cs),keysS,List.map_cons]
  rw[show ks++c.1 :: cs.map (·.1)=ks++[c.1]++cs.map (·.1) by simp]
  constructor
  ·rintro⟨a,b,c,d⟩;exact⟨⟨a,b,c⟩,d⟩
  ·rintro⟨⟨a,b,c⟩,d⟩;exact⟨a,b,c,d⟩
theorem follows_at {cs:Ctab}:∀{ks:List Str} {i:Nat} {c:Str×List Str},Follows ks cs→cs[i]?=some c→c.1∉ks++keysS (cs.take i)∧∀b∈c.2,b∈ks++keysS (cs.take i):=by
 induction cs with
 | nil=>intro ks i c _ h;simp at h
 | cons d cs ih=>
  intro ks i c ⟨h1,h2,h3⟩ h
  cases i with
  | zero=>simp at h;subst h;simpa[keysS] using ⟨h1,h2⟩
  | succ i=>
   have:=ih h3 (by simpa using h)
   simpa[keysS] using this
theorem follows_nodup:∀{cs:Ctab} {ks:List Str},ks.Nodup→Follows ks cs→(ks++keysS cs).Nodup
 | [],ks,h,_=>by simpa[keysS] using h
 | c :: cs,ks,h,⟨h1,h2,h3⟩=>by
  have:=follows_nodup (cs:=cs) (ks:=ks++[c.1]) (by rw[List.nodup_append];exact⟨h,by simp,fun a ha b hb e=>by simp at hb;subst hb;subst e;exact h1 ha⟩) h3
  simpa[keysS] using this
structure Cls3 (cs:Ctab):Prop where
 fo:Follows [] cs
 len:cs.length≤3
 nm:∀n∈keysS cs,IsNm n
 bnd:∀c∈cs,c.2.Nodup
 ord:∃os,cs.foldlM ordStep []=some os
theorem nm_ne {n:Str} (h:IsNm n):n≠"":=by
 rintro rfl
 have:=h.1
 revert this
 decide +kernel
theorem ok_empty:Ok ("" : Str):=by decide +kernel
theorem Cls3.okk {cs:Ctab} (h:Cls3 cs):Oks (keysS cs):=fun w hw=>okN (h.nm w hw)
theorem Cls3.bases {cs:Ctab} (h:Cls3 cs) {c:Str×List Str} (hc:c∈cs):∀b∈c.2,b∈keysS cs:=fun b hb=>by
 obtain⟨i,hi⟩:=List.mem_iff_getElem?.mp hc
 have:=(follows_at h.fo hi).2 b hb
 rw[List.nil_append] at this
 obtain⟨d,hd,e⟩:=List.mem_map.mp this
 exact List.mem_map.mpr ⟨d,List.mem_of_mem_take hd,e⟩
theorem Cls3.blen {cs:Ctab} (h:Cls3 cs) {c:Str×List Str} (hc:c∈cs):c.2.length≤3:=by
 have:=nodup_len (h.bnd c hc) (h.bases hc)
 have:=h.len
 simp[keysS] at this⊢
 simp[keysS] at *
 omega
theorem ordered_cls {cs:Ctab} {w:W} (hw:lstCF [w]=some (cs.map pairD)) (h:Cls3 cs) {bs:List Str} (hb:∀b∈bs,b∈keysS cs) (hl:bs.length≤100) (st:Store):∃os,cs.foldlM ordStep []=some os∧Tab os∧keysS os=keysS cs∧
  mf_w_ordered [w,.val (tupS bs)] st=match mergeG (nonempty (left0 os bs)) [] with | some r=>.ok (lstS r) st | none=>.ok .non st:=by
 obtain⟨os,ho⟩:=h.ord
 obtain⟨t,k⟩:=fold_tab cs [] os Tab.nil h.fo ho
 have k':keysS os=keysS cs:=by simpa[keysS] using k
 refine⟨os,ho,t,k',?_⟩
 have ne:("" : Str)∉keysS cs:=fun q=>nm_ne (h.nm _ q) rfl
 have fo2:Follows [] (cs++[(("" : Str),bs)]):=follows_append.mpr ⟨h.fo,by simpa using ne,by simpa using hb,trivial⟩
 have sp:=ordered_spec cs bs hw (by have:=follows_nodup List.nodup_nil fo2;simpa[keysS] using this) (fun c hc=>by
  rcases List.mem_append.mp hc with q | q
  ·exact⟨h.okk _ (List.mem_map.mpr ⟨c,q,rfl⟩),fun b hb=>h.okk b (h.bases q b hb),by have:=h.blen q;omega⟩
  ·rw[List.mem_singleton.mp q];exact⟨ok_empty,fun b hb'=>h.okk b (hb b hb'),hl⟩) (fun i c hc b hb'=>by
   have:=(follows_at fo2 hc).2 b hb'
   rw[List.nil_append] at this
   by_cases hi:i≤cs.length
   ·rw[List.take_append_of_le_length hi] at this;exact this
   ·have:=(List.getElem?_eq_some_iff.mp hc).1
    simp at this
    omega) (by have:=h.len;omega) st
 rw[sp,fold_eq _ [] Tab.nil fo2 (by have:=h.len;simp;omega),List.foldlM_append,ho]
 show (match (ordStep os ("",bs) >>= fun o=>some o) with | some os=>_ | none=>_)=_
 unfold ordStep
 dsimp only
 cases e:mergeG (nonempty (left0 os bs)) [] with
 | none=>rfl
 | some m=>
  show Res.ok (lstS (look (os++[(("" : Str),("" : Str) :: m)]) "").tail) st=_
  have:look (os++[(("" : Str),("" : Str) :: m)]) "" = ("" : Str) :: m:=by
   unfold look
   rw[List.lookup_append]
   have e2:os.lookup ("" : Str)=none:=by
    cases q:os.lookup ("" : Str) with
    | none=>rfl
    | some o=>exact absurd (k'▸List.mem_map.mpr ⟨_,lookT_mem q,rfl⟩) ne
   rw[e2]
   simp
  rw[this]
  rfl
end My
namespace My
open PySem L2 M3
def classTail:SM:=(sSeq (sSet 5 (eBin ixF (eVar 4) (eBin modF (eB intCF (aCons (eBin ixF (eVar 0) (eVar 3)) aNil)) (eB lenF (aCons (eVar 4) aNil)))))
 (sSeq (sIf (tOf (eBin (isNF false) (eLend 2 (eCallW 2 mf_w_ordered (aCons (eVar 2) (aCons (eVar 5) aNil)))) (eC .non))) (sSet 5 (eTup aNil)) sNext)
 (sApp 2 (eTup (aCons (eBin ixF (eVar 1) (eVar 3)) (aCons (eVar 5) aNil))))))
theorem cls_snoc {cs:Ctab} (hC:Cls3 cs) {n:Str} {bs:List Str} (hn:IsNm n) (hf:n∉keysS cs) (hb:∀b∈bs,b∈keysS cs) (nd:bs.Nodup) (hl:cs.length≤2)
  (ho:∀os,cs.foldlM ordStep []=some os→∃m,mergeG (nonempty (left0 os bs)) []=some m):Cls3 (cs++[(n,bs)]):=by
 refine⟨follows_append.mpr ⟨hC.fo,by simpa using hf,by simpa using hb,trivial⟩,by simp;omega,fun w hw=>?_,fun c hc=>?_,?_⟩
 ·simp only[keysS,List.map_append] at hw
  rcases List.mem_append.mp hw with k | k
  ·exact hC.nm w k
  ·simp at k;rw[k];exact hn
 ·rcases List.mem_append.mp hc with k | k
  ·exact hC.bnd c k
  ·rw[List.mem_singleton.mp k];exact nd
 ·obtain⟨os,e⟩:=hC.ord
  obtain⟨m,em⟩:=ho os e
  refine⟨os++[(n,n :: m)],?_⟩
  rw[List.foldlM_append,e]
  show (ordStep os (n,bs) >>= fun o=>some o)=_
  unfold ordStep
  dsimp only
  rw[em];rfl
set_option maxHeartbeats 8000000 in
theorem class_tail (ds:List Int) (names:List Str) (cs:Ctab) (menu:Ords) (i:Nat) (x5 x6:Option W) (st:Store) (k:SRes→Prop) (hC:Cls3 cs) (hK:keysS cs=names.take i) (hi:i<names.length) (hd:∀d∈ds,0≤d∧d<5040) (hl:names.length≤ds.length)
  (hn:names.Nodup) (hm:∀n∈names,IsNm n) (h3:names.length≤3) (mne:menu≠[]) (mlen:menu.length≤10) (mb:∀bs∈menu,bs.Nodup∧∀b∈bs,b∈names.take i)
  (hk:∀(cs':Ctab) (y5:Option W),Cls3 cs'→keysS cs'=names.take (i+1)→k (.nx [some (.val (.lst (ds.map .int))),some (.val (.lst (names.map .str))),some (.bor (cs'.map pairD)),some (.val (.int (i:Int))),some (.val (.lst (menu.map tupS))),y5,x6] st)) :
  srun (classTail [some (.val (.lst (ds.map .int))),some (.val (.lst (names.map .str))),some (.bor (cs.map pairD)),some (.val (.int (i:Int))),some (.val (.lst (menu.map tupS))),x5,x6] st) k:=by
 have pos:0<menu.length:=List.length_pos_iff.mpr mne
 have hid:i<ds.length:=by omega
 have hdi:=hd ds[i] (List.getElem_mem hid)
 have hq:(ds[i] % (menu.length:Int)).toNat<menu.length:=by
  have:=Int.emod_lt_of_pos ds[i] (b:=(menu.length:Int)) (by omega)
  have:=Int.emod_nonneg ds[i] (b:=(menu.length:Int)) (by omega)
  omega
 have h0:0≤ds[i] % (menu.length:Int):=Int.emod_nonneg ds[i] (by omega)
 obtain⟨bs,hbs⟩:∃bs,menu[(ds[i] % (menu.length:Int)).toNat]?=some bs:=⟨_,List.getElem?_eq_getElem hq⟩
 obtain⟨nd,sub⟩:=mb bs (List.mem_of_getElem? hbs)
 have subK:∀b∈bs,b∈keysS cs:=by rw[hK];exact sub
 have lcs:cs.length=i:=by
  have:=congrArg List.length hK
  simp[keysS] at this;omega
 have lb:bs.length≤100:=by have:=nodup_len nd subK;simp[keysS] at this;omega
 have nfresh:names[i]∉keysS cs:=by
  rw[hK]
  intro q
  have e:names.take i++names[i] :: names.drop (i+1)=names:=by rw[←List.drop_eq_getElem_cons hi,List.take_append_drop]
  rw[←e,List.nodup_append] at hn
  exact hn.2.2 _ q _ List.mem_cons_self rfl
 obtain⟨os,ho,ht,hk',sp⟩:=ordered_cls (w:=.len (cs.map pairD)) rfl hC subK lb st
 have key':∀bs',keysS (cs++[(names[i],bs')])=names.take (i+1):=fun bs'=>by
  simp only[keysS,List.map_append,List.map_cons,List.map_nil]
  rw[List.take_add_one,List.getElem?_eq_getElem hi,←hK];rfl
 unfold classTail
 simp[atN,hid,pos,atI_int _ h0,hbs]
 rw[run_eLend 2 rfl]
 simp[sp]
 cases e:mergeG (nonempty (left0 os bs)) [] with
 | none=>
  simp[e,hi,isNF,atN,show cs.length<1000000 by omega]
  have:=hk (cs++[(names[i],[])]) (some (.val (.tup []))) (cls_snoc hC (hm _ (List.getElem_mem hi)) nfresh (fun b h=>by cases h) List.nodup_nil (by omega) fun os' e'=>⟨[],rfl⟩) (key' [])
  simpa[pairD,tupS] using this
 | some m=>
  simp[e,hi,isNF,lstS,atN,show cs.length<1000000 by omega]
  have:=hk (cs++[(names[i],bs)]) (some (.val (tupS bs))) (cls_snoc hC (hm _ (List.getElem_mem hi)) nfresh subK nd (by omega) fun os' e'=>by rw[ho] at e';cases e';exact⟨m,e⟩) (key' bs)
  simpa[pairD,tupS] using this
set_option maxHeartbeats 8000000 in
theorem class_list_spec (ds:List Int) (names:List Str) (hd:∀d∈ds,0≤d∧d<5040) (hl:names.length≤ds.length) (hn:names.Nodup) (hm:∀n∈names,IsNm n) (h3:names.length≤3) (st:Store) :
  ∃cs,mf_w_class_list [.lst (ds.map .int),.lst (names.map .str)] st=.ok (.lst (cs.map pairD)) st∧Cls3 cs∧keysS cs=names:=by
 suffices h:M3.run (mf_w_class_list [.lst (ds.map .int),.lst (names.map .str)] st) (fun r=>∃cs,r=.ok (.lst (cs.map pairD)) st∧Cls3 cs∧keysS cs=names) by
  obtain⟨cs,e,h⟩:=h
  exact⟨cs,e,h⟩
 rw[mf_w_class_list,run_mfn]
 simp only[mb_w_class_list]
 rw[←classTail.eq_1]
 simp
 have r1 : -1000000≤(names.length:Int)∧(names.length:Int)≤1000000:=by omega
 simp[r1]
 refine forL_run (fun i u st'=>st'=st∧∃(cs:Ctab) (x3 x4 x5 x6:Option W),Cls3 cs∧keysS cs=names.take i∧u=[some (.val (.lst (ds.map .int))),some (.val (.lst (names.map .str))),some (.bor (cs.map pairD)),x3,x4,x5,x6])
  ⟨rfl,[],_,_,_,_,⟨trivial,by simp,by simp[keysS],by simp,⟨[],rfl⟩⟩,rfl,rfl⟩ ?_ ?_
 ·rintro i d u st' hdd ⟨rfl,cs,x3,x4,x5,x6,hC,hK,rfl⟩
  obtain⟨rfl,hi⟩:=range_get hdd
  refine⟨_,rfl,?_⟩
  have lcs:cs.length=i:=by
   have:=congrArg List.length hK
   simp[keysS] at this;omega
  simp
  rw[cutD_map,cutT]
  refine lcA_run (xs:=names.take i) D.str (fun n=>tupS [n]) (by simp;omega) (fun n hn'=>⟨_,rfl,?_⟩) ?_
  ·simp[tupS]
  simp
  refine⟨by omega,?_⟩
  rw[eqF_int]
  have fin:∀(md:List D) (menu:Ords),md=menu.map tupS→menu≠[]→menu.length≤10→(∀bs∈menu,bs.Nodup∧∀b∈bs,b∈names.take i)→
    srun (classTail [some (.val (.lst (ds.map .int))),some (.val (.lst (names.map .str))),some (.bor (cs.map pairD)),some (.val (.int (i:Int))),some (.val (.lst md)),x5,x6] st')
     (kTurn (fun u st'_1=>st'_1=st'∧∃(cs:Ctab),Cls3 cs∧keysS cs=names.take (i+1)∧∃(x3 x4 x5 x6:Option W),u=[some (.val (.lst (ds.map .int))),some (.val (.lst (names.map .str))),some (.bor (cs.map pairD)),x3,x4,x5,x6])
      (kSeq (sRetO 2) (kRet fun r=>∃cs,r=Res.ok (D.lst (List.map pairD cs)) st'∧Cls3 cs∧keysS cs=names))):=by
   intro md menu e a b c
   rw[e]
   refine class_tail ds names cs menu i x5 x6 st' _ hC hK hi hd hl hn hm h3 a b c fun cs' y5 h1 h2=>?_
   simp
   exact⟨cs',h1,h2,rfl⟩
  have one_:∀bs∈([] :: (names.take i).map fun n=>[n]:Ords),bs.Nodup∧∀b∈bs,b∈names.take i:=fun bs hb=>by
   rcases List.mem_cons.mp hb with e | hb
   ·subst e;exact⟨List.nodup_nil,fun b h=>by cases h⟩
   obtain⟨n,h1,rfl⟩:=List.mem_map.mp hb
   exact⟨by simp,fun b h=>by rw[List.mem_singleton.mp h];exact h1⟩
  by_cases h2:i=2
  ·subst h2
   obtain⟨a,b,r,en⟩:∃a b r,names=a :: b :: r:=by
    match names,hi with
    | a :: b :: r,_=>exact⟨a,b,r,rfl⟩
   have ab:a≠b:=fun e=>by rw[en,e] at hn;simp at hn
   have e0:atI (names.map D.str) 0=some (.str a):=by rw[en];simp only[atI_l0];rfl
   have e1:atI (names.map D.str) 1=some (.str b):=by rw[en];simp only[atI_l1];rfl
   simp[e0,e1]
   refine⟨by omega,fin _ ([] :: (((names.take 2).map fun n=>[n])++[[a,b],[b,a]])) ?_ (by simp) (by simp;omega) (fun bs hb=>?_)⟩
   ·simp[en,tupS]
   rw[←List.cons_append] at hb
   rcases List.mem_append.mp hb with k | k
   ·exact one_ bs k
   ·rw[en]
    simp at k
    rcases k with rfl | rfl
    ·exact⟨by simp[ab],fun w hw=>by simpa using hw⟩
    ·exact⟨by simp[ab.symm],fun w hw=>by simp at hw⊢;exact hw.symm⟩
  ·have h2':¬((i:Int)=2):=by omega
   simp[h2']
   exact fin _ ([] :: (names.take i).map fun n=>[n]) (by simp[tupS,Function.comp_def]) (by simp) (by simp;omega) one_
 ·rintro u st' ⟨rfl,cs,x3,x4,x5,x6,hC,hK,rfl⟩
  rw[rangeD_length] at hK
  simp
  exact⟨cs,rfl,hC,by simpa using hK⟩
end My
namespace My
open PySem L2 M3
@[simp] theorem run_eLenSet {m:EM} {u:Sl3} {st:Store} {kw}:run (eLenSet m u st) kw=run (m u st) (kBind (fun w=>M.of (lenSetF w)) kw):=run_bind _ _
theorem newTexts_nodup:∀(xs acc:List Str),xs.Nodup→(∀x∈xs,x∉acc)→newTexts acc xs=xs.length
 | [],_,_,_=>rfl
 | x :: xs,acc,h,hn=>by
  rw[List.nodup_cons] at h
  unfold newTexts
  rw[if_neg (hn x List.mem_cons_self),newTexts_nodup xs _ h.2 fun y hy q=>?_]
  ·simp;omega
  ·rcases List.mem_append.mp q with k | k
   ·exact hn y (List.mem_cons_of_mem _ hy) k
   ·rw[List.mem_singleton.mp k] at hy;exact h.1 hy
theorem size_len (x:Str):x.cps.toList.length=x.length:=by show x.cps.toList.length=x.cps.size;simp
theorem mem_letters {c:Nat} (h:97≤c∧c≤122):c∈letters:=by
 unfold letters
 exact List.mem_map.mpr ⟨c - 97,by simp;omega,by omega⟩
theorem is_word_spec {n:Str} (h:IsNm n) (st:Store):mf_is_word [.str n] st=.ok (.bl true) st:=by
 apply of_run
 obtain⟨h1,h2,h3⟩:=h
 rw[mf_is_word,run_mfn]
 simp only[mb_is_word,letters_eq]
 simp[show (1:Int)≤n.length by omega,show ¬(8:Int)<n.length by omega]
 refine⟨by omega,by omega,?_⟩
 refine lcA_run (fun c=>.str ⟨#[c]⟩) (fun c=>.bl true) (by rw[size_len];omega) (fun c hc=>⟨_,rfl,?_⟩) ?_
 ·simp[mem_letters (h3 c hc)]
 ·simp
theorem good_names_spec (names:List Str) (lo hi:Int) (h:∀n∈names,IsNm n) (hn:names.Nodup) (hl:names.length≤900) (h1:lo≤names.length) (h2:(names.length:Int)≤hi) (st:Store) :
  mf_good_names [.lst (names.map .str),.int lo,.int hi] st=.ok (.bl true) st:=by
 suffices hh:M3.run (mf_good_names [.lst (names.map .str),.int lo,.int hi] st) (fun r=>r=.ok (.bl true) st) from hh
 rw[mf_good_names,run_mfn]
 simp[mb_good_names,h1,show ¬hi<(names.length:Int) by omega]
 refine lcA_run (xs:=names) D.str (fun n=>D.bl true) (by omega) (fun n hn'=>⟨_,rfl,?_⟩) ?_
 ·simp[is_word_spec (h n hn')]
 simp[lenSetF,W.ls,strs_map,eqF_int,newTexts_nodup names [] hn (fun _ _ h=>by cases h),show names.length≤1000 by omega]
def chosen (bs names:List Str):Bool:=bs.all fun n=>decide (n∈names) && decide (bs.count n=1)
theorem are_chosen_spec (bs names:List Str) (hb:Oks bs) (hn:Oks names) (hl:bs.length≤900) (st:Store):mf_are_chosen [tupS bs,.lst (names.map .str)] st=.ok (.bl (chosen bs names)) st:=by
 suffices hh:M3.run (mf_are_chosen [tupS bs,.lst (names.map .str)] st) (fun r=>r=.ok (.bl (chosen bs names)) st) from hh
 rw[mf_are_chosen,run_mfn]
 simp[mb_are_chosen,tupS]
 refine lcA_run (xs:=bs) D.str (fun n=>D.bl (decide (n∈names) && decide (bs.count n=1))) (by omega) (fun n hn'=>⟨_,rfl,?_⟩) ?_
 ·simp[inF_lst _ (hb n hn') hn,cntF_str (hb n hn') hb,eqF_int]
  by_cases q:n∈names <;> simp[q]
  omega
 simp[chosen]
theorem chosen_true {bs names:List Str} (hd:bs.Nodup) (hb:∀b∈bs,b∈names):chosen bs names=true:=by
 unfold chosen
 rw[List.all_eq_true]
 intro b h
 simp[hb b h,List.nodup_iff_count.mp hd b]
 have:=List.count_pos_iff.mpr h
 have:=List.nodup_iff_count.mp hd b
 omega
theorem keysS_map (cs:Ctab):(cs.map fun c=>D.str c.1)=(keysS cs).map .str:=by simp[keysS]
theorem good_classes_spec {cs:Ctab} (h:Cls3 cs) (ne:cs≠[]) (st:Store):mf_good_classes [.lst (cs.map pairD)] st=.ok (.bl true) st:=by
 apply of_run
 have hl:=h.len
 have hp:=List.length_pos_iff.mpr ne
 have lk:(keysS cs).length=cs.length:=by simp[keysS]
 have nd:(keysS cs).Nodup:=by have:=follows_nodup List.nodup_nil h.fo;simpa using this
 rw[mf_good_classes,run_mfn]
 simp[mb_good_classes]
 refine lcA_run (xs:=cs) pairD (fun n=>D.bl true) (by omega) (fun n hn'=>⟨_,rfl,?_⟩) ?_
 ·simp[pairD,eqF_int]
 simp
 refine lcA_run (xs:=cs) pairD (fun c=>D.str c.1) (by omega) (fun n hn'=>⟨_,rfl,?_⟩) ?_
 ·simp[pairD]
 have e:(keysS cs).map D.str=cs.map (D.str∘fun x=>x.fst):=by simp[keysS]
 have e':(cs.map fun c=>D.str c.1)=cs.map (D.str∘fun x=>x.fst):=rfl
 have gn:=good_names_spec (keysS cs) 1 3 h.nm nd (by omega) (by omega) (by omega) st
 rw[e] at gn
 rw[e']
 simp[gn]
 refine⟨by omega,?_⟩
 refine lcR_run (fun i=>D.bl true) (by omega) (fun i hi=>⟨_,rfl,?_⟩) ?_
 ·have gi:cs[i]?=some cs[i]:=List.getElem?_eq_getElem hi
  have fa:=follows_at h.fo gi
  rw[List.nil_append] at fa
  simp[atN,hi,pairD]
  rw[cutD_map,cutT]
  rw[show keysS (cs.take i)=(keysS cs).take i by simp[keysS]] at fa
  have:=are_chosen_spec cs[i].2 ((keysS cs).take i) (fun b hb=>h.okk b (h.bases (List.getElem_mem hi) b hb)) (fun b hb=>h.okk b (List.mem_of_mem_take hb)) (by have:=h.blen (List.getElem_mem hi);omega) st
  rw[chosen_true (h.bnd _ (List.getElem_mem hi)) fa.2] at this
  rw[show (cs.take i).map (D.str∘fun x=>x.fst)=((keysS cs).take i).map D.str by simp[keysS],this]
  simp
 ·simp
theorem size_app (a b:Ords):size (a++b)=size a+size b:=by simp[size]
theorem size_mapL {f:Str→List Str} {k:Nat} (h:∀n,(f n).length≤k):∀bs:List Str,size (bs.map f)≤k * bs.length
 | []=>Nat.zero_le _
 | b :: bs=>by
  have:=size_mapL h bs
  have:=h b
  simp[size] at *
  rw[Nat.mul_add]
  omega
theorem size_left0 {os:Ctab} (h:okTab os) (bs:List Str):size (left0 os bs)≤5 * bs.length:=by
 unfold left0
 rw[size_app]
 have:=size_mapL (fun n=>(look_ok h n).1) bs
 simp[size] at *
 omega
theorem oks_left0 {os:Ctab} (h:okTab os) {bs:List Str} (hb:Oks bs):OksL (left0 os bs):=fun o ho=>by
 rcases List.mem_append.mp ho with k | k
 ·obtain⟨b,_,rfl⟩:=List.mem_map.mp k
  exact(look_ok h b).2
 ·rw[List.mem_singleton.mp k];exact hb
def ordD (os:Ctab):D:=.dict (keysT os) (os.map fun c=>tupS c.2)
theorem foldlM_take {α β:Type} {f:β→α→Option β}:∀{cs:List α} {a r:β} (i:Nat),cs.foldlM f a=some r→∃b,(cs.take i).foldlM f a=some b∧(cs.drop i).foldlM f b=some r:=by
 intro cs a r i h
 rw[←List.take_append_drop i cs,List.foldlM_append] at h
 cases e:(cs.take i).foldlM f a with
 | none=>rw[e] at h;cases h
 | some b=>rw[e] at h;exact⟨b,rfl,h⟩
set_option maxHeartbeats 8000000 in
theorem class_orders_spec {cs os:Ctab} (h:Cls3 cs) (ho:cs.foldlM ordStep []=some os) (st:Store):mf_class_orders [.lst (cs.map pairD)] st=.ok (ordD os) st:=by
 apply of_run
 have hl:=h.len
 rw[mf_class_orders,run_mfn]
 simp[mb_class_orders]
 refine forL_run (fun i u st'=>st'=st∧∃(o:Ctab) (x2 x3 x4 x5:Option W),(cs.take i).foldlM ordStep []=some o∧
  u=[some (.val (.lst (cs.map pairD))),some (.bod (keysT o) (o.map fun c=>tupS c.2)),x2,x3,x4,x5]) ⟨rfl,[],_,_,_,_,rfl,rfl⟩ ?_ ?_
 ·rintro i d u st' hd ⟨rfl,o,x2,x3,x4,x5,hO,rfl⟩
  obtain⟨c,hc,rfl⟩:=get_map hd
  obtain⟨n,bb⟩:=c
  have hi:i<cs.length:=(List.getElem?_eq_some_iff.mp hc).1
  have hm:=List.mem_of_getElem? hc
  have fa:=follows_at h.fo hc
  rw[List.nil_append] at fa
  have fot:Follows [] (cs.take i):=by
   have:=h.fo
   rw[←List.take_append_drop i cs] at this
   exact(follows_append.mp this).1
  obtain⟨t,ko⟩:=fold_tab (cs.take i) [] o Tab.nil fot hO
  have ko':keysS o=keysS (cs.take i):=by simpa[keysS] using ko
  have lo:o.length≤3:=by
   have:=congrArg List.length ko'
   simp[keysS] at this;omega
  have okt:okTab o:=t.okTab (by omega) (fun w hw=>h.okk w (by rw[ko'] at hw;obtain⟨d,hd,e⟩:=List.mem_map.mp hw;exact List.mem_map.mpr ⟨d,List.mem_of_mem_take hd,e⟩))
  have lb:=h.blen hm
  dsimp only at lb
  refine⟨_,rfl,?_⟩
  simp[pairD,tupS]
  refine lcA_run (xs:=bb) D.str (fun b=>tupS (look o b)) (by omega) (fun b hb=>⟨_,rfl,?_⟩) ?_
  ·simp
   rw[show atK (keysT o) (o.map fun c=>D.tup (c.2.map .str)) (.inr b)=_ from atK_tab tupS b o,M3lookup_some (by have:=fa.2 b hb;rw[←ko'] at this;exact this)]
   simp
  simp
  have e1:bb.map (fun b=>tupS (look o b))++[D.tup (bb.map .str)]=(left0 o bb).map tupS:=by simp[left0,tupS]
  have okb:Oks bb:=fun b hb=>h.okk b (h.bases hm b hb)
  have ms:=merge_orders_spec (left0 o bb) (oks_left0 okt okb) (by have:=size_left0 okt bb;omega) (by simp[left0];omega) st'
  obtain⟨b2,hb2,hr⟩:=foldlM_take (i+1) ho
  rw[List.take_add_one,hc,List.foldlM_append,hO] at hb2
  have hs:ordStep o (n,bb)=some b2:=by
   have:(ordStep o (n,bb) >>= fun z=>some z)=some b2:=hb2
   cases e:ordStep o (n,bb) with
   | none=>rw[e] at this;cases this
   | some z=>rw[e] at this;cases this;rfl
  have hs2:=hs
  unfold ordStep at hs2
  dsimp only at hs2
  cases em:mergeG (nonempty (left0 o bb)) [] with
  | none=>rw[em] at hs2;cases hs2
  | some m=>
   rw[em] at hs2 ms
   cases hs2
   rw[run_sSetK 1 _ _ rfl]
   simp
   rw[if_pos (by omega),e1,ms]
   simp[tupS]
   have nf:n∉o.map (·.1):=by have:=fa.1;rw[←ko'] at this;exact this
   rw[show putK3 (keysT o) (o.map fun c=>D.tup (c.2.map .str)) (.inr n) (D.tup (D.str n :: m.map .str))=_ from putK3_tab tupS n (n :: m) o nf]
   have mm:=merge_some em
   have lm:m.length≤(keysS o).length:=nodup_len mm.1 fun w hw=>by
    obtain⟨q,hq,hw'⟩:=(mm.2 w).mp hw
    exact t.left (fun b hb=>by rw[ko'];exact fa.2 b hb) q hq w hw'
   have lk:(keysS o).length=o.length:=by simp[keysS]
   rw[if_pos (by omega)]
   refine⟨by simp[keysT];omega,o++[(n,n :: m)],?_,rfl,rfl⟩
   rw[List.take_add_one,hc,List.foldlM_append,hO]
   exact hb2
 ·rintro u st' ⟨rfl,o,x2,x3,x4,x5,hO,rfl⟩
  rw[List.length_map,List.take_length,ho] at hO
  cases hO
  simp
  rw[run_sRetD 1 rfl]
  simp[ordD]
@[simp] theorem allF_nil:allF [.val (.lst [])]=some (.val (.bl true)):=rfl
theorem pf0 (a0:D):put3 "orders" a0 ([]:List (Str×D))=([("orders",a0)]:List (Str×D)):=rfl
theorem pf1 (a0 a1:D):put3 "class_pairs" a1 ([("orders",a0)]:List (Str×D))=([("orders",a0),("class_pairs",a1)]:List (Str×D)):=rfl
theorem pf2 (a0 a1 a2:D):put3 "method_names" a2 ([("orders",a0),("class_pairs",a1)]:List (Str×D))=([("orders",a0),("class_pairs",a1),("method_names",a2)]:List (Str×D)):=rfl
theorem pf3 (a0 a1 a2 a3:D):put3 "layer_names" a3 ([("orders",a0),("class_pairs",a1),("method_names",a2)]:List (Str×D))=([("orders",a0),("class_pairs",a1),("method_names",a2),("layer_names",a3)]:List (Str×D)):=rfl
theorem pf4 (a0 a1 a2 a3 a4:D):put3 "inner_names" a4 ([("orders",a0),("class_pairs",a1),("method_names",a2),("layer_names",a3)]:List (Str×D))=([("orders",a0),("class_pairs",a1),("method_names",a2),("layer_names",a3),("inner_names",a4)]:List (Str×D)):=rfl
theorem pf5 (a0 a1 a2 a3 a4 a5:D):put3 "rules" a5 ([("orders",a0),("class_pairs",a1),("method_names",a2),("layer_names",a3),("inner_names",a4)]:List (Str×D))=([("orders",a0),("class_pairs",a1),("method_names",a2),("layer_names",a3),("inner_names",a4),("rules",a5)]:List (Str×D)):=rfl
theorem pf6 (a0 a1 a2 a3 a4 a5 a6:D):put3 "known" a6 ([("orders",a0),("class_pairs",a1),("method_names",a2),("layer_names",a3),("inner_names",a4),("rules",a5)]:List (Str×D))=([("orders",a0),("class_pairs",a1),("method_names",a2),("layer_names",a3),("inner_names",a4),("rules",a5),("known",a6)]:List (Str×D)):=rfl
theorem pf7 (a0 a1 a2 a3 a4 a5 a6 a7:D):put3 "texts" a7 ([("orders",a0),("class_pairs",a1),("method_names",a2),("layer_names",a3),("inner_names",a4),("rules",a5),("known",a6)]:List (Str×D))=([("orders",a0),("class_pairs",a1),("method_names",a2),("layer_names",a3),("inner_names",a4),("rules",a5),("known",a6),("texts",a7)]:List (Str×D)):=rfl
def orderR (os:Ctab) (bs:List Str):Option (List Str):=if chosen bs (keysS os)=true∧bs≠[] then mergeG (nonempty (left0 os bs)) [] else none
end My
namespace My
open PySem L2 M3 Builtin Builtin.Str StrLaws
theorem at_sign (l:List Nat) (c k:Nat):At (S l) ⟨#[c]⟩ (S l).length k↔l[k]?=some c:=by
 have e2:=subAt_one (S l) c k
 rw[S_list] at e2
 exact e2
theorem split_two (p m:List Nat) (c:Nat) (hp:c∉p) (hm:c∉m) (hk:strKind (S (p++c :: m))=1∧strKind ⟨#[c]⟩=1):Txt.split (S (p++c :: m)) ⟨#[c]⟩=[S p,S m]:=by
 have only:∀k,(p++c :: m)[k]?=some c↔k=p.length:=fun k=>by
  constructor
  ·intro h
   rcases Nat.lt_trichotomy k p.length with q | q | q
   ·rw[List.getElem?_append_left q] at h
    exact absurd (List.mem_of_getElem? h) hp
   ·exact q
   ·rw[List.getElem?_append_right (by omega)] at h
    obtain⟨j,hj⟩:∃j,k - p.length=j+1:=⟨k - p.length - 1,by omega⟩
    rw[hj,List.getElem?_cons_succ] at h
    exact absurd (List.mem_of_getElem? h) hm
  ·rintro rfl
   rw[List.getElem?_append_right (Nat.le_refl _)]
   simp
 obtain⟨f,ch,no⟩:=occ_tight (S (p++c :: m)) ⟨#[c]⟩ (by show 1≤1;omega)
 have hocc:occurrences (S (p++c :: m)) ⟨#[c]⟩ 0 (S (p++c :: m)).length ((S (p++c :: m)).length+1)=[p.length]:=by
  generalize occurrences (S (p++c :: m)) ⟨#[c]⟩ 0 (S (p++c :: m)).length ((S (p++c :: m)).length+1)=L at ch
  have here:At (S (p++c :: m)) ⟨#[c]⟩ (S (p++c :: m)).length p.length:=(at_sign _ _ _).mpr ((only _).mpr rfl)
  match L,ch with
  | [],ch=>
   have ef:f=0:=ch
   subst ef
   exact absurd here (no _ (Nat.zero_le _))
  | d :: r,ch=>
   obtain⟨_,h2,_,h4⟩:=ch
   have ed:=(only _).mp ((at_sign _ _ _).mp h2)
   subst ed
   match r,h4 with
   | [],_=>rfl
   | d2 :: r2,h4=>
    obtain⟨g1,g2,_,_⟩:=h4
    have e2:=(only _).mp ((at_sign _ _ _).mp g2)
    have:(⟨#[c]⟩:Str).length=1:=rfl
    omega
 unfold Txt.split
 rw[hocc,hk.1,hk.2]
 have n1:¬(decide ((S (p++c :: m)).length<(⟨#[c]⟩:Str).length) || decide ((1:Nat)<1))=true:=by
  have:(⟨#[c]⟩:Str).length=1:=rfl
  rw[this,S_length]
  simp
 rw[if_neg n1,if_neg (by simp),partsBetween_eq]
 have e1:(⟨#[c]⟩:Str).length=1:=rfl
 rw[e1]
 show [strSub _ 0 p.length,strSub _ (p.length+1) (S (p++c :: m)).length]=_
 have ex:∀{a b:Str},a.cps.toList=b.cps.toList→a=b:=fun {a b} h=>by
  cases a;cases b
  simp only[Str.mk.injEq]
  exact Array.ext' h
 congr 1
 ·apply ex
  rw[strSub_toList,S_list,S_list]
  simp
 ·congr 1
  apply ex
  rw[strSub_toList,S_list,S_list,S_length]
  rw[List.drop_append,List.drop_of_length_le (by omega)]
  simp
  exact List.take_of_length_le (by omega)
end My
namespace My
open PySem L2 M3
section
variable {u:Sl3} {st:Store}
@[simp] theorem run_fLc2 {mi mi1:FM} {g g1:GM} {c c1:TM} {e:EM} {own vs1:List Nat} {kf}:run (fLc2 mi g c mi1 g1 c1 e own vs1 u st) kf=run (mi u st) (kBind (fun ds=>lc2L g c mi1 g1 c1 e vs1 (wipe3 u own) ds []) kf):=run_bind _ _
end
abbrev K3:=Str×Str×Str
def key3 (k:K3):D:=.tup [.str k.1,.str k.2.1,.str k.2.2]
def nk3 (k:K3):NestedKey:=.tup [.text k.1,.text k.2.1,.text k.2.2]
theorem nk3_inj {a b:K3}:nk3 a=nk3 b↔a=b:=by
 obtain⟨a1,a2,a3⟩:=a
 obtain⟨b1,b2,b3⟩:=b
 simp[nk3]
theorem tk_3 (a b c:Str):(D.tup [.str a,.str b,.str c]).tk=some (nk3 (a,b,c)):=by
 have h:(NestedKey.tup [.text a,.text b,.text c]).depth≤8:=by simp[NestedKey.depth,NestedKey.depthAll]
 simp[D.tk,D.nks,D.nk,nk3,h]
theorem tk_key3 (k:K3):(key3 k).tk=some (nk3 k):=tk_3 _ _ _
abbrev Bod:=List (K3×List Str)
def bk (b:Bod):List D:=b.map fun e=>key3 e.1
def bv (b:Bod):List D:=b.map fun e=>tupS e.2
theorem has_bk (b:Bod) (k:K3):ddHas (bk b) (nk3 k)=decide (k∈b.map (·.1)):=by
 unfold ddHas bk
 induction b with
 | nil=>simp
 | cons e b ih=>
  simp only[List.map_cons,List.any_cons,ih,tk_key3]
  by_cases h:k=e.1
  ·subst h;simp
  ·have h2:¬e.1=k:=fun q=>h q.symm
   simp[nk3_inj,h,h2]
theorem at_bk (b:Bod) (k:K3):ddAt (bk b) (bv b) (nk3 k)=(b.lookup k).map tupS:=by
 induction b with
 | nil=>rfl
 | cons e b ih=>
  obtain⟨k',v⟩:=e
  show ddAt (key3 k' :: bk b) (tupS v :: bv b) (nk3 k)=_
  unfold ddAt
  rw[tk_key3,List.lookup_cons]
  by_cases h:k=k'
  ·subst h;simp
  ·have h2:¬k'=k:=fun q=>h q.symm
   have h3:(k == k')=false:=by simpa using h
   rw[if_neg (by simpa[nk3_inj] using h2),ih,h3]
end My
namespace My
open PySem L2 M3
structure Sp where
 lays:List Str
 mets:List Str
 cs:Ctab
 inner:List Str
 run:Str
 sto:Str
 bod:Bod
def sayOf (m:Str):List Str:=[("say " : Str)++m]
def putB (b:Bod) (k:K3):Bod:=if k∈b.map (·.1) then b else b++[(k,sayOf k.2.2)]
def Says (b:Bod):Prop:=∀e∈b,e.2=sayOf e.1.2.2
theorem Says.put {b:Bod} (h:Says b) (k:K3):Says (putB b k):=fun e he=>by
 unfold putB at he
 split at he
 ·exact h e he
 ·rcases List.mem_append.mp he with q | q
  ·exact h e q
  ·rw[List.mem_singleton.mp q]
theorem emod_nat (k:Nat) (n:Nat) (h:0<n):∃r:Nat,((k:Int) % (n:Int))=(r:Int)∧r<n:=⟨k % n,by simp,Nat.mod_lt _ h⟩
theorem pick2 (a b:Str) (r:Nat) (h:r<2):∃x,atI [D.str a,D.str b] (r:Int)=some (.str x)∧(x=a∨x=b):=by
 rcases r with _ | _ | r
 ·exact⟨a,rfl,.inl rfl⟩
 ·exact⟨b,rfl,.inr rfl⟩
 ·omega
end My
namespace My
open PySem L2 M3
def bookF2 (S:Sp) (os:Ctab) (inn:List Str) (b:Bod) (k:Nat):List (Str×D):=[("orders",ordD os),("class_pairs",.tup (S.cs.map pairD)),("method_names",tupS S.mets),("layer_names",tupS S.lays),("inner_names",tupS inn),
 ("rules",.tup [.str S.run,.str S.sto]),("known",.ref k),("texts",.dd (bk b) (bv b))]
end My
namespace My
open PySem L2 M3
abbrev KTab:=List (List Str×List Str)
def kt (K:KTab):List D:=K.map fun e=>tupS e.1
def kv (K:KTab):List D:=K.map fun e=>tupS e.2
def KOk (os:Ctab) (K:KTab):Prop:=∀e∈K,orderR os e.1=some e.2
def chainL (has:K3→Bool) (act o own:List Str) (m:Str):List (Str×Str):=
 (act.flatMap fun la=>(o.filter fun n=>has (la,n,m)).map fun n=>(la,n)) ++
  if m∈own then [(("" : Str),("" : Str))] else ((o.filter fun n=>has ("",n,m)).take 1).map fun n=>(("" : Str),n)
end My
namespace My
open PySem L2 M3
def mb_Book_running:SM:=(sRetV (eBin ixF (eFld ["Book"] "rules" (eVar 0)) (eC (.int 0))))
def mf_Book_running:List D→M D:=mfn 1 mb_Book_running
def mb_Book_stored:SM:=(sRetV (eBin ixF (eFld ["Book"] "rules" (eVar 0)) (eC (.int 1))))
def mf_Book_stored:List D→M D:=mfn 1 mb_Book_stored
end My
namespace My
open PySem L2 M3 Builtin Builtin.Str
inductive Row where
 | say (w:Str) | ask (w:Str) | set (b:Bool) | iff | els | en | pro | run | yld | own | call (m:Str) | store (m:Str) | sw (on:Bool) (l:Str)
deriving DecidableEq
def onS (b:Bool):Str:=if b then "on" else "off"
def bitS (b:Bool):Str:=if b then "1" else "0"
def Row.head:Row→Str
 | .say _=>"say" | .ask _=>"ask" | .set _=>"set" | .iff=>"if" | .els=>"else" | .en=>"end" | .pro=>"proceed" | .run=>"run" | .yld=>"yield" | .own=>"own"
 | .call _=>"call" | .store _=>"store" | .sw b _=>onS b
def Row.arg:Row→Option Str
 | .say w=>some w | .ask w=>some w | .set b=>some (bitS b) | .call m=>some m | .store m=>some m | .sw _ l=>some l
 | _=>none
def Row.pre:Row→Str
 | .say _=>"say " | .ask _=>"ask " | .set _=>"set " | .call _=>"call " | .store _=>"store " | .sw b _=>if b then "on " else "off "
 | r=>r.head
def Row.str (r:Row):Str:=match r.arg with
 | some w=>r.pre++w
 | none=>r.head
def Row.words (r:Row):List Str:=match r.arg with
 | some w=>[r.head,w]
 | none=>[r.head]
def Row.ok:Row→Prop
 | .say w=>IsNm w | .ask w=>IsNm w | .call m=>IsNm m | .store m=>IsNm m | .sw _ l=>IsNm l
 | _=>True
def IsW (w:Str):Prop:=1≤w.length∧w.length≤8∧∀c∈w.cps.toList,33≤c∧c≤122
instance (w:Str):Decidable (IsW w):=inferInstanceAs (Decidable (_∧_))
theorem IsNm.w {w:Str} (h:IsNm w):IsW w:=⟨h.1,h.2.1,fun c hc=>by have:=h.2.2 c hc;omega⟩
theorem bitS_w (b:Bool):IsW (bitS b):=by cases b <;> decide +kernel
theorem Row.arg_w {r:Row} (h:r.ok) {w:Str} (e:r.arg=some w):IsW w:=by
 cases r <;> first
  | (cases e;exact h.w)
  | (cases e;exact bitS_w _)
  | cases e
theorem head_w (r:Row):IsW r.head:=by
 cases r <;> first
  | (dsimp only[Row.head];decide +kernel)
  | (rename_i b _;cases b <;> (dsimp only[Row.head,onS];decide +kernel))
theorem pre_eq (r:Row) {w:Str} (e:r.arg=some w):r.pre=S (r.head.cps.toList++[32]):=by
 cases r <;> first
  | (cases e;done)
  | (clear e;dsimp only[Row.pre,Row.head];decide +kernel)
  | (clear e;rename_i b _;cases b <;> (dsimp only[Row.pre,Row.head,onS];decide +kernel))
theorem S_of2 (x:Str):x=S x.cps.toList:=by
 cases x
 simp[S]
theorem app_S (a b:Str):a++b=S (a.cps.toList++b.cps.toList):=by
 rw[S_of2 a,S_of2 b,S_app]
 simp[S]
theorem str_arg {r:Row} {w:Str} (e:r.arg=some w):r.str=S (r.head.cps.toList++32 :: w.cps.toList):=by
 unfold Row.str
 rw[e]
 dsimp only
 rw[pre_eq r e,app_S]
 simp
theorem str_none {r:Row} (e:r.arg=none):r.str=r.head:=by
 unfold Row.str
 rw[e]
theorem no32 {w:Str} (h:IsW w):32∉w.cps.toList:=fun q=>by have:=(h.2.2 _ q).1;omega
theorem row_all {r:Row} (h:r.ok):∀c∈r.str.cps.toList,c≤122:=fun c hc=>by
 cases e:r.arg with
 | none=>
  rw[str_none e] at hc
  exact((head_w r).2.2 c hc).2
 | some w=>
  rw[str_arg e,S_list] at hc
  rcases List.mem_append.mp hc with q | q
  ·exact((head_w r).2.2 c q).2
  ·rcases List.mem_cons.mp q with z | z
   ·omega
   ·exact((Row.arg_w h e).2.2 c z).2
theorem row_ok {r:Row} (h:r.ok):Ok r.str:=by
 unfold Ok PyData.strOk
 rw[Array.all_eq_true_iff_forall_mem]
 intro c hc
 have:=row_all h c (by simpa using hc)
 exact decide_eq_true (by omega)
theorem w_ok {w:Str} (h:IsW w):Ok w:=by
 unfold Ok PyData.strOk
 rw[Array.all_eq_true_iff_forall_mem]
 intro c hc
 have:=(h.2.2 c (by simpa using hc)).2
 exact decide_eq_true (by omega)
theorem row_len {r:Row} (h:r.ok):r.str.length≤20:=by
 cases e:r.arg with
 | none=>
  rw[str_none e]
  have:=(head_w r).2.1
  omega
 | some w=>
  rw[str_arg e,S_length]
  have:=(head_w r).2.1
  have:=(Row.arg_w h e).2.1
  have:=size_len r.head
  have:=size_len w
  simp only[List.length_append,List.length_cons]
  omega
theorem split_none (r:Row) (e:r.arg=none):Txt.split r.head " " = [r.head]:=by
 cases r <;> first
  | (cases e;done)
  | (clear e;dsimp only[Row.head];decide +kernel)
theorem row_split {r:Row} (h:r.ok):Txt.split r.str " " = r.words:=by
 unfold Row.words
 cases e:r.arg with
 | none=>
  rw[str_none e]
  exact split_none r e
 | some w=>
  have e32:(" " : Str)=⟨#[32]⟩:=by decide +kernel
  have all:∀B:Nat,123≤B→(S (r.head.cps.toList++32 :: w.cps.toList)).cps.all (· < B)=true:=fun B hB=>by
   rw[←Array.all_toList,S_list,List.all_eq_true]
   intro c hc
   have:=row_all h c (by rw[str_arg e,S_list];exact hc)
   exact decide_eq_true (by omega)
  rw[str_arg e,e32,split_two _ _ _ (no32 (head_w r)) (no32 (Row.arg_w h e)) ⟨by unfold Builtin.Str.strKind;rw[all 256 (by decide)];rfl,by decide +kernel⟩]
  dsimp only
  rw[S_eta,S_eta]
theorem words_inj {r r':Row} (e:r.words=r'.words):r=r':=by
 have key:r.head=r'.head∧r.arg=r'.arg:=by
  unfold Row.words at e
  cases h:r.arg <;> cases h':r'.arg <;> rw[h,h'] at e <;> simp at e
  ·exact⟨e,rfl⟩
  ·exact⟨e.1,by rw[e.2]⟩
 obtain⟨k1,k2⟩:=key
 cases r <;> cases r' <;> first
  | rfl
  | (exfalso;revert k1;dsimp only[Row.head];decide +kernel)
  | (exfalso;revert k1;rename_i b _;cases b <;> (dsimp only[Row.head,onS];decide +kernel))
  | (exfalso;revert k1;rename_i b _ _;cases b <;> (dsimp only[Row.head,onS];decide +kernel))
  | (injection k2 with k2;subst k2;rfl)
  | (injection k2 with k2;congr 1;rename_i b b';revert k2;cases b <;> cases b' <;> decide +kernel)
  | (injection k2 with k2;subst k2;congr 1;rename_i b _ b';revert k1;cases b <;> cases b' <;> (dsimp only[Row.head,onS];decide +kernel))
theorem str_inj {r r':Row} (h:r.ok) (h':r'.ok):r.str=r'.str↔r=r':=⟨fun e=>words_inj (by rw[←row_split h,←row_split h',e]),fun e=>by rw[e]⟩
def Row.isSw:Row→Bool
 | .sw _ _=>true
 | _=>false
def Row.opens:Row→Bool
 | .sw _ _=>true
 | .iff=>true
 | _=>false
theorem starts_S (l p:List Nat):Txt.startswith (S l) (S p)=decide (l.take p.length=p):=by
 unfold Txt.startswith Builtin.Str.subAt
 by_cases h:l.take p.length=p
 ·rw[decide_eq_true h]
  have hl:p.length≤l.length:=by
   have:=congrArg List.length h
   simp at this
   omega
  rw[Bool.and_eq_true]
  refine⟨decide_eq_true (by rw[S_length,S_length];omega),?_⟩
  rw[beq_iff_eq]
  apply Array.ext'
  rw[Array.toList_extract]
  show List.extract (S l).cps.toList 0 _=_
  rw[S_list,S_list,S_length]
  simpa[List.extract] using h
 ·rw[decide_eq_false h]
  rw[Bool.and_eq_false_iff]
  right
  rw[beq_eq_false_iff_ne]
  intro q
  apply h
  have q2:=congrArg Array.toList q
  rw[Array.toList_extract] at q2
  rw[S_list,S_list,S_length] at q2
  simpa[List.extract] using q2
theorem lit_on:("on " : Str)=S [111,110,32]:=by decide +kernel
theorem lit_off:("off " : Str)=S [111,102,102,32]:=by decide +kernel
end My
namespace My
open PySem L2 M3
def bEnd:List Row→Nat→Nat
 | [],_=>0
 | r :: rs,d=>if r.opens=true then 1+bEnd rs (d+1) else if r=.en then (if d=1 then 0 else 1+bEnd rs (d - 1)) else 1+bEnd rs d
def eEnd:List Row→Nat→Nat
 | [],_=>0
 | r :: rs,d=>if r=.els∧d=1 then 0 else if r.opens=true then 1+eEnd rs (d+1) else if r=.en then (if d=1 then 0 else 1+eEnd rs (d - 1)) else 1+eEnd rs d
def nest:List Row→Nat→Bool
 | [],d=>d == 0
 | r :: rs,d=>if r.opens=true then nest rs (d+1) else if r=.en then d != 0 && nest rs (d - 1) else if r=.els then d != 0 && nest rs d else nest rs d
def blockEnd (R:List Row) (s:Nat):Nat:=s+bEnd (R.drop s) 1
def jump (R:List Row) (i:Nat) (v:Int):Nat:=match R[i]? with
 | some .els=>blockEnd R (i+1)+1
 | some .iff=>if v=0 then i+1+eEnd (R.drop (i+1)) 1+1 else i+1
 | _=>i+1
structure Fr where
 la:Str
 c:Str
 i:Nat
structure Cl where
 m:Str
 base:List Str
 fs:List Fr
abbrev Fr.p (f:Fr):Str×Str:=(f.la,f.c)
def swL (act:List Str) (on:Bool) (l:Str):List Str:=if on then l :: act.filter (fun n=>!decide (n=l)) else act.filter (fun n=>!decide (n=l))
def swRow (R:List Row) (n:Nat) (a:List Str) (k:Nat):List Str:=match R[k]? with
 | some (.sw on l)=>if n≤blockEnd R (k+1) then swL a on l else a
 | _=>a
def actRows (R:List Row) (n:Nat) (a:List Str):Nat→List Str
 | 0=>a
 | k+1=>swRow R n (actRows R n a k) k
structure Env where
 T:K3→Option (List Row)
 live:Bool
 caller:Bool
 o:List Str
 own:List Str
 lays:List Str
 mets:List Str
def Env.has (E:Env) (k:K3):Bool:=(E.T k).isSome
def Env.rows (E:Env) (m:Str) (f:Fr):List Row:=(E.T (f.la,f.c,m)).getD []
def actives (E:Env) (m:Str) (base:List Str) (fs:List Fr):List Str:=fs.foldl (fun a f=>actRows (E.rows m f) f.i a f.i) base
def nextP (E:Env) (m:Str) (base:List Str) (fs:List Fr):Option (Str×Str):=
 (chainL E.has (if E.live then actives E m base fs else base) E.o E.own m).find? fun p=>!decide (p∈fs.map Fr.p)
def heldB (E:Env) (a:List Str):List Str:=if E.caller then [] else a
structure Sta where
 below:List Fr
 f:Fr
 v:Int
 h:Option Cl
def Sta.fs (s:Sta):List Fr:=s.below.reverse++[s.f]
def Fr.to (f:Fr) (i:Nat):Fr:=⟨f.la,f.c,i⟩
def stepS (E:Env) (m:Str) (base:List Str) (s:Sta):Option Sta:=match (E.rows m s.f)[s.f.i]? with
 | none=>match s.below with
  | []=>none
  | g :: b=>some ⟨b,g,s.v,s.h⟩
 | some (.say _)=>none
 | some (.ask _)=>none
 | some .own=>none
 | some (.call _)=>none
 | some .yld=>none
 | some .run=>if s.h.isSome then none else some ⟨s.below,s.f.to (s.f.i+1),s.v,s.h⟩
 | some .pro=>match nextP E m base s.fs with
  | none=>none
  | some p=>some ⟨s.f.to (s.f.i+1) :: s.below,⟨p.1,p.2,0⟩,s.v,s.h⟩
 | some (.set b)=>some ⟨s.below,s.f.to (s.f.i+1),if b then 1 else 0,s.h⟩
 | some (.store m')=>some ⟨s.below,s.f.to (s.f.i+1),s.v,some ⟨m',heldB E (actives E m base s.fs),[]⟩⟩
 | some .iff=>some ⟨s.below,s.f.to (jump (E.rows m s.f) s.f.i s.v),s.v,s.h⟩
 | some .els=>some ⟨s.below,s.f.to (jump (E.rows m s.f) s.f.i s.v),s.v,s.h⟩
 | some .en=>some ⟨s.below,s.f.to (jump (E.rows m s.f) s.f.i s.v),s.v,s.h⟩
 | some (.sw _ _)=>some ⟨s.below,s.f.to (jump (E.rows m s.f) s.f.i s.v),s.v,s.h⟩
structure GoodR (lays mets:List Str) (R:List Row):Prop where
 len:R.length≤10
 ok:∀r∈R,r.ok
 lay:∀on l,Row.sw on l∈R→l∈lays
 call:∀m,Row.call m∈R→m∈mets
 store:∀m,Row.store m∈R→m∈mets
 nest:nest R 0=true
 pro:R.count .pro≤2
structure EOk (E:Env):Prop where
 lays:(∀n∈E.lays,IsNm n)∧E.lays.Nodup∧E.lays.length≤4
 mets:(∀n∈E.mets,IsNm n)∧E.mets.Nodup
 o:(∀n∈E.o,IsNm n)∧E.o.length≤3
 six:E.lays.length * E.o.length≤6∨∀la∈E.lays,∀c m,c≠("" : Str)→E.T (la,c,m)=none
 good:∀k R,E.T k=some R→GoodR E.lays E.mets R
 own:∀m∈E.mets,E.T ("","",m)=some [.own]
def lastP (E:Env) (m:Str):List (Str×Str):=if m∈E.own then [(("" : Str),("" : Str))] else ((E.o.filter fun n=>E.has ("",n,m)).take 1).map fun n=>(("" : Str),n)
def allP (E:Env) (m:Str):List (Str×Str):=(E.lays.flatMap fun la=>(E.o.filter fun n=>E.has (la,n,m)).map fun n=>(la,n))++lastP E m
structure VF (E:Env) (m:Str) (f:Fr):Prop where
 all:f.p∈allP E m
 ex:∃R,E.T (f.la,f.c,m)=some R∧f.i≤R.length
theorem VF.rows {E:Env} {m:Str} {f:Fr} (h:VF E m f):E.T (f.la,f.c,m)=some (E.rows m f)∧f.i≤(E.rows m f).length:=by
 obtain⟨R,e,hi⟩:=h.ex
 unfold Env.rows
 rw[e]
 exact⟨rfl,hi⟩
structure VB (E:Env) (m:Str) (base:List Str):Prop where
 m:m∈E.mets
 nd:base.Nodup
 sub:∀w∈base,w∈E.lays
structure VC (E:Env) (c:Cl):Prop where
 b:VB E c.m c.base
 nd:(c.fs.map Fr.p).Nodup
 fr:∀f∈c.fs,VF E c.m f
def VH (E:Env) (h:Option Cl):Prop:=∀c,h=some c→VC E c
theorem VF.to {E:Env} {m:Str} {f:Fr} (h:VF E m f) {i:Nat} (hi:i≤(E.rows m f).length):VF E m (f.to i):=⟨h.all,_,h.rows.1,hi⟩
end My
namespace My
open PySem L2 M3
def rD (r:Row):D:=.str r.str
@[simp] theorem lenF_ctup (xs:List D):lenF [.val (.ctup xs)]=some (.val (.int xs.length)):=rfl
@[simp] theorem ixF_ctup (xs:List D) (i:Int):ixF (.val (.ctup xs)) (.val (.int i))=(atI xs i).map .val:=rfl
theorem eqF_row (neg:Bool) {r c:Row} (hr:r.ok) (hc:c.ok):eqF neg (.val (.str r.str)) (.val (.str c.str))=some (.val (.bl (if neg then !decide (r=c) else decide (r=c)))):=by
 rw[eqF_str neg (row_ok hr) (row_ok hc)]
 have:decide (r.str=c.str)=decide (r=c):=decide_eq_decide.mpr (str_inj hr hc)
 rw[this]
theorem row_if {r:Row} (hr:r.ok):eqF false (.val (.str r.str)) (.val (.str "if"))=some (.val (.bl (decide (r=.iff)))):=eqF_row false hr (c:=.iff) trivial
theorem row_else {r:Row} (hr:r.ok):eqF false (.val (.str r.str)) (.val (.str "else"))=some (.val (.bl (decide (r=.els)))):=eqF_row false hr (c:=.els) trivial
theorem row_end {r:Row} (hr:r.ok):eqF false (.val (.str r.str)) (.val (.str "end"))=some (.val (.bl (decide (r=.en)))):=eqF_row false hr (c:=.en) trivial
theorem tst {e:Option W} {p:Prop} [Decidable p] (h:e=some (.val (.bl (decide p)))) (q:p):e=some (.val (.bl true)):=by rw[h,decide_eq_true q]
theorem tsf {e:Option W} {p:Prop} [Decidable p] (h:e=some (.val (.bl (decide p)))) (q:¬p):e=some (.val (.bl false)):=by rw[h,decide_eq_false q]
theorem starts_on {r:Row} (h:r.ok):Txt.startswith r.str "on " = (match r with | .sw true _=>true | _=>false):=by
 cases e:r.arg with
 | none=>
  rw[str_none e]
  cases r <;> first
   | (cases e;done)
   | (clear e;dsimp only[Row.head];decide +kernel)
 | some w=>
  rw[str_arg e,lit_on,starts_S]
  cases r <;> first
   | (cases e;done)
   | (dsimp only[Row.head];rename_i b l;cases b <;> (dsimp only[onS];simp[show ("on" : Str).cps.toList=[111,110] by decide +kernel,show ("off" : Str).cps.toList=[111,102,102] by decide +kernel]))
   | (dsimp only[Row.head];simp[show ("say" : Str).cps.toList=[115,97,121] by decide +kernel,show ("ask" : Str).cps.toList=[97,115,107] by decide +kernel,show ("set" : Str).cps.toList=[115,101,116] by decide +kernel,show ("call" : Str).cps.toList=[99,97,108,108] by decide +kernel,show ("store" : Str).cps.toList=[115,116,111,114,101] by decide +kernel])
theorem starts_off {r:Row} (h:r.ok):Txt.startswith r.str "off " = (match r with | .sw false _=>true | _=>false):=by
 cases e:r.arg with
 | none=>
  rw[str_none e]
  cases r <;> first
   | (cases e;done)
   | (clear e;dsimp only[Row.head];decide +kernel)
 | some w=>
  rw[str_arg e,lit_off,starts_S]
  cases r <;> first
   | (cases e;done)
   | (dsimp only[Row.head];rename_i b l;cases b <;> (dsimp only[onS];simp[show ("on" : Str).cps.toList=[111,110] by decide +kernel,show ("off" : Str).cps.toList=[111,102,102] by decide +kernel]))
   | (dsimp only[Row.head];simp[show ("say" : Str).cps.toList=[115,97,121] by decide +kernel,show ("ask" : Str).cps.toList=[97,115,107] by decide +kernel,show ("set" : Str).cps.toList=[115,101,116] by decide +kernel,show ("call" : Str).cps.toList=[99,97,108,108] by decide +kernel,show ("store" : Str).cps.toList=[115,116,111,114,101] by decide +kernel])
theorem switches_spec {r:Row} (h:r.ok) (st:Store):mf_switches [.str r.str] st=.ok (.bl r.isSw) st:=by
 apply of_run
 rw[mf_switches,run_mfn]
 simp[mb_switches,starts_on h,starts_off h]
 cases r <;> first
  | rfl
  | (rename_i b l;cases b <;> simp[Row.isSw])
  | simp[Row.isSw]
abbrev OkR (R:List Row):Prop:=∀r∈R,r.ok
theorem opens_iff (r:Row):r.opens=true↔r=.iff∨r.isSw=true:=by cases r <;> simp[Row.opens,Row.isSw]
theorem not_opens {r:Row} (h:¬r.opens=true):r≠.iff∧r.isSw=false:=by
 refine⟨fun q=>h ((opens_iff r).mpr (.inl q)),?_⟩
 cases q:r.isSw with
 | false=>rfl
 | true=>exact absurd ((opens_iff r).mpr (.inr q)) h
end My
namespace My
open PySem L2 M3
theorem split_row {r:Row} (h:r.ok):splitF r.str (.val (.str " "))=some (.val (.lst (r.words.map .str))):=by
 rw[splitF_str,row_split h,if_pos]
 refine⟨by decide +kernel,?_⟩
 have:=row_len h
 omega
theorem head_ok (r:Row):Ok r.head:=w_ok (head_w r)
end My
namespace My
open PySem L2 M3
structure BookS (S:Sp) (os:Ctab) (inn:List Str) (r:Bod) (a b:Nat) (K:KTab) (st:Store):Prop where
 at_:st[a]?=some (.ins "Book" (bookF2 S os inn r b))
 kn:st[b]?=some (.ddi (kt K) (kv K))
def stK (st:Store) (b:Nat) (K:KTab):Store:=st.set b (.ddi (kt K) (kv K))
def addK (K:KTab) (bs o:List Str):KTab:=if bs∈K.map (·.1) then K else K++[(bs,o)]
theorem addK_mem (K:KTab) (bs o:List Str):bs∈(addK K bs o).map (·.1):=by
 unfold addK
 split
 ·assumption
 ·simp
theorem addK_add (K:KTab) (bs o o':List Str):addK (addK K bs o) bs o'=addK K bs o:=by
 have:=addK_mem K bs o
 rw[addK,if_pos this]
theorem addK_len (K:KTab) (bs o:List Str):(addK K bs o).length≤K.length+1:=by
 unfold addK
 split <;> simp
theorem KOk.add {os:Ctab} {K:KTab} (h:KOk os K) {bs o:List Str} (e:orderR os bs=some o):KOk os (addK K bs o):=fun x hx=>by
 unfold addK at hx
 split at hx
 ·exact h x hx
 ·rcases List.mem_append.mp hx with q | q
  ·exact h x q
  ·rw[List.mem_singleton.mp q];exact e
section
variable {S:Sp} {os:Ctab} {inn:List Str} {r:Bod} {a b:Nat} {K:KTab} {st:Store}
theorem BookS.ne (h:BookS S os inn r a b K st):a≠b:=fun e=>by
 have h1:=h.at_
 rw[e,h.kn] at h1
 cases h1
theorem BookS.put (h:BookS S os inn r a b K st) (K':KTab):BookS S os inn r a b K' (stK st b K'):=by
 have hb:=(List.getElem?_eq_some_iff.mp h.kn).1
 refine⟨?_,?_⟩
 ·unfold stK
  rw[List.getElem?_set_ne h.ne.symm]
  exact h.at_
 ·unfold stK
  rw[List.getElem?_set_self hb]
theorem set_same_at {α:Type}:∀{l:List α} {i:Nat} {x:α},l[i]?=some x→l.set i x=l
 | [],_,_,h=>by simp at h
 | y :: l,0,x,h=>by simp at h;simp[h]
 | y :: l,i+1,x,h=>by
  simp at h
  rw[List.set_cons_succ,set_same_at (by simpa using h)]
theorem BookS.same (h:BookS S os inn r a b K st):stK st b K=st:=set_same_at h.kn
end
end My
namespace My
open PySem L2 M3
def rowS (R:List Row):List Str:=R.map Row.str
theorem rowS_D (R:List Row):tupS (rowS R)=.tup (R.map rD):=by simp[tupS,rowS,rD,Function.comp_def]
theorem mem_lookup {α β:Type} [BEq α] [LawfulBEq α]:∀(b:List (α×β)) (k:α),k∈b.map (·.1)↔(b.lookup k).isSome=true
 | [],k=>by simp
 | e :: b,k=>by
  obtain⟨k',v⟩:=e
  rw[List.lookup_cons,List.map_cons,List.mem_cons,mem_lookup b k]
  cases h:k == k' with
  | true=>simp at h;simp[h]
  | false=>
   have:k≠k':=by simpa using h
   simp[this]
structure Link (S:Sp) (os:Ctab) (r:Bod) (bs:List Str) (E:Env):Prop where
 hC:Cls3 S.cs
 ho:S.cs.foldlM ordStep []=some os
 eo:orderR os bs=some E.o
 law:∀k,S.bod.lookup k=(E.T k).map rowS
 prog:∀k:K3,k.2.1≠""→r.lookup k=(E.T k).map rowS
 run:S.run="keep"∨S.run="live"
 live:E.live=decide (S.run="live")
 sto:S.sto="maker"∨S.sto="caller"
 caller:E.caller=decide (S.sto="caller")
 own:∀m∈E.own,m∈E.mets
 ok:EOk E
section
variable {S:Sp} {os:Ctab} {inn:List Str} {r:Bod} {bs:List Str} {E:Env} {a b:Nat} {K:KTab} {st:Store}
theorem VF.own {m:Str} {f:Fr} (ok:EOk E) (hm:m∈E.mets) (h:VF E m f) (hc:f.c=""):f.la=""∧E.rows m f=[.own]:=by
 have h1:=h.all
 unfold allP lastP at h1
 have no:∀n∈E.o,n≠"":=fun n hn=>nm_ne (ok.o.1 n hn)
 have hp:f.p=(("" : Str),("" : Str)):=by
  rcases List.mem_append.mp h1 with q | q
  ·obtain⟨la,_,h2⟩:=List.mem_flatMap.mp q
   obtain⟨n,h3,h4⟩:=List.mem_map.mp h2
   have:n=f.c:=by have:=congrArg Prod.snd h4;exact this
   exact absurd (this.trans hc) (no n (List.mem_filter.mp h3).1)
  ·split at q
   ·exact List.mem_singleton.mp q
   ·obtain⟨n,h3,h4⟩:=List.mem_map.mp q
    have:n=f.c:=by have:=congrArg Prod.snd h4;exact this
    exact absurd (this.trans hc) (no n (List.mem_filter.mp (List.mem_of_mem_take h3)).1)
 have hla:f.la="":=congrArg Prod.fst hp
 refine⟨hla,?_⟩
 have:=h.rows.1
 rw[hla,hc,ok.own m hm] at this
 injection this with this
 exact this.symm
theorem Link.goodR (L:Link S os r bs E) {m:Str} {f:Fr} (h:VF E m f):GoodR E.lays E.mets (E.rows m f):=L.ok.good _ _ h.rows.1
end
end My
namespace My
open PySem L2 M3
theorem head_onoff' (r:Row):r.head∈(["on","off"]:List Str)↔r.isSw=true:=by
 cases r <;> first
  | (dsimp only[Row.head,Row.isSw];decide +kernel)
  | (rename_i b l;cases b <;> (show _∈_↔true=true;simp only[Row.head,onS,if_true,Bool.false_eq_true,if_false];decide +kernel))
theorem oks_onoff:Oks ["on","off"]:=by decide +kernel
theorem in_onoff (r:Row):inF false (.val (.str r.head)) (.val (.tup [.str "on",.str "off"]))=some (.val (.bl r.isSw)):=by
 have:=inF_tup false (head_ok r) oks_onoff
 rw[show (D.tup [.str "on",.str "off"])=.tup ((["on","off"]:List Str).map .str) from rfl,this]
 have h:decide (r.head∈(["on","off"]:List Str))=r.isSw:=by
  rw[Bool.eq_iff_iff,decide_eq_true_eq]
  exact head_onoff' r
 simp only[Bool.false_eq_true,if_false,h]
end My
namespace My
open PySem L2 M3
def kSetL (i:Nat) (u:Sl3) (xs:List D) (ks:SRes→Prop):Res W→Prop
 | .ok (.val d) st=>ks (.nx (u.set i (some (.bor (xs++[d])))) st)
 | .ok _ _=>ks .bad
 | .err c x st=>ks (.err c x u st)
 | .bad=>ks .bad
@[simp] theorem kSetL_ok (i:Nat) (u:Sl3) (xs:List D) (ks:SRes→Prop) (d:D) (st:Store):kSetL i u xs ks (.ok (.val d) st)=ks (.nx (u.set i (some (.bor (xs++[d])))) st):=rfl
theorem set_last {α:Type} (d x:α):∀xs:List α,(xs++[x]).set xs.length d=xs++[d]
 | []=>rfl
 | y :: ys=>by simp[set_last d x ys]
theorem ixN_last (n:Nat):ixN (n+1) (-1)=some n:=by
 unfold ixN
 rw[if_neg (by omega),if_pos (by omega)]
 congr 1
 omega
theorem run_setLast (i:Nat) {u:Sl3} {st:Store} {ks:SRes→Prop} {me:EM} {xs:List D} {x:D} (h:u[i]?=some (some (.bor (xs++[x])))):srun (sSetI i (eNeg (eC (.int 1))) me u st) ks=M3.run (me u st) (kSetL i u xs ks):=by
 unfold srun sSetI M3.run kSetL
 rw[h]
 dsimp only
 cases me u st with
 | ok w st1=>
  cases w with
  | val d=>
   have e:eNeg (eC (.int 1)) u st1=.ok (.val (.int (-1))) st1:=rfl
   dsimp only
   rw[e]
   dsimp only
   have l:(xs++[x]).length=xs.length+1:=by simp
   rw[l,ixN_last]
   dsimp only
   rw[set_last]
  | _=>rfl
 | _=>rfl
@[simp] theorem atI_lastD (xs:List D) (x:D):atI (xs++[x]) (-1)=some x:=by rw[M3.atI_last];simp
end My
namespace My
open PySem L2 M3
structure Pt where
 c:Cl
 v:Int
 h:Option Cl
def Sta.pt (m:Str) (base:List Str) (s:Sta):Pt:=⟨⟨m,base,s.fs⟩,s.v,s.h⟩
def KA (K:KTab) (bs o:List Str) (K':KTab):Prop:=K'=K∨K'=addK K bs o
theorem KA.add {K K':KTab} {bs o:List Str} (h:KA K bs o K'):KA K bs o (addK K' bs o):=by
 rcases h with rfl | rfl
 ·exact .inr rfl
 ·rw[addK_add];exact .inr rfl
theorem KA.trans {K K' K2:KTab} {bs o:List Str} (h:KA K bs o K') (h2:KA K' bs o K2):KA K bs o K2:=by
 rcases h2 with rfl | rfl
 ·exact h
 ·exact h.add
theorem KA.ok {os:Ctab} {K K':KTab} {bs o:List Str} (h:KA K bs o K') (hK:KOk os K) (e:orderR os bs=some o):KOk os K':=by
 rcases h with rfl | rfl
 ·exact hK
 ·exact hK.add e
theorem KA.len {K K':KTab} {bs o:List Str} (h:KA K bs o K'):K'.length≤K.length+1:=by
 rcases h with rfl | rfl
 ·omega
 ·exact addK_len K bs o
theorem KA.refl (K:KTab) (bs o:List Str):KA K bs o K:=.inl rfl
section
variable {S:Sp} {os:Ctab} {inn:List Str} {r:Bod} {bs:List Str} {E:Env} {a b:Nat} {K:KTab} {st:Store}
structure VP (E:Env) (p:Pt):Prop where
 c:VC E p.c
 h:VH E p.h
 stop:∀s:Sta,s.fs=p.c.fs→s.v=p.v→s.h=p.h→stepS E p.c.m p.c.base s=none
end
end My
namespace My
open PySem L2 M3
inductive Ev where
 | stuck (m:Str) | back (v:Int) (b:Bool) | own (m:Str) | yld (v:Int) | say (w:Str) | ask (w:Str) | call (m:Str) | run
def Ev.hd:Ev→Str
 | .stuck _=>"stuck" | .back _ _=>"back" | .own _=>"own" | .yld _=>"yield" | .say _=>"say" | .ask _=>"ask" | .call _=>"call" | .run=>"run"
def evRow (p:Pt):Row→Ev
 | .pro=>.stuck p.c.m | .own=>.own p.c.m | .yld=>.yld p.v | .say w=>.say w | .ask w=>.ask w | .call m=>.call m | _=>.run
def evOf (E:Env) (p:Pt):Ev:=match p.c.fs.getLast? with
 | none=>.stuck p.c.m
 | some f=>match (E.rows p.c.m f)[f.i]? with
  | none=>.back p.v p.h.isSome
  | some r=>evRow p r
theorem fs_split {fs:List Fr} (h:fs≠[]):∃pre f,fs=pre++[f]:=⟨fs.dropLast,fs.getLast h,(List.dropLast_concat_getLast h).symm⟩
end My
namespace My
open PySem L2 M3
def Ev.isBack:Ev→Bool
 | .back _ _=>true
 | _=>false
def Ev.asks:Ev→Bool
 | .ask _=>true | .own _=>true
 | _=>false
def Ev.goes:Ev→Bool
 | .call _=>true | .run=>true
 | _=>false
def Ev.leaves:Ev→Bool
 | .back _ _=>true | .yld _=>true
 | _=>false
section
variable {S:Sp} {os:Ctab} {inn:List Str} {r:Bod} {bs:List Str} {E:Env} {a b:Nat} {K:KTab} {st:Store}
theorem ev_at {p:Pt} {pre:List Fr} {f:Fr} (e:p.c.fs=pre++[f]):evOf E p=match (E.rows p.c.m f)[f.i]? with
  | none=>.back p.v p.h.isSome
  | some r=>evRow p r:=by
 unfold evOf
 have:p.c.fs.getLast?=some f:=by rw[e];simp
 rw[this] <;> rfl
theorem VP.at_row (L:Link S os r bs E) {p:Pt} (hp:VP E p) (h:(evOf E p).leaves=true∨(evOf E p).goes=true∨(evOf E p).asks=true∨∃w,evOf E p=.say w):∃pre f,p.c.fs=pre++[f]∧((evOf E p).isBack=false→f.i<(E.rows p.c.m f).length):=by
 have hne:p.c.fs≠[]:=fun q=>by
  have:evOf E p=.stuck p.c.m:=by unfold evOf;rw[q];rfl
  rw[this] at h
  rcases h with h | h | h | ⟨w,h⟩ <;> cases h
 obtain⟨pre,f,hfs⟩:=fs_split hne
 refine⟨pre,f,hfs,fun hb=>?_⟩
 rw[ev_at hfs] at hb
 cases q:(E.rows p.c.m f)[f.i]? with
 | none=>rw[q] at hb;cases hb
 | some r=>exact(List.getElem?_eq_some_iff.mp q).1
theorem VP.row (L:Link S os r bs E) {p:Pt} (hp:VP E p) {pre:List Fr} {f:Fr} (e:p.c.fs=pre++[f]):VF E p.c.m f∧GoodR E.lays E.mets (E.rows p.c.m f):=by
 have vf:=hp.c.fr f (by rw[e];simp)
 exact⟨vf,L.goodR vf⟩
theorem VP.call (L:Link S os r bs E) {p:Pt} (hp:VP E p) {m':Str} (h:evOf E p=.call m'):m'∈E.mets:=by
 obtain⟨pre,f,hfs,hi⟩:=hp.at_row L (.inr (.inl (by rw[h];rfl)))
 obtain⟨vf,g⟩:=hp.row L hfs
 rw[ev_at hfs] at h
 cases q:(E.rows p.c.m f)[f.i]? with
 | none=>rw[q] at h;cases h
 | some r=>
  rw[q] at h
  have hm:=List.mem_of_getElem? q
  cases r <;> first
   | (cases h;done)
   | (cases h;exact g.call _ hm)
end
end My
namespace My
open PySem L2 M3
mutual
inductive Nice:Nat→D→PyData→Prop where
 | non {n}:Nice n .non .none
 | bl {n b}:Nice n (.bl b) (.bool b)
 | int {n i}:Nice n (.int i) (.int i)
 | str {n x}:Ok x→Nice n (.str x) (.str x)
 | tup {n xs ps}:NiceL n xs ps→Nice (n+1) (.tup xs) (.tuple ps)
inductive NiceL:Nat→List D→List PyData→Prop where
 | nil {n}:NiceL n [] []
 | cons {n x p xs ps}:Nice n x p→NiceL n xs ps→NiceL n (x :: xs) (p :: ps)
end
mutual
theorem Nice.facts:∀{n:Nat} {d:D} {p:PyData},Nice n d p→d.py=some p∧p.canLay0=true∧p.depth≤n∧PyData.eqv p p=true
 | _,_,_,.non=>⟨rfl,rfl,by simp[PyData.depth],by simp[PyData.eqv]⟩
 | _,_,_,.bl=>⟨rfl,rfl,by simp[PyData.depth],by simp[PyData.eqv]⟩
 | _,_,_,.int=>⟨rfl,rfl,by simp[PyData.depth],by simp[PyData.eqv]⟩
 | _,_,_,.str h=>⟨rfl,by rw[PyData.canLay0];exact h,by simp[PyData.depth],by simp[PyData.eqv]⟩
 | _,_,_,.tup h=>by
  obtain⟨h1,h2,h3,h4⟩:=NiceL.facts h
  refine⟨by rw[D.py,h1];rfl,by rw[PyData.canLay0,h2],by rw[PyData.depth];omega,by rw[PyData.eqv];exact h4⟩
theorem NiceL.facts:∀{n:Nat} {d:List D} {p:List PyData},NiceL n d p→D.pys d=some p∧PyData.canLayAll0 p=true∧PyData.depthAll p≤n∧PyData.eqvAll p p=true
 | _,_,_,.nil=>⟨rfl,rfl,by simp[PyData.depthAll],by simp[PyData.eqvAll]⟩
 | _,_,_,.cons h t=>by
  obtain⟨h1,h2,h3,h4⟩:=Nice.facts h
  obtain⟨t1,t2,t3,t4⟩:=NiceL.facts t
  refine⟨by rw[D.pys,h1,t1],by rw[PyData.canLayAll0,h2,t2];rfl,by rw[PyData.depthAll];exact Nat.max_le.mpr ⟨h3,t3⟩,by rw[PyData.eqvAll,h4,t4];rfl⟩
end
theorem eqF_self {n:Nat} {d:D} {p:PyData} (h:Nice n d p) (hn:n≤64) (neg:Bool):eqF neg (.val d) (.val d)=some (.val (.bl (!neg))):=by
 obtain⟨h1,h2,h3,h4⟩:=h.facts
 have s:SeqAt.shaped p=true:=by
  unfold SeqAt.shaped
  rw[h2]
  simp
  omega
 unfold eqF
 simp only[W_rd_val,D.eqv?,h1,s,and_self,if_true,h4]
 cases neg <;> rfl
theorem nice_strs:∀{ws:List Str},Oks ws→∃ps,NiceL 1 (ws.map .str) ps
 | [],_=>⟨_,.nil⟩
 | w :: ws,h=>by
  obtain⟨ps,hp⟩:=nice_strs (ws:=ws) fun x hx=>h x (List.mem_cons_of_mem _ hx)
  exact⟨_,.cons (.str (h w List.mem_cons_self)) hp⟩
end My
namespace My
open PySem L2 M3
def nextB (r:Row) (B:List Row):Option (List Row):=if r.opens=true then (if B.length<3 then some (r :: B) else none) else if r=.els then (match B with | .iff :: C=>some (.els :: C) | _=>none) else if r=.en then (match B with | _ :: C=>some C | []=>none) else some B
def nestS:List Row→List Row→Option (List Row)
 | [],B=>some B
 | r :: rs,B=>(nextB r B).bind (nestS rs)
theorem nestS_app:∀(a b B:List Row),nestS (a++b) B=(nestS a B).bind (nestS b)
 | [],b,B=>rfl
 | r :: a,b,B=>by
  show (nextB r B).bind (nestS (a++b))=((nextB r B).bind (nestS a)).bind (nestS b)
  cases nextB r B with
  | none=>rfl
  | some C=>exact nestS_app a b C
theorem nextB_len {r:Row} {B C:List Row} (h:nextB r B=some C) (hB:B.length≤3):C.length≤3:=by
 unfold nextB at h
 split at h
 ·split at h
  ·cases h;simp;omega
  ·cases h
 ·split at h
  ·split at h
   ·cases h;simp at hB⊢;exact hB
   ·cases h
  ·split at h
   ·split at h
    ·cases h;simp at hB;omega
    ·cases h
   ·cases h;exact hB
theorem nest_ends:∀B:List Row,nestS (List.replicate B.length .en) B=some []
 | []=>rfl
 | b :: B=>by
  show (nextB .en (b :: B)).bind (nestS (List.replicate B.length .en))=_
  exact nest_ends B
inductive Way where
 | say | ask | set (b:Bool) | iff | en | sw (on:Bool) | call | store | pro | run | yld
def Way.str:Way→Str
 | .say=>"say" | .ask=>"ask" | .set b=>if b then "set 1" else "set 0" | .iff=>"if" | .en=>"end" | .sw b=>onS b | .call=>"call" | .store=>"store" | .pro=>"proceed" | .run=>"run" | .yld=>"yield"
theorem count_row {c:Row} (hc:c.ok):∀{R:List Row},OkR R→(R.map Row.str).count c.str=R.count c
 | [],_=>rfl
 | r :: R,h=>by
  rw[List.map_cons,List.count_cons,List.count_cons,count_row hc fun x hx=>h x (List.mem_cons_of_mem _ hx)]
  congr 1
  have:=str_inj (h r List.mem_cons_self) hc
  by_cases q:r=c
  ·rw[q];simp
  ·have q2:¬r.str=c.str:=fun e=>q (this.mp e)
   simp[q,q2]
end My
namespace My
open PySem L2 M3
def Way.isSw:Way→Bool | .sw _=>true | _=>false
def FromW (menu:List Way):Row→Prop
 | .ask _=>Way.ask∈menu | .set b=>Way.set b∈menu | .iff=>Way.iff∈menu | .pro=>Way.pro∈menu | .run=>Way.run∈menu | .yld=>Way.yld∈menu | .call _=>Way.call∈menu | .store _=>Way.store∈menu | .sw b _=>Way.sw b∈menu
 | _=>True
structure Drawn (menu:List Way) (lays mets:List Str) (n:Nat) (R B:List Row):Prop where
 len:R.length=n
 ok:OkR R
 lay:∀on l,Row.sw on l∈R→l∈lays
 call:∀m,Row.call m∈R→m∈mets
 store:∀m,Row.store m∈R→m∈mets
 st:nestS R []=some B
 blk:B.length≤3
 pro:R.count .pro≤2
 own:Row.own∉R
 way:∀r∈R,FromW menu r
theorem Drawn.add {menu:List Way} {lays mets:List Str} {n:Nat} {R B C:List Row} (h:Drawn menu lays mets n R B) {r:Row} (okr:r.ok) (hl:∀on l,r=.sw on l→l∈lays) (hc:∀m,r=.call m→m∈mets) (hs:∀m,r=.store m→m∈mets) (hn:nextB r B=some C) (hp:r=.pro→R.count .pro<2) (ho:r≠.own) (hf:FromW menu r):Drawn menu lays mets (n+1) (R++[r]) C:=by
 refine⟨by simp[h.len],fun x hx=>?_,fun on l hx=>?_,fun m hx=>?_,fun m hx=>?_,?_,nextB_len hn h.blk,?_,fun hx=>?_,fun x hx=>?_⟩
 ·rcases List.mem_append.mp hx with q | q
  ·exact h.ok x q
  ·rw[List.mem_singleton.mp q];exact okr
 ·rcases List.mem_append.mp hx with q | q
  ·exact h.lay on l q
  ·exact hl on l (List.mem_singleton.mp q).symm
 ·rcases List.mem_append.mp hx with q | q
  ·exact h.call m q
  ·exact hc m (List.mem_singleton.mp q).symm
 ·rcases List.mem_append.mp hx with q | q
  ·exact h.store m q
  ·exact hs m (List.mem_singleton.mp q).symm
 ·rw[nestS_app,h.st]
  show (nextB r B).bind (nestS [])=_
  rw[hn];rfl
 ·rw[List.count_append,List.count_singleton]
  have:=h.pro
  by_cases q:r=.pro
  ·have:=hp q
   split <;> omega
  ·have:(r == .pro)=false:=by simpa using q
   rw[this]
   simp
   omega
 ·rcases List.mem_append.mp hx with q | q
  ·exact h.own q
  ·exact ho (List.mem_singleton.mp q).symm
 ·rcases List.mem_append.mp hx with q | q
  ·exact h.way x q
  ·rw[List.mem_singleton.mp q];exact hf
end My
namespace My
open PySem L2 M3
theorem Drawn.stack {menu:List Way} {lays mets:List Str} {n:Nat} {R B:List Row} (h:Drawn menu lays mets n R B):nestS (R++List.replicate B.length .en) []=some []:=by
 rw[nestS_app,h.st]
 exact nest_ends B
def Row.bare:Row→Bool
 | .set _=>true | .iff=>true | .els=>true | .en=>true | .pro=>true | .run=>true | .yld=>true
 | _=>false
theorem oks_bare:Oks ["set 0","set 1","if","else","end","proceed","run","yield"]:=by decide +kernel
theorem bare_in {r:Row} (h:r.bare=true):r.str∈(["set 0","set 1","if","else","end","proceed","run","yield"]:List Str):=by
 cases r <;> first
  | (cases h;done)
  | (dsimp only[Row.str,Row.arg,Row.head];decide +kernel)
  | (rename_i b;cases b <;> (dsimp only[Row.str,Row.arg,Row.head,Row.pre,bitS];decide +kernel))
theorem bare_out {r:Row} (ok:r.ok) (h:r.bare=false) (ho:r≠.own):r.str∉(["set 0","set 1","if","else","end","proceed","run","yield"]:List Str):=fun q=>by
 have key:∀c:Row,c.ok→c.bare=true→r.str≠c.str:=fun c hc hb e=>by
  have:=(str_inj ok hc).mp e
  rw[this,hb] at h
  cases h
 have e0:(Row.set false).str="set 0":=by decide +kernel
 have e1:(Row.set true).str="set 1":=by decide +kernel
 simp only[List.mem_cons,List.not_mem_nil,or_false] at q
 rcases q with q | q | q | q | q | q | q | q
 ·exact key (.set false) trivial rfl (q.trans e0.symm)
 ·exact key (.set true) trivial rfl (q.trans e1.symm)
 ·exact key .iff trivial rfl q
 ·exact key .els trivial rfl q
 ·exact key .en trivial rfl q
 ·exact key .pro trivial rfl q
 ·exact key .run trivial rfl q
 ·exact key .yld trivial rfl q
theorem arg_len {r:Row} {w:Str} (e:r.arg=some w):r.words=[r.head,w]:=by unfold Row.words;rw[e]
def Row.sayB:Row→Bool | .say _=>true | .ask _=>true | _=>false
theorem sayB' (r:Row):r.head∈(["say","ask"]:List Str)↔r.sayB=true:=by
 cases r <;> first
  | (dsimp only[Row.head,Row.sayB];decide +kernel)
  | (rename_i b l;cases b <;> (show _∈_↔false=true;simp only[Row.head,onS,if_true,Bool.false_eq_true,if_false];decide +kernel))
def Row.callB:Row→Bool | .call _=>true | .store _=>true | _=>false
theorem callB' (r:Row):r.head∈(["call","store"]:List Str)↔r.callB=true:=by
 cases r <;> first
  | (dsimp only[Row.head,Row.callB];decide +kernel)
  | (rename_i b l;cases b <;> (show _∈_↔false=true;simp only[Row.head,onS,if_true,Bool.false_eq_true,if_false];decide +kernel))
theorem hd_in {r:Row} {cs:List Str} {p:Bool} (hc:Oks cs) (h:r.head∈cs↔p=true):inF false (.val (.str r.head)) (.val (.tup (cs.map .str)))=some (.val (.bl p)):=by
 rw[inF_tup false (head_ok r) hc]
 have:decide (r.head∈cs)=p:=by rw[Bool.eq_iff_iff,decide_eq_true_eq];exact h
 simp only[Bool.false_eq_true,if_false,this]
theorem in_say (r:Row):inF false (.val (.str r.head)) (.val (.tup [.str "say",.str "ask"]))=some (.val (.bl r.sayB)):=hd_in (cs:=["say","ask"]) (by decide +kernel) (sayB' r)
theorem in_call (r:Row):inF false (.val (.str r.head)) (.val (.tup [.str "call",.str "store"]))=some (.val (.bl r.callB)):=hd_in (cs:=["call","store"]) (by decide +kernel) (callB' r)
set_option maxHeartbeats 8000000 in
theorem good_row2 {lays mets:List Str} {R:List Row} (g:GoodR lays mets R) (ho:Row.own∉R) (okl:Oks lays) (okm:Oks mets) {r:Row} (hr:r∈R) (st:Store):mf_good_row [.str r.str,lstS lays,lstS mets] st=.ok (.bl true) st:=by
 apply of_run
 have ok:=g.ok r hr
 have hown:r≠.own:=fun q=>ho (q▸hr)
 have ib:=inF_ctup false (row_ok ok) oks_bare
 have os:=row_ok ok
 rw[mf_good_row,run_mfn]
 cases hb:r.bare with
 | true=>
  rw[decide_eq_true (bare_in hb)] at ib
  simp[mb_good_row,lstS]
  rw[show (D.ctup [.str "set 0",.str "set 1",.str "if",.str "else",.str "end",.str "proceed",.str "run",.str "yield"])=.ctup ((["set 0","set 1","if","else","end","proceed","run","yield"]:List Str).map .str) from rfl,ib]
  simp
 | false=>
  rw[decide_eq_false (bare_out ok hb hown)] at ib
  obtain⟨w,hw⟩:∃w,r.arg=some w:=by
   cases r <;> first
    | (cases hb;done)
    | exact absurd rfl hown
    | exact⟨_,rfl⟩
  have sp:=split_row ok
  rw[arg_len hw] at sp
  simp[mb_good_row,lstS,-splitF_str]
  rw[show (D.ctup [.str "set 0",.str "set 1",.str "if",.str "else",.str "end",.str "proceed",.str "run",.str "yield"])=.ctup ((["set 0","set 1","if","else","end","proceed","run","yield"]:List Str).map .str) from rfl,ib]
  simp[sp,eqF_int,in_say,in_onoff,in_call,-splitF_str]
  cases r with
  | say x=>cases hw;simp[Row.sayB,is_word_spec ok]
  | ask x=>cases hw;simp[Row.sayB,is_word_spec ok]
  | sw on l=>
   cases hw
   simp[Row.sayB,Row.isSw,in_onoff]
   rw[inF_lst false (okN ok) okl]
   simp[g.lay on _ hr]
  | call m=>
   cases hw
   simp[Row.sayB,Row.isSw,Row.callB,in_onoff,in_call]
   rw[inF_lst false (okN ok) okm]
   simp[g.call _ hr]
  | store m=>
   cases hw
   simp[Row.sayB,Row.isSw,Row.callB,in_onoff,in_call]
   rw[inF_lst false (okN ok) okm]
   simp[g.store _ hr]
  | own=>exact absurd rfl hown
  | _=>cases hb
end My
namespace My
open PySem L2 M3
set_option maxHeartbeats 8000000 in
theorem nested2 {R:List Row} (ok:OkR R) (hl:R.length≤100) (hn:nestS R []=some []) (st:Store):mf_well_nested [.tup (R.map rD)] st=.ok (.bl true) st:=by
 apply of_run
 rw[mf_well_nested,run_mfn]
 simp[mb_well_nested]
 refine forL_run (fun i u st'=>st'=st∧∃(B:List Row) (x2:Option W),nestS (R.drop i) B=some []∧B.length≤3∧OkR B∧u=[some (W.val (D.tup (R.map rD))),some (W.bor (B.map rD).reverse),x2]) ⟨rfl,[],none,hn,by simp,(fun r h=>by cases h),rfl⟩ ?_ ?_
 ·rintro i d u st' hd ⟨rfl,B,x2,hs,hB,okB,rfl⟩
  obtain⟨r,hr,rfl⟩:=get_map hd
  have hi:=(List.getElem?_eq_some_iff.mp hr).1
  have okr:=ok r (List.mem_of_getElem? hr)
  rw[List.drop_eq_getElem_cons hi,(List.getElem?_eq_some_iff.mp hr).2] at hs
  unfold nestS at hs
  cases hnb:nextB r B with
  | none=>rw[hnb] at hs;cases hs
  | some C=>
   rw[hnb] at hs
   have hC:=nextB_len hnb hB
   have hs:nestS (R.drop (i+1)) C=some []:=hs
   have hsw:=switches_spec okr
   unfold nextB at hnb
   refine⟨_,rfl,?_⟩
   by_cases ho:r.opens=true
   ·rw[if_pos ho] at hnb
    split at hnb
    ·cases hnb
     have q:=(opens_iff r).mp ho
     have okC:OkR (r :: B):=fun x hx=>by
      rcases List.mem_cons.mp hx with z | z
      ·rw[z];exact okr
      ·exact okB x z
     by_cases h0:r=.iff
     ·simp[rD,tst (row_if okr) h0]
      exact⟨by omega,by omega,r :: B,hs,by simp;omega,okC,by simp[rD]⟩
     ·have h4:=q.resolve_left h0
      simp[rD,tsf (row_if okr) h0,hsw,h4]
      exact⟨by omega,by omega,r :: B,hs,by simp;omega,okC,by simp[rD]⟩
    ·cases hnb
   ·rw[if_neg ho] at hnb
    obtain⟨n1,n2⟩:=not_opens ho
    by_cases hel:r=.els
    ·rw[if_pos hel] at hnb
     split at hnb
     ·rename_i D'
      cases hnb
      have ri:eqF true (.val (.str (Row.iff).str)) (.val (.str "if"))=some (.val (.bl false)):=by
       have:=eqF_row true (r:=.iff) (c:=.iff) trivial trivial
       rw[show (Row.iff.str)=("if" : Str) from rfl] at *
       rw[this]
       simp
      simp[rD,tsf (row_if okr) n1,hsw,n2,tst (row_else okr) hel,eqF_int]
      refine⟨by omega,?_⟩
      simp[ri]
      rw[run_setLast 1 (xs:=(D'.map rD).reverse) (x:=rD .iff) (by simp[rD])]
      simp
      refine⟨.els :: D',hs,by simp at hB⊢;omega,fun x hx=>?_,by simp[rD];rfl⟩
      rcases List.mem_cons.mp hx with z | z
      ·rw[z];trivial
      ·exact okB x (List.mem_cons_of_mem _ z)
     ·cases hnb
    ·rw[if_neg hel] at hnb
     by_cases hen:r=.en
     ·rw[if_pos hen] at hnb
      split at hnb
      ·rename_i b C'
       cases hnb
       simp[rD,tsf (row_if okr) n1,hsw,n2,tsf (row_else okr) hel,tst (row_end okr) hen,eqF_int]
       exact⟨by omega,C,hs,hC,(fun x hx=>okB x (List.mem_cons_of_mem _ hx)),rfl⟩
      ·cases hnb
     ·rw[if_neg hen] at hnb
      cases hnb
      simp[rD,tsf (row_if okr) n1,hsw,n2,tsf (row_else okr) hel,tsf (row_end okr) hen]
      exact⟨B,hs,hB,okB,rfl⟩
 ·rintro u st' ⟨rfl,B,x2,hs,hB,okB,rfl⟩
  rw[List.length_map,List.drop_length] at hs
  cases hs
  simp[eqF_int]
theorem cnt_row {c:Row} (hc:c.ok) {R:List Row} (h:OkR R):cntF (R.map rD) (.val (.str c.str))=some (.val (.int (R.count c:Nat))):=by
 have oks:Oks (R.map Row.str):=fun w hw=>by
  obtain⟨r,hr,rfl⟩:=List.mem_map.mp hw
  exact row_ok (h r hr)
 have e:R.map rD=(R.map Row.str).map .str:=by rw[List.map_map];rfl
 rw[e,cntF_str (row_ok hc) oks,count_row hc h]
set_option maxHeartbeats 8000000 in
theorem good_body2 {lays mets:List Str} {R:List Row} (g:GoodR lays mets R) (ho:Row.own∉R) (hn:nestS R []=some []) (okl:Oks lays) (okm:Oks mets) (st:Store):mf_good_body [.tup (R.map rD),lstS lays,lstS mets] st=.ok (.bl true) st:=by
 apply of_run
 have hl:=g.len
 have pc:=cnt_row (c:=.pro) trivial g.ok
 have ps:(Row.pro).str="proceed":=rfl
 rw[ps] at pc
 have hp:=g.pro
 rw[mf_good_body,run_mfn]
 simp[mb_good_body,pc]
 refine⟨by omega,by omega,?_⟩
 refine lcA_run (xs:=R) rD (fun _=>.bl true) (by omega) (fun r hr=>⟨_,rfl,?_⟩) ?_
 ·simp[rD]
  rw[good_row2 g ho okl okm hr]
  simp
 ·have:allF [.val (.lst (R.map fun _=>D.bl true))]=some (.val (.bl true)):=by
   rw[show (R.map fun _=>D.bl true)=(R.map fun _=>true).map .bl by simp,allF_bls]
   simp
  simp[this,nested2 g.ok (by omega) hn]
end My
namespace My
open PySem L2 M3
abbrev ownB:List Str:=[("own" : Str)]
abbrev ownK (m:Str):K3:=(("" : Str),("" : Str),m)
def putV (b:Bod) (k:K3) (v:List Str):Bod:=if k∈b.map (·.1) then b.map fun e=>if e.1=k then (e.1,v) else e else b++[(k,v)]
theorem putV_len (b:Bod) (k:K3) (v:List Str):(putV b k v).length≤b.length+1:=by
 unfold putV
 split <;> simp
theorem lookup_map_other {k k':K3} {v:List Str} (h:k'≠k):∀b:Bod,(b.map fun e=>if e.1=k then (e.1,v) else e).lookup k'=b.lookup k'
 | []=>rfl
 | e :: b=>by
  obtain⟨x,y⟩:=e
  rw[List.map_cons]
  by_cases q:x=k
  ·rw[if_pos q,List.lookup_cons,List.lookup_cons,lookup_map_other h b]
   have:(k' == x)=false:=by rw[q];simpa using h
   rw[this]
  ·rw[if_neg q,List.lookup_cons,List.lookup_cons,lookup_map_other h b]
theorem lookup_map_same {k:K3} {v:List Str}:∀b:Bod,k∈b.map (·.1)→(b.map fun e=>if e.1=k then (e.1,v) else e).lookup k=some v
 | [],h=>by cases h
 | e :: b,h=>by
  obtain⟨x,y⟩:=e
  rw[List.map_cons]
  by_cases q:x=k
  ·rw[if_pos q,List.lookup_cons]
   have:(k == x)=true:=by rw[q];simp
   rw[this]
  ·rw[if_neg q,List.lookup_cons]
   have:(k == x)=false:=by simpa using fun z:k=x=>q z.symm
   rw[this]
   rw[List.map_cons] at h
   exact lookup_map_same b ((List.mem_cons.mp h).resolve_left fun z=>q z.symm)
theorem lookup_none {b:Bod} {k:K3} (h:k∉b.map (·.1)):b.lookup k=none:=by
 cases q:b.lookup k with
 | none=>rfl
 | some v=>exact absurd ((mem_lookup b k).mpr (by rw[q];rfl)) h
theorem putV_lookup (b:Bod) (k:K3) (v:List Str) (k':K3):(putV b k v).lookup k'=if k'=k then some v else b.lookup k':=by
 unfold putV
 split
 ·rename_i h
  by_cases q:k'=k
  ·rw[if_pos q,q];exact lookup_map_same b h
  ·rw[if_neg q];exact lookup_map_other q b
 ·rename_i h
  rw[List.lookup_append]
  by_cases q:k'=k
  ·rw[if_pos q,q,lookup_none h]
   simp
  ·rw[if_neg q]
   have:(k' == k)=false:=by simpa using q
   simp[List.lookup_cons,this]
theorem ddSet_map (k:K3) (v:List Str):∀b:Bod,ddSet (bk b) (bv b) (nk3 k) (tupS v)=bv (b.map fun e=>if e.1=k then (e.1,v) else e)
 | []=>rfl
 | e :: b=>by
  show (if (key3 e.1).tk=some (nk3 k) then tupS v else tupS e.2) :: ddSet (bk b) (bv b) (nk3 k) (tupS v)=_
  rw[ddSet_map k v b,List.map_cons]
  show _=tupS (if e.1=k then (e.1,v) else e).2 :: _
  congr 1
  rw[tk_key3]
  by_cases q:e.1=k
  ·rw[if_pos (by rw[q]),if_pos q]
  ·rw[if_neg (fun z=>q (nk3_inj.mp (Option.some.inj z))),if_neg q]
theorem putV_dd (b:Bod) (k:K3) (v:List Str):ddPut (bk b) (bv b) (key3 k) (nk3 k) (tupS v)=(bk (putV b k v),bv (putV b k v)):=by
 unfold ddPut putV
 rw[has_bk]
 by_cases h:k∈b.map (·.1)
 ·rw[decide_eq_true h,if_pos rfl,if_pos h,ddSet_map]
  have:bk (b.map fun e=>if e.1=k then (e.1,v) else e)=bk b:=by
   unfold bk
   rw[List.map_map]
   refine List.map_congr_left fun e _=>?_
   simp only[Function.comp_apply]
   split <;> rfl
  rw[this]
 ·rw[decide_eq_false h,if_neg Bool.false_ne_true,if_neg h]
  simp[bk,bv]
structure BodyOk (lays mets:List Str) (v:List Str):Prop where
 ex:∃R,v=rowS R∧GoodR lays mets R∧nestS R []=some []∧Row.own∉R
structure TabOk (lays mets keys:List Str) (b:Bod):Prop where
 own:∀(la m:Str) (v:List Str),b.lookup (((la,("" : Str),m)):K3)=some v→la=""∧m∈mets∧v=ownB
 body:∀(k:K3) (v:List Str),k.2.1≠("" : Str)→b.lookup k=some v→(k.1=("" : Str)∨k.1∈lays)∧k.2.1∈keys∧k.2.2∈mets∧BodyOk lays mets v
theorem TabOk.nil {lays mets keys:List Str}:TabOk lays mets keys []:=⟨(fun _ _ _ h=>by cases h),(fun _ _ _ h=>by cases h)⟩
theorem TabOk.putOwn {lays mets keys:List Str} {b:Bod} (h:TabOk lays mets keys b) {m:Str} (hm:m∈mets):TabOk lays mets keys (putV b (ownK m) ownB):=by
 refine⟨fun la m' v e=>?_,fun k v hk e=>?_⟩
 ·rw[putV_lookup] at e
  split at e
  ·rename_i q
   cases e
   simp at q
   exact⟨q.1,by rw[q.2];exact hm,rfl⟩
  ·exact h.own la m' v e
 ·rw[putV_lookup,if_neg (fun q=>hk (by rw[q]))] at e
  exact h.body k v hk e
theorem BodyOk.good {lays mets v:List Str} (h:BodyOk lays mets v) (okl:Oks lays) (okm:Oks mets) (st:Store):mf_good_body [tupS v,lstS lays,lstS mets] st=.ok (.bl true) st:=by
 obtain⟨R,rfl,g,hn,ho⟩:=h.ex
 rw[rowS_D]
 exact good_body2 g ho hn okl okm st
structure SpOk2 (S:Sp):Prop where
 lays:(∀n∈S.lays,IsNm n)∧S.lays.Nodup∧S.lays.length≤4
 mets:(∀n∈S.mets,IsNm n)∧S.mets.Nodup∧1≤S.mets.length∧S.mets.length≤3
 cls:Cls3 S.cs
 ne:S.cs≠[]
 inner:S.inner.Sublist S.lays
 run:S.run="keep"∨S.run="live"
 sto:S.sto="maker"∨S.sto="caller"
 tab:TabOk S.lays S.mets (keysS S.cs) S.bod
 own:∀m∈S.mets,S.bod.lookup (ownK m)=some ownB
 blen:S.bod.length≤200
 six:S.lays.length * S.cs.length≤6∨∀la∈S.lays,∀c m,c≠("" : Str)→S.bod.lookup ((la,c,m):K3)=none
end My
namespace My
open PySem L2 M3
def kOwnDs (i:Nat) (u:Sl3) (k:SRes→Prop):Res (List (D×D))→Prop
 | .ok ps st=>if ps.length≤15 then (match dkAll ps [] [] with
  | some r=>k (.nx (u.set i (some (.bod r.1 r.2))) st)
  | none=>k .bad) else k .bad
 | _=>k .bad
@[simp] theorem kOwnDs_ok (i:Nat) (u:Sl3) (k:SRes→Prop) (ps:List (D×D)) (st:Store):kOwnDs i u k (.ok ps st)=if ps.length≤15 then (match dkAll ps [] [] with
  | some r=>k (.nx (u.set i (some (.bod r.1 r.2))) st)
  | none=>k .bad) else k .bad:=rfl
@[simp] theorem run_qNil {u:Sl3} {st:Store} {k:Res (List (D×D))→Prop}:M3.run (qNil u st) k=k (.ok [] st):=rfl
@[simp] theorem run_qCons {mk mv:EM} {q:QM} {u:Sl3} {st:Store} {k:Res (List (D×D))→Prop}:M3.run (qCons mk mv q u st) k=M3.run (mk u st) (kBind (fun k=>M.bind (M.of k.d) fun kd=>M.bind (mv u) fun v=>M.bind (M.of v.d) fun vd=>M.bind (q u) fun ps=>M.pure ((kd,vd) :: ps)) k):=run_bind _ _
def pw8 (k:Nat):Nat:=if k=0 then 1 else if k=1 then 2 else if k=2 then 4 else 8
theorem at_pw8 (k:Nat) (h:k<4):atI [D.int 1,D.int 2,D.int 4,D.int 8] (k:Int)=some (.int (pw8 k)):=by
 rcases k with _ | _ | _ | _ | k <;> first | rfl | omega
end My
namespace My
open PySem L2 M3
def GivenT (S:Sp) (b:Bod):Prop:=∀k v,b.lookup k=some v→(k.1=("" : Str)∨k.1∈S.lays)∧k.2.1∈keysS S.cs∧k.2.2∈S.mets∧BodyOk S.lays S.mets v
theorem lookup_of_mem {b:Bod} {e:K3×List Str} (h:e∈b):∃v,b.lookup e.1=some v:=Option.isSome_iff_exists.mp ((mem_lookup b e.1).mp (List.mem_map.mpr ⟨e,h,rfl⟩))
set_option maxHeartbeats 8000000 in
theorem good_bodies2 {S:Sp} (hS:SpOk2 S) (b:Bod) (hk:GivenT S b) (nms:List Str) (hn:nms=keysS S.cs) (st:Store) :
  mf_good_bodies [.dd (bk b) (bv b),.lst (nms.map .str),lstS S.lays,lstS S.mets] st=.ok (.bl true) st:=by
 apply of_run
 rw[mf_good_bodies,run_mfn]
 simp[mb_good_bodies]
 rw[run_iKeysDD (bk b) (bv b) (by rfl)]
 simp
 refine forL_run (fun i u st'=>st'=st∧∃x4,u=[some (W.val (D.dd (bk b) (bv b))),some (W.val (.lst (nms.map .str))),some (W.val (lstS S.lays)),some (W.val (lstS S.mets)),x4]) ⟨rfl,_,rfl⟩ ?_ ?_
 ·rintro i d u st' hd ⟨rfl,x4,rfl⟩
  obtain⟨e,he,rfl⟩:=get_map hd
  obtain⟨v,hv⟩:=lookup_of_mem (List.mem_of_getElem? he)
  obtain⟨k1,k2,k3,bo⟩:=hk _ _ hv
  obtain⟨⟨la,c,m⟩,v0⟩:=e
  dsimp only at k1 k2 k3 hv
  have okL:Oks S.lays:=fun w hw=>okN (hS.lays.1 w hw)
  have okM:Oks S.mets:=fun w hw=>okN (hS.mets.1 w hw)
  have oc:Ok c:=hS.cls.okk c k2
  have om:Ok m:=okM m k3
  have ol:Ok la:=by
   rcases k1 with q | q
   ·rw[q];exact ok_empty
   ·exact okL la q
  have a1:=inF_lst true oc (xs:=nms) (by rw[hn];exact hS.cls.okk)
  have k2':c∈nms:=by rw[hn];exact k2
  have a2:=inF_lst true om okM
  have a3:=inF_lst true ol okL
  have a4:=eqF_str true ol ok_empty
  have at_:ddAt (bk b) (bv b) (nk3 (la,c,m))=some (tupS v):=by rw[at_bk,hv];rfl
  refine⟨_,rfl,?_⟩
  simp[key3,eqF_int,a4,lstS]
  have gb:mf_good_body [tupS v,.lst (S.lays.map .str),.lst (S.mets.map .str)] st'=_:=bo.good okL okM st'
  by_cases q:la=""
  ·rw[if_pos q]
   simp[a1,a2,k2',k3,tk_3,at_,gb]
  ·rw[if_neg q]
   simp[a3,k1.resolve_left q,a1,a2,k2',k3,tk_3,at_,gb]
 ·rintro u st' ⟨rfl,x4,rfl⟩
  simp
def SameL (r b:Bod):Prop:=∀k,r.lookup k=b.lookup k
def CopyI (B b:Bod) (i:Nat):Prop:=∀k:K3,b.lookup k=if k.2.1≠("" : Str)∧k∈(B.map (·.1)).take i then B.lookup k else none
theorem CopyI.tk {B:Bod} {i:Nat} {e:K3×List Str} (he:B[i]?=some e) (k:K3):k∈(B.map (·.1)).take (i+1)↔k∈(B.map (·.1)).take i∨k=e.1:=by
 rw[List.take_add_one,List.getElem?_map,he]
 simp
theorem CopyI.put {B b:Bod} {i:Nat} {e:K3×List Str} {v:List Str} (h:CopyI B b i) (he:B[i]?=some e) (q:e.1.2.1≠("" : Str)) (hv:B.lookup e.1=some v):CopyI B (putV b e.1 v) (i+1):=fun k=>by
 rw[putV_lookup]
 by_cases z:k=e.1
 ·rw[if_pos z,if_pos ⟨by rw[z];exact q,(CopyI.tk he k).mpr (.inr z)⟩,z,hv]
 ·rw[if_neg z,h k]
  by_cases y:k.2.1≠("" : Str)∧k∈(B.map (·.1)).take i
  ·rw[if_pos y,if_pos ⟨y.1,(CopyI.tk he k).mpr (.inl y.2)⟩]
  ·rw[if_neg y,if_neg (fun w=>y ⟨w.1,((CopyI.tk he k).mp w.2).resolve_right z⟩)]
theorem dcL_copy {g:GM} {ek ev:EM} {u0:Sl3} {st:Store} (b:Bod):∀(c acc:Bod),(∀e∈c,∃u1 v,g (key3 e.1) u0=some u1∧b.lookup e.1=some v∧M3.run (ek u1 st) (fun r=>r=.ok (.val (key3 e.1)) st)∧M3.run (ev u1 st) (fun r=>r=.ok (.val (tupS v)) st))→acc.length+c.length<1000000→
  ∃r,dcL g tYes3 ek ev u0 (bk c) (bk acc) (bv acc) st=.ok (bk r,bv r) st∧(∀k,r.lookup k=if k∈c.map (·.1) then b.lookup k else acc.lookup k)∧r.length≤acc.length+c.length
 | [],acc,_,_=>⟨acc,rfl,by simp,by simp⟩
 | e :: c,acc,h,hl=>by
  obtain⟨u1,v,e1,hv,e2,e3⟩:=h e List.mem_cons_self
  have e2':ek u1 st=.ok (.val (key3 e.1)) st:=e2
  have e3':ev u1 st=.ok (.val (tupS v)) st:=e3
  have pl:=putV_len acc e.1 v
  simp only[List.length_cons] at hl
  obtain⟨r,q1,q2,q3⟩:=dcL_copy b c (putV acc e.1 v) (fun x hx=>h x (List.mem_cons_of_mem _ hx)) (by omega)
  refine⟨r,?_,fun k=>?_,by simp only[List.length_cons];omega⟩
  ·show dcL g tYes3 ek ev u0 (key3 e.1 :: bk c) (bk acc) (bv acc) st=_
   unfold dcL
   have lk:(bk acc).length<1000000:=by simp[bk];omega
   simp only[M.bind,M.of,M.quiet,M.pure,tYes3,e1,e2',e3',W.d,tk_key3,M.chk,lk,if_true,putV_dd]
   exact q1
  ·rw[q2,putV_lookup,List.map_cons]
   by_cases h1:k∈c.map (·.1)
   ·rw[if_pos h1,if_pos (List.mem_cons_of_mem _ h1)]
   ·rw[if_neg h1]
    by_cases h2:k=e.1
    ·rw[if_pos h2,if_pos (by rw[h2];exact List.mem_cons_self),h2,hv]
    ·rw[if_neg h2,if_neg (fun z=>(List.mem_cons.mp z).elim h2 h1)]
theorem dc_copy {g:GM} {ek ev:EM} {u0:Sl3} {st:Store} {k:Res (List D×List D)→Prop} (b:Bod) (h:∀e∈b,∃u1 v,g (key3 e.1) u0=some u1∧b.lookup e.1=some v∧M3.run (ek u1 st) (fun r=>r=.ok (.val (key3 e.1)) st)∧M3.run (ev u1 st) (fun r=>r=.ok (.val (tupS v)) st)) (hl:b.length<1000000)
  (hk:∀r:Bod,(∀k,r.lookup k=b.lookup k)→k (.ok (bk r,bv r) st)):M3.run (dcL g tYes3 ek ev u0 (bk b) [] [] st) k:=by
 obtain⟨r,q1,q2,q3⟩:=dcL_copy b b [] h (by simpa using hl)
 have q1':dcL g tYes3 ek ev u0 (bk b) [] [] st=.ok (bk r,bv r) st:=q1
 rw[q1']
 refine hk r fun k=>?_
 rw[q2]
 by_cases h1:k∈b.map (·.1)
 ·rw[if_pos h1]
 ·rw[if_neg h1,lookup_none h1];rfl
end My
namespace My
open PySem L2 M3 Builtin Builtin.Str StrLaws
instance (w:Str):Decidable (IsNm w):=inferInstanceAs (Decidable (_∧_))
theorem letters_iff {c:Nat}:c∈letters↔97≤c∧c≤122:=⟨fun h=>by
 unfold letters at h
 obtain⟨i,hi,rfl⟩:=List.mem_map.mp h
 have:=List.mem_range.mp hi
 omega,mem_letters⟩
theorem all_letters (w:Str):(w.cps.toList.map fun c=>decide (c∈letters)).all id=decide (∀c∈w.cps.toList,97≤c∧c≤122):=by
 rw[List.all_map]
 by_cases h:∀c∈w.cps.toList,97≤c∧c≤122
 ·rw[decide_eq_true h,List.all_eq_true]
  intro c hc
  exact decide_eq_true (letters_iff.mpr (h c hc))
 ·rw[decide_eq_false h,Bool.eq_false_iff]
  intro q
  rw[List.all_eq_true] at q
  exact h fun c hc=>letters_iff.mp (of_decide_eq_true (q c hc))
set_option maxHeartbeats 4000000 in
theorem is_word_gen {w:Str} (hl:w.length≤1000) (st:Store):mf_is_word [.str w] st=.ok (.bl (decide (IsNm w))) st:=by
 apply of_run
 rw[mf_is_word,run_mfn]
 simp only[mb_is_word,letters_eq]
 by_cases h1:1≤w.length
 ·by_cases h2:w.length≤8
  ·simp[show (1:Int)≤w.length by omega,show (w.length:Int)≤8 by omega,show ¬(8:Int)<w.length by omega,show w.length≤1000000 by omega]
   refine lcA_run (fun c=>.str ⟨#[c]⟩) (fun c=>.bl (decide (c∈letters))) (by rw[size_len];omega) (fun c hc=>⟨_,rfl,?_⟩) ?_
   ·simp
   ·have e:(w.cps.toList.map fun c=>D.bl (decide (c∈letters)))=(w.cps.toList.map fun c=>decide (c∈letters)).map .bl:=by rw[List.map_map];rfl
    rw[e]
    have q:=allF_bls (w.cps.toList.map fun c=>decide (c∈letters))
    rw[all_letters] at q
    simp[-List.map_map,q,IsNm,h1,h2]
  ·simp[show (1:Int)≤w.length by omega,show ¬((w.length:Int)≤8) by omega,IsNm,h2,show w.length≤1000000 by omega]
 ·simp[show ¬((1:Int)≤w.length) by omega,IsNm,h1,show w.length≤1000000 by omega]
def bareL:List Str:=["set 0","set 1","if","else","end","proceed","run","yield"]
def gRowW (lays mets:List Str):List Str→Bool
 | [a,b]=>if a∈(["say","ask"]:List Str) then decide (IsNm b) else if a∈(["on","off"]:List Str) then decide (b∈lays) else decide (a∈(["call","store"]:List Str)) && decide (b∈mets)
 | _=>false
def gRow (lays mets:List Str) (s:Str):Bool:=decide (s∈bareL) || gRowW lays mets (Txt.split s " ")
structure Tx (s:Str):Prop where
 ok:Ok s
 len:s.length≤100
 few:(Txt.split s " ").length≤100
 parts:∀a b,Txt.split s " " = [a,b]→Ok a∧Ok b∧a.length≤100∧b.length≤100
theorem okBare:Oks bareL:=by decide +kernel
set_option maxHeartbeats 8000000 in
theorem good_row_gen {lays mets:List Str} (okl:Oks lays) (okm:Oks mets) {s:Str} (h:Tx s) (st:Store):mf_good_row [.str s,lstS lays,lstS mets] st=.ok (.bl (gRow lays mets s)) st:=by
 apply of_run
 rw[mf_good_row,run_mfn]
 simp only[mb_good_row]
 have hb:inF false (.val (.str s)) (.val (.ctup [.str "set 0",.str "set 1",.str "if",.str "else",.str "end",.str "proceed",.str "run",.str "yield"]))=some (.val (.bl (decide (s∈bareL)))):=inF_ctup false h.ok okBare
 have hl:=h.len
 by_cases q:s∈bareL
 ·simp[hb,q,gRow]
 ·have n0:(" " : Str).length=1:=by decide +kernel
  simp[hb,q,gRow,n0,show s.length≤900000 by omega]
  generalize hw:Txt.split s " " = ws
  have hf:=h.few
  rw[hw] at hf
  have hp:=h.parts
  rw[hw] at hp
  match ws,hf,hp with
  | [a,b],_,hp=>
   obtain⟨oa,ob,la,lb⟩:=hp a b rfl
   have i1:=inF_tup false oa (xs:=["say","ask"]) (by decide +kernel)
   have i2:=inF_tup false oa (xs:=["on","off"]) (by decide +kernel)
   have i3:=inF_tup false oa (xs:=["call","store"]) (by decide +kernel)
   have i4:=inF_lst false ob okl
   have i5:=inF_lst false ob okm
   simp only[List.map_cons,List.map_nil] at i1 i2 i3
   by_cases c1:a∈(["say","ask"]:List Str)
   ·simp[eqF_int,i1,c1,gRowW,is_word_gen (show b.length≤1000 by omega)]
   ·by_cases c2:a∈(["on","off"]:List Str)
    ·simp[eqF_int,i1,c1,i2,c2,i4,gRowW,lstS]
    ·by_cases c3:a∈(["call","store"]:List Str)
     ·simp[eqF_int,i1,c1,i2,c2,i3,c3,i5,gRowW,lstS]
     ·simp[eqF_int,i1,c1,i2,c2,i3,c3,gRowW]
  | [],_,_=>simp[eqF_int,gRowW]
  | [a],_,_=>simp[eqF_int,gRowW]
  | a :: b :: c :: r,hf,_=>
   simp only[List.length_cons] at hf
   simp[eqF_int,gRowW,show r.length≤1000000 by omega]
   omega
theorem nest_last {b:Row} (h:b.ok):eqF true (.val (.str b.str)) (.val (.str "if"))=some (.val (.bl (!decide (b=.iff)))):=eqF_row true (r:=b) (c:=.iff) h trivial
set_option maxHeartbeats 16000000 in
theorem nested_gen {R:List Row} (ok:OkR R) (hl:R.length≤100) (st:Store):mf_well_nested [.tup (R.map rD)] st=.ok (.bl (decide (nestS R []=some []))) st:=by
 apply of_run
 rw[mf_well_nested,run_mfn]
 simp[mb_well_nested]
 refine forL_run (fun i u st'=>st'=st∧∃(B:List Row) (x2:Option W),nestS R []=nestS (R.drop i) B∧B.length≤3∧OkR B∧u=[some (W.val (D.tup (R.map rD))),some (W.bor (B.map rD).reverse),x2]) ⟨rfl,[],none,rfl,by simp,(fun r h=>by cases h),rfl⟩ ?_ ?_
 ·rintro i d u st' hd ⟨rfl,B,x2,hs,hB,okB,rfl⟩
  obtain⟨r,hr,rfl⟩:=get_map hd
  have hi:=(List.getElem?_eq_some_iff.mp hr).1
  have okr:=ok r (List.mem_of_getElem? hr)
  rw[List.drop_eq_getElem_cons hi,(List.getElem?_eq_some_iff.mp hr).2] at hs
  rw[hs]
  have hsw:=switches_spec okr
  have more:∀C,nextB r B=some C→nestS (r :: R.drop (i+1)) B=nestS (R.drop (i+1)) C:=fun C e=>by
   show (nextB r B).bind _=_
   rw[e];rfl
  have done:nextB r B=none→nestS (r :: R.drop (i+1)) B=none:=fun e=>by
   show (nextB r B).bind _=_
   rw[e];rfl
  have okC:OkR (r :: B):=fun x hx=>by
   rcases List.mem_cons.mp hx with z | z
   ·rw[z];exact okr
   ·exact okB x z
  refine⟨_,rfl,?_⟩
  by_cases ho:r.opens=true
  ·have q:=(opens_iff r).mp ho
   by_cases h3:B.length<3
   ·have m:=more (r :: B) (by unfold nextB;rw[if_pos ho,if_pos h3])
    have l1:¬((3:Int)<(B.length:Int)+1):=by omega
    have l2:B.length+1≤1000000:=by omega
    by_cases h0:r=.iff
    ·simp[rD,tst (row_if okr) h0,m,l1,l2]
     first | exact⟨r :: B,rfl,by simp;omega,okC,by simp[rD]⟩ | exact⟨by omega,r :: B,rfl,by simp;omega,okC,by simp[rD]⟩ | exact⟨by omega,by omega,r :: B,rfl,by simp;omega,okC,by simp[rD]⟩
    ·have h4:=q.resolve_left h0
     simp[rD,tsf (row_if okr) h0,hsw,h4,m,l1,l2]
     first | exact⟨r :: B,rfl,by simp;omega,okC,by simp[rD]⟩ | exact⟨by omega,r :: B,rfl,by simp;omega,okC,by simp[rD]⟩ | exact⟨by omega,by omega,r :: B,rfl,by simp;omega,okC,by simp[rD]⟩
   ·have m:=done (by unfold nextB;rw[if_pos ho,if_neg h3])
    have e3:B.length=3:=by omega
    by_cases h0:r=.iff
    ·simp[rD,tst (row_if okr) h0,m,e3]
    ·have h4:=q.resolve_left h0
     simp[rD,tsf (row_if okr) h0,hsw,h4,m,e3]
  ·obtain⟨n1,n2⟩:=not_opens ho
   by_cases hel:r=.els
   ·cases B with
    | nil=>
     have m:=done (by unfold nextB;rw[if_neg ho,if_pos hel])
     simp[rD,tsf (row_if okr) n1,hsw,n2,tst (row_else okr) hel,eqF_int,m]
    | cons b D'=>
     have okb:=okB b List.mem_cons_self
     have ri:=nest_last okb
     simp at hB
     have l1:¬((D'.length:Int)+1=0):=by omega
     have l2:D'.length+1≤1000000:=by omega
     by_cases hb:b=.iff
     ·have m:=more (.els :: D') (by unfold nextB;rw[if_neg ho,if_pos hel,hb])
      subst hb
      simp at ri
      simp[rD,tsf (row_if okr) n1,hsw,n2,tst (row_else okr) hel,eqF_int,m,l1,l2,ri]
      rw[run_setLast 1 (xs:=(D'.map rD).reverse) (x:=rD .iff) (by simp[rD])]
      simp
      refine⟨.els :: D',rfl,by simp;omega,fun x hx=>?_,by simp[rD];rfl⟩
      rcases List.mem_cons.mp hx with z | z
      ·rw[z];trivial
      ·exact okB x (List.mem_cons_of_mem _ z)
     ·have m:=done (by unfold nextB;rw[if_neg ho,if_pos hel];cases b <;> first | rfl | exact absurd rfl hb)
      simp[hb] at ri
      simp[rD,tsf (row_if okr) n1,hsw,n2,tst (row_else okr) hel,eqF_int,m,l1,l2,ri]
   ·by_cases hen:r=.en
    ·cases B with
     | nil=>
      have m:=done (by unfold nextB;rw[if_neg ho,if_neg hel,if_pos hen])
      simp[rD,tsf (row_if okr) n1,hsw,n2,tsf (row_else okr) hel,tst (row_end okr) hen,eqF_int,m]
     | cons b C'=>
      have m:=more C' (by unfold nextB;rw[if_neg ho,if_neg hel,if_pos hen])
      simp at hB
      have l1:¬((C'.length:Int)+1=0):=by omega
      have l2:C'.length+1≤1000000:=by omega
      simp[rD,tsf (row_if okr) n1,hsw,n2,tsf (row_else okr) hel,tst (row_end okr) hen,eqF_int,m,l1,l2]
      exact⟨C',rfl,by omega,(fun x hx=>okB x (List.mem_cons_of_mem _ hx)),rfl⟩
    ·have m:=more B (by unfold nextB;rw[if_neg ho,if_neg hel,if_neg hen])
     simp[rD,tsf (row_if okr) n1,hsw,n2,tsf (row_else okr) hel,tsf (row_end okr) hen,m]
     exact⟨B,rfl,hB,okB,rfl⟩
 ·rintro u st' ⟨rfl,B,x2,hs,hB,okB,rfl⟩
  rw[List.length_map,List.drop_length] at hs
  rw[hs]
  cases B with
  | nil=>simp[eqF_int,nestS]
  | cons b C=>simp at hB;simp[eqF_int,nestS,show C.length≤1000000 by omega];omega
noncomputable def gNest (ss:List Str):Bool:=@decide (∃R,OkR R∧ss=R.map Row.str∧nestS R []=some []) (Classical.propDecidable _)
noncomputable def gBody (lays mets:List Str) (ss:List Str):Bool:=decide (ss.length≤10) && (decide (ss.count ("proceed" : Str)≤2) && (ss.all (gRow lays mets) && gNest ss))
inductive RT (s:Str):Prop where
 | row (r:Row) (h:r.ok) (ho:r≠.own) (e:s=r.str)
 | bad (h:∀lays mets:List Str,(∀n∈lays,IsNm n)→(∀n∈mets,IsNm n)→gRow lays mets s=false)
theorem map_str_inj:∀{R R':List Row},OkR R→OkR R'→R.map Row.str=R'.map Row.str→R=R'
 | [],[],_,_,_=>rfl
 | [],_ :: _,_,_,h=>by cases h
 | _ :: _,[],_,_,h=>by cases h
 | r :: R,r' :: R',h,h',e=>by
  rw[List.map_cons,List.map_cons,List.cons.injEq] at e
  rw[(str_inj (h r List.mem_cons_self) (h' r' List.mem_cons_self)).mp e.1,map_str_inj (fun x hx=>h x (List.mem_cons_of_mem _ hx)) (fun x hx=>h' x (List.mem_cons_of_mem _ hx)) e.2]
theorem gNest_rows {R:List Row} (h:OkR R):gNest (R.map Row.str)=decide (nestS R []=some []):=by
 unfold gNest
 by_cases q:nestS R []=some []
 ·rw[decide_eq_true q]
  exact @decide_eq_true _ (Classical.propDecidable _) ⟨R,h,rfl,q⟩
 ·rw[decide_eq_false q]
  refine @decide_eq_false _ (Classical.propDecidable _) fun ⟨R',h',e,q'⟩=>q ?_
  rw[map_str_inj h h' e]
  exact q'
theorem rows_of {lays mets:List Str} (nl:∀n∈lays,IsNm n) (nm:∀n∈mets,IsNm n):∀{ss:List Str},(∀s∈ss,RT s)→ss.all (gRow lays mets)=true→∃R,OkR R∧Row.own∉R∧ss=R.map Row.str
 | [],_,_=>⟨[],(fun r h=>by cases h),by simp,rfl⟩
 | s :: ss,h,g=>by
  simp only[List.all_cons,Bool.and_eq_true] at g
  obtain⟨R,h1,h2,h3⟩:=rows_of nl nm (fun x hx=>h x (List.mem_cons_of_mem _ hx)) g.2
  cases h s List.mem_cons_self with
  | row r hr ho e=>
   refine⟨r :: R,fun x hx=>?_,fun q=>?_,by rw[List.map_cons,←h3,←e]⟩
   ·rcases List.mem_cons.mp hx with z | z
    ·rw[z];exact hr
    ·exact h1 x z
   ·rcases List.mem_cons.mp q with z | z
    ·exact ho z.symm
    ·exact h2 z
  | bad b=>
   rw[b lays mets nl nm] at g
   exact absurd g.1 (by decide)
set_option maxHeartbeats 8000000 in
theorem good_body_gen {lays mets:List Str} (nl:∀n∈lays,IsNm n) (nm:∀n∈mets,IsNm n) {ss:List Str} (h:∀s∈ss,RT s∧Tx s) (hl:ss.length≤100) (st:Store):mf_good_body [tupS ss,lstS lays,lstS mets] st=.ok (.bl (gBody lays mets ss)) st:=by
 have okl:Oks lays:=fun w hw=>okN (nl w hw)
 have okm:Oks mets:=fun w hw=>okN (nm w hw)
 apply of_run
 have oks:Oks ss:=fun w hw=>(h w hw).2.ok
 have pc:=cntF_str (a:=("proceed" : Str)) (xs:=ss) (by decide +kernel) oks
 rw[mf_good_body,run_mfn]
 have cl:=List.count_le_length (a:=("proceed" : Str)) (l:=ss)
 simp[mb_good_body,pc,tupS]
 by_cases h1:ss.length≤10
 ·by_cases h2:ss.count ("proceed" : Str)≤2
  ·simp[show ¬(10:Int)<ss.length by omega,show ¬(2:Int)<(ss.count ("proceed" : Str):Nat) by omega,show ss.length≤1000000 by omega]
   refine lcA_run (xs:=ss) D.str (fun s=>.bl (gRow lays mets s)) (by omega) (fun s hs=>⟨_,rfl,?_⟩) ?_
   ·simp[good_row_gen okl okm (h s hs).2]
   ·have q:=allF_bls (ss.map (gRow lays mets))
    rw[List.map_map] at q
    by_cases ga:ss.all (gRow lays mets)=true
    ·obtain⟨R,r1,r2,r3⟩:=rows_of nl nm (fun s hs=>(h s hs).1) ga
     have e2:((ss.map (gRow lays mets)).all id)=true:=by rw[List.all_map];exact ga
     rw[e2] at q
     have e3:ss.map D.str=R.map rD:=by rw[r3,List.map_map];rfl
     simp only[Function.comp_def] at q
     simp[q,e3,nested_gen r1 (by rw[r3,List.length_map] at hl;exact hl),gBody,h1,h2,ga]
     rw[r3,gNest_rows r1]
    ·have e2:((ss.map (gRow lays mets)).all id)=false:=by rw[List.all_map];exact Bool.eq_false_iff.mpr ga
     rw[e2] at q
     simp only[Function.comp_def] at q
     simp[q,gBody,Bool.eq_false_iff.mpr ga]
  ·simp[show ¬(10:Int)<ss.length by omega,show (2:Int)<(ss.count ("proceed" : Str):Nat) by omega,show ss.length≤1000000 by omega,gBody,h2]
   first | done | (intro q;omega)
 ·simp[show (10:Int)<ss.length by omega,show ss.length≤1000000 by omega,gBody,h1]
def gKey (lays mets nms:List Str) (k:K3):Bool:=(decide (k.1="") || decide (k.1∈lays)) && (decide (k.2.1∈nms) && decide (k.2.2∈mets))
noncomputable def gBods (lays mets nms:List Str) (b:Bod):Bool:=b.all fun e=>gKey lays mets nms e.1 && gBody lays mets ((b.lookup e.1).getD [])
def GivenG (b:Bod):Prop:=∀k v,b.lookup k=some v→Ok k.1∧Ok k.2.1∧Ok k.2.2∧(∀s∈v,RT s∧Tx s)∧v.length≤100
set_option maxHeartbeats 8000000 in
theorem good_bodies_gen {lays mets nms:List Str} (nl:∀n∈lays,IsNm n) (nm:∀n∈mets,IsNm n) (okn:Oks nms) (b:Bod) (hb:GivenG b) (st:Store) :
  mf_good_bodies [.dd (bk b) (bv b),.lst (nms.map .str),lstS lays,lstS mets] st=.ok (.bl (gBods lays mets nms b)) st:=by
 have okL:Oks lays:=fun w hw=>okN (nl w hw)
 have okM:Oks mets:=fun w hw=>okN (nm w hw)
 apply of_run
 rw[mf_good_bodies,run_mfn]
 simp[mb_good_bodies]
 rw[run_iKeysDD (bk b) (bv b) (by rfl)]
 simp
 have all:∀(i:Nat) (e:K3×List Str),b[i]?=some e→(gKey lays mets nms e.1 && gBody lays mets ((b.lookup e.1).getD []))=false→gBods lays mets nms b=false:=fun i e he q=>by
  rw[Bool.eq_false_iff]
  intro z
  unfold gBods at z
  rw[List.all_eq_true] at z
  rw[z e (List.mem_of_getElem? he)] at q
  cases q
 refine forL_run (fun i u st'=>st'=st∧(∀(j:Nat) (e:K3×List Str),j<i→b[j]?=some e→(gKey lays mets nms e.1 && gBody lays mets ((b.lookup e.1).getD []))=true)∧∃x4,u=[some (W.val (D.dd (bk b) (bv b))),some (W.val (.lst (nms.map .str))),some (W.val (lstS lays)),some (W.val (lstS mets)),x4])
  ⟨rfl,fun j e h=>absurd h (by omega),_,rfl⟩ ?_ ?_
 ·rintro i d u st' hd ⟨rfl,hi,x4,rfl⟩
  obtain⟨e,he,rfl⟩:=get_map hd
  have this:=all i e he
  have next:(gKey lays mets nms e.1 && gBody lays mets ((b.lookup e.1).getD []))=true→∀(j:Nat) (e:K3×List Str),j<i+1→b[j]?=some e→(gKey lays mets nms e.1 && gBody lays mets ((b.lookup e.1).getD []))=true:=fun q j e' hj e2=>by
   rcases Nat.lt_or_ge j i with z | z
   ·exact hi j e' z e2
   ·have:j=i:=by omega
    subst this
    rw[he] at e2
    cases e2
    exact q
  obtain⟨v,hv⟩:=lookup_of_mem (List.mem_of_getElem? he)
  obtain⟨ol,oc,om,rt,lv⟩:=hb _ _ hv
  rw[hv] at this next
  obtain⟨⟨la,c,m⟩,v0⟩:=e
  dsimp only at ol oc om hv
  have a1:=inF_lst true oc (xs:=nms) okn
  have a2:=inF_lst true om okM
  have a3:=inF_lst true ol okL
  have a4:=eqF_str true ol ok_empty
  have at_:ddAt (bk b) (bv b) (nk3 (la,c,m))=some (tupS v):=by rw[at_bk,hv];rfl
  have gb:mf_good_body [tupS v,.lst (lays.map .str),.lst (mets.map .str)] st'=_:=good_body_gen nl nm rt lv st'
  refine⟨_,rfl,?_⟩
  simp only[Option.getD_some] at this next
  by_cases k1:la=""∨la∈lays
  ·by_cases k2:c∈nms
   ·by_cases k3:m∈mets
    ·have gk:gKey lays mets nms (la,c,m)=true:=by simp[gKey,k1,k2,k3]
     cases gbv:gBody lays mets v with
     | true=>
      rw[gbv] at gb this next
      have nx:=next (by rw[gk];rfl)
      simp[key3,eqF_int,a4,lstS]
      by_cases q:la=""
      ·rw[if_pos q]
       simp[a1,a2,k2,k3,tk_3,at_,gb]
       exact fun j x1 x2 x3 x4 h1 h2=>by simpa using nx j ((x1,x2,x3),x4) h1 h2
      ·rw[if_neg q]
       simp[a3,k1.resolve_left q,a1,a2,k2,k3,tk_3,at_,gb]
       exact fun j x1 x2 x3 x4 h1 h2=>by simpa using nx j ((x1,x2,x3),x4) h1 h2
     | false=>
      rw[gbv] at gb this
      have no:=this (by rw[gk];rfl)
      simp[key3,eqF_int,a4,lstS]
      by_cases q:la=""
      ·rw[if_pos q]
       simp[a1,a2,k2,k3,tk_3,at_,gb,no]
      ·rw[if_neg q]
       simp[a3,k1.resolve_left q,a1,a2,k2,k3,tk_3,at_,gb,no]
    ·have no:=this (by simp[gKey,k3])
     simp[key3,eqF_int,a4,lstS]
     by_cases q:la=""
     ·rw[if_pos q]
      simp[a1,a2,k2,k3,no]
     ·rw[if_neg q]
      simp[a3,k1.resolve_left q,a1,a2,k2,k3,no]
   ·have no:=this (by simp[gKey,k2])
    simp[key3,eqF_int,a4,lstS]
    by_cases q:la=""
    ·rw[if_pos q]
     simp[a1,k2,no]
    ·rw[if_neg q]
     simp[a3,k1.resolve_left q,a1,k2,no]
  ·rw[not_or] at k1
   have no:=this (by simp[gKey,k1.1,k1.2])
   simp[key3,eqF_int,a4,lstS,k1.1,a3,k1.2,no]
 ·rintro u st' ⟨rfl,hi,x4,rfl⟩
  have:gBods lays mets nms b=true:=by
   unfold gBods
   rw[List.all_eq_true]
   intro e he
   obtain⟨j,hj⟩:=List.getElem?_of_mem he
   exact hi j e (by simp[bk];exact(List.getElem?_eq_some_iff.mp hj).1) hj
  simp[this]
end My
namespace My
open PySem L2 M3
def mb_Book_initX:SM:=(sSeq (sIf (tNot3 (tTru (eCall 1 mf_good_classes (aCons (eVar 1) aNil)))) (sRaiseX "BadBook" (aCons (eC (.str "classes")) aNil)) sNext)
 (sSeq (sTry0 (sFldS ["Book"] "orders" (eVar 0) (eCall 1 mf_class_orders (aCons (eVar 1) aNil))))
 (sSeq (sSet 9 (eCall 5 mf_bad_part (aCons (eVar 2) (aCons (eVar 3) (aCons (eVar 5) (aCons (eVar 6) (aCons (eVar 7) aNil)))))))
 (sSeq (sIf (tOf (eBin (isNF true) (eVar 9) (eC .non))) (sRaiseX "BadBook" (aCons (eVar 9) aNil)) sNext)
 (sSeq (sIf (tNot3 (tTru (eCall 4 mf_good_bodies (aCons (eVar 4) (aCons (eF (fLc (iSeq (eVar 1)) (gName3 12) tYes3 (eBin ixF (eVar 12) (eC (.int 0))) [12])) (aCons (eVar 3) (aCons (eVar 2) aNil))))))) (sRaiseX "BadBook" (aCons (eC (.str "bodies")) aNil)) sNext)
 (sSeq (sFldS ["Book"] "class_pairs" (eVar 0) (eB tupCF (aCons (eVar 1) aNil)))
 (sSeq (sFldS ["Book"] "method_names" (eVar 0) (eB tupCF (aCons (eVar 2) aNil)))
 (sSeq (sFldS ["Book"] "layer_names" (eVar 0) (eB tupCF (aCons (eVar 3) aNil)))
 (sSeq (sFldS ["Book"] "inner_names" (eVar 0) (eB tupCF (aCons (eF (fLc (iSeq (eVar 3)) (gName3 11) (tOf (eBin (inF false) (eVar 11) (eVar 5))) (eVar 11) [11])) aNil)))
 (sSeq (sFldS ["Book"] "rules" (eVar 0) (eTup (aCons (eVar 6) (aCons (eVar 7) aNil))))
 (sSeq (sFldS ["Book"] "known" (eVar 0) eNewDD)
 (sFldS ["Book"] "texts" (eVar 0) (eDc (iKeysDD (eVar 4)) (gName3 10) tYes3 (eVar 10) (eB tupCF (aCons (eGetDD (eVar 4) (eVar 10)) aNil)) [10])))))))))))))
def mf_Book_initX:List D→M D:=mfn 13 mb_Book_initX
end My
namespace My
open PySem L2 M3
structure PtOk (cs:Ctab) (lays mets:List Str):Prop where
 lays:(∀n∈lays,IsNm n)∧lays.Nodup∧lays.length≤4
 mets:(∀n∈mets,IsNm n)∧mets.Nodup∧1≤mets.length∧mets.length≤3
 cls:Cls3 cs
 ne:cs≠[]
theorem chosen_ctup (names:D) (st:Store):mf_are_chosen [.ctup [],names] st=.ok (.bl true) st:=by
 apply of_run
 rw[mf_are_chosen,run_mfn]
 simp[mb_are_chosen]
def bookX (cs os:Ctab) (mets lays inn:List Str) (ru so:Str) (b:Bod) (k:Nat):List (Str×D):=[("orders",ordD os),("class_pairs",.tup (cs.map pairD)),("method_names",tupS mets),("layer_names",tupS lays),("inner_names",tupS inn),
 ("rules",.tup [.str ru,.str so]),("known",.ref k),("texts",.dd (bk b) (bv b))]
inductive InnD (lays:List Str):D→List Str→Prop where
 | none:InnD lays (.ctup []) []
 | some (i:List Str) (h:i.Nodup∧∀b∈i,b∈lays):InnD lays (tupS i) (lays.filter fun n=>decide (n∈i))
theorem chosen_inn {lays:List Str} (h1:∀n∈lays,IsNm n) (h2:lays.Nodup) (h3:lays.length≤4) {d:D} {i:List Str} (h:InnD lays d i) (st:Store):mf_are_chosen [d,.lst (lays.map .str)] st=.ok (.bl true) st:=by
 have okL:Oks lays:=fun w hw=>okN (h1 w hw)
 cases h with
 | none=>exact chosen_ctup _ st
 | some i hj=>
  have g3:=are_chosen_spec i lays (fun w hw=>okL w (hj.2 w hw)) okL (by have:=nodup_len hj.1 hj.2;omega) st
  rw[chosen_true hj.1 hj.2] at g3
  exact g3
def ruOk (ru so:Str):Prop:=(ru="keep"∨ru="live")∧(so="maker"∨so="caller")
theorem bad_part_gen {cs:Ctab} {lays mets:List Str} (h:PtOk cs lays mets) {d:D} {i:List Str} (hi:InnD lays d i) {ru so:Str} (hr:ruOk ru so) (st:Store):mf_bad_part [lstS mets,lstS lays,d,.str ru,.str so] st=.ok .non st:=by
 apply of_run
 obtain⟨m1,m2,m3,m4⟩:=h.mets
 obtain⟨l1,l2,l3⟩:=h.lays
 have g1:=good_names_spec mets 1 3 m1 m2 (by omega) (by omega) (by omega) st
 have g2:=good_names_spec lays 0 4 l1 l2 (by omega) (by omega) (by omega) st
 have g3:=chosen_inn l1 l2 l3 hi st
 have o1:Oks ["keep","live"]:=by decide +kernel
 have o2:Oks ["maker","caller"]:=by decide +kernel
 have r1:ru∈(["keep","live"]:List Str):=by rcases hr.1 with q | q <;> simp[q]
 have r2:so∈(["maker","caller"]:List Str):=by rcases hr.2 with q | q <;> simp[q]
 have i1:inF true (.val (.str ru)) (.val (.tup [.str "keep",.str "live"]))=some (.val (.bl false)):=(inF_tup true (o1 _ r1) o1).trans (by rw[decide_eq_true r1];rfl)
 have i2:inF true (.val (.str so)) (.val (.tup [.str "maker",.str "caller"]))=some (.val (.bl false)):=(inF_tup true (o2 _ r2) o2).trans (by rw[decide_eq_true r2];rfl)
 rw[mf_bad_part,run_mfn]
 simp[mb_bad_part,lstS,g1,g2,g3,i1,i2]
set_option maxHeartbeats 8000000 in
theorem initX_good {cs os:Ctab} {lays mets:List Str} (h:PtOk cs lays mets) (ho:cs.foldlM ordStep []=some os) {d:D} {i:List Str} (hi:InnD lays d i) {ru so:Str} (hr:ruOk ru so) (b:Bod) (hb:GivenG b) (hl:b.length≤900) (hg:gBods lays mets (keysS cs) b=true) (st:Store) :
  ∃r:Bod,mf_Book_initX [.ref st.length,.lst (cs.map pairD),lstS mets,lstS lays,.dd (bk b) (bv b),d,.str ru,.str so] (st++[.ins "Book" []])=.ok .non (st++[.ins "Book" (bookX cs os mets lays i ru so r (st.length+1)),.ddi [] []])∧SameL r b:=by
 suffices g:M3.run (mf_Book_initX [.ref st.length,.lst (cs.map pairD),lstS mets,lstS lays,.dd (bk b) (bv b),d,.str ru,.str so] (st++[.ins "Book" []])) (fun x=>∃r:Bod,x=.ok .non (st++[.ins "Book" (bookX cs os mets lays i ru so r (st.length+1)),.ddi [] []])∧SameL r b) by
  obtain⟨r,e,g⟩:=g
  exact⟨r,e,g⟩
 have lc:=h.cls.len
 obtain⟨m1,m2,m3,m4⟩:=h.mets
 obtain⟨l1,l2,l3⟩:=h.lays
 have okL:Oks lays:=fun w hw=>okN (l1 w hw)
 have okn:Oks (keysS cs):=h.cls.okk
 rw[mf_Book_initX,run_mfn]
 simp[mb_Book_initX,good_classes_spec h.cls h.ne,class_orders_spec h.cls ho,bad_part_gen h hi hr]
 refine lcA_run (xs:=cs) pairD (fun c=>D.str c.1) (by omega) (fun n hn'=>⟨_,rfl,?_⟩) ?_
 ·simp[pairD]
 rw[keysS_map]
 obtain⟨nms,hnms⟩:∃nms,nms=keysS cs:=⟨_,rfl⟩
 rw[←hnms] at okn hg⊢
 have gbs:∀st,mf_good_bodies [.dd (bk b) (bv b),.lst (nms.map .str),.lst (lays.map .str),.lst (mets.map .str)] st=.ok (.bl true) st:=fun st=>by
  rw[←hg]
  exact good_bodies_gen l1 m1 okn b hb st
 simp[lstS,gbs,pf0,pf1,pf2,pf3,pf4,pf5,pf6,show cs.length≤1000000 by omega,show mets.length≤1000000 by omega,show lays.length≤1000000 by omega]
 cases hi with
 | none=>
  refine lcM_run (xs:=lays) D.str (fun n=>false) D.str (by omega) (fun n hn'=>⟨_,rfl,?_,fun _=>?_⟩) ?_
  ·simp[show inF false (.val (.str n)) (.val (.ctup []))=_ from inF_ctup false (okL n hn') (xs:=[]) (fun w hw=>by cases hw)]
  ·simp
  simp[gbs,pf0,pf1,pf2,pf3,pf4,pf5,pf6]
  rw[run_iKeysDD (bk b) (bv b) (by rfl)]
  simp
  refine dc_copy b (fun e he=>?_) (by omega) fun r hr=>?_
  ·obtain⟨v,hv⟩:=lookup_of_mem he
   have bo:=(hb _ _ hv).2.2.2.2
   have at_:ddAt (bk b) (bv b) (nk3 e.1)=some (tupS v):=by rw[at_bk,hv];rfl
   refine⟨_,v,rfl,hv,?_,?_⟩
   ·simp
   ·simp[tk_key3,at_,tupS,show v.length≤1000000 by omega]
  ·simp[pf7]
   exact⟨r,by simp[bookX,tupS],hr⟩
 | some j hj=>
  have okI:Oks j:=fun w hw=>okL w (hj.2 w hw)
  refine lcM_run (xs:=lays) D.str (fun n=>decide (n∈j)) D.str (by omega) (fun n hn'=>⟨_,rfl,?_,fun _=>?_⟩) ?_
  ·simp[tupS,inF_tup false (okL n hn') okI]
  ·simp
  have lf:=List.length_filter_le (fun n=>decide (n∈j)) lays
  simp[gbs,pf0,pf1,pf2,pf3,pf4,pf5,pf6,show (lays.filter fun n=>decide (n∈j)).length≤1000000 by omega]
  rw[run_iKeysDD (bk b) (bv b) (by rfl)]
  simp
  refine dc_copy b (fun e he=>?_) (by omega) fun r hr=>?_
  ·obtain⟨v,hv⟩:=lookup_of_mem he
   have bo:=(hb _ _ hv).2.2.2.2
   have at_:ddAt (bk b) (bv b) (nk3 e.1)=some (tupS v):=by rw[at_bk,hv];rfl
   refine⟨_,v,rfl,hv,?_,?_⟩
   ·simp
   ·simp[tk_key3,at_,tupS,show v.length≤1000000 by omega]
  ·simp[pf7]
   exact⟨r,by simp[bookX,tupS],hr⟩
end My
namespace My
open PySem L2 M3
def mb_Book_bodies:SM:=(sRetV (eDc (iKeysDD (eFld ["Book"] "texts" (eVar 0))) (gName3 1) tYes3 (eVar 1) (eGetDD (eFld ["Book"] "texts" (eVar 0)) (eVar 1)) [1]))
def mf_Book_bodies:List D→M D:=mfn 2 mb_Book_bodies
def mb_Book_shown:SM:=(sRetV (eB tupCF (aCons (eF (fLc (iSeq (eFld ["Book"] "layer_names" (eVar 0))) (gName3 1) (tOf (eBin (inF true) (eVar 1) (eFld ["Book"] "inner_names" (eVar 0)))) (eVar 1) [1])) aNil)))
def mf_Book_shown:List D→M D:=mfn 2 mb_Book_shown
def mb_Book_inner:SM:=(sRetV (eFld ["Book"] "inner_names" (eVar 0)))
def mf_Book_inner:List D→M D:=mfn 1 mb_Book_inner
def mb_Book_layers:SM:=(sRetV (eFld ["Book"] "layer_names" (eVar 0)))
def mf_Book_layers:List D→M D:=mfn 1 mb_Book_layers
def mb_Book_methods:SM:=(sRetV (eFld ["Book"] "method_names" (eVar 0)))
def mf_Book_methods:List D→M D:=mfn 1 mb_Book_methods
def mb_Book_classes:SM:=(sRetV (eFld ["Book"] "class_pairs" (eVar 0)))
def mf_Book_classes:List D→M D:=mfn 1 mb_Book_classes
end My
namespace My
open PySem L2 M3
def arr_Book_4_inner_running_stored_s:List D→List D→List D:=fun us zs=>us++zs
def mb_Book_initX_s:SM:=(sSeq (sIf (tNot3 (tTru (eCall 1 mf_good_classes (aCons (eVar 1) aNil)))) (sRaiseX "BadBook" (aCons (eC (.str "classes")) aNil)) sNext)
 (sSeq (sTry0 (sFldS ["Book"] "orders" (eVar 0) (eCall 1 mf_class_orders (aCons (eVar 1) aNil))))
 (sSeq (sSet 9 (eCall 5 mf_bad_part (aCons (eVar 2) (aCons (eVar 3) (aCons (eVar 5) (aCons (eVar 6) (aCons (eVar 7) aNil)))))))
 (sSeq (sIf (tOf (eBin (isNF true) (eVar 9) (eC .non))) (sRaiseX "BadBook" (aCons (eVar 9) aNil)) sNext)
 (sSeq (sIf (tNot3 (tTru (eLendD 4 (eCall 4 mf_good_bodies (aCons (eVar 4) (aCons (eF (fLc (iSeq (eVar 1)) (gName3 12) tYes3 (eBin ixF (eVar 12) (eC (.int 0))) [12])) (aCons (eVar 3) (aCons (eVar 2) aNil)))))))) (sRaiseX "BadBook" (aCons (eC (.str "bodies")) aNil)) sNext)
 (sSeq (sFldS ["Book"] "class_pairs" (eVar 0) (eB tupCF (aCons (eVar 1) aNil)))
 (sSeq (sFldS ["Book"] "method_names" (eVar 0) (eB tupCF (aCons (eVar 2) aNil)))
 (sSeq (sFldS ["Book"] "layer_names" (eVar 0) (eB tupCF (aCons (eVar 3) aNil)))
 (sSeq (sFldS ["Book"] "inner_names" (eVar 0) (eB tupCF (aCons (eF (fLc (iSeq (eVar 3)) (gName3 11) (tOf (eBin (inF false) (eVar 11) (eVar 5))) (eVar 11) [11])) aNil)))
 (sSeq (sFldS ["Book"] "rules" (eVar 0) (eTup (aCons (eVar 6) (aCons (eVar 7) aNil))))
 (sSeq (sFldS ["Book"] "known" (eVar 0) eNewDD)
 (sFldS ["Book"] "texts" (eVar 0) (lockR (selOf (eVar 4)) (eDc (iKeysS (eVar 4)) (gName3 10) tYes3 (eVar 10) (eB tupCF (aCons (eGetDD (eVar 4) (eVar 10)) aNil)) [10]))))))))))))))
def mf_Book_initX_s:List D→M D:=mfn 13 mb_Book_initX_s
def mb_w_parts:SM:=(sSeq (sSet 1 (eF (fLst (aCons (eProp "Book" mf_Book_inner (eVar 0)) (aCons (eProp "Book" mf_Book_shown (eVar 0)) (aCons (eProp "Book" mf_Book_running (eVar 0)) (aCons (eProp "Book" mf_Book_stored (eVar 0)) (aCons (eProp "Book" mf_Book_bodies (eVar 0)) aNil))))))))
 (sRetV (eBin addF (eF (fLst (aCons (eProp "Book" mf_Book_classes (eVar 0)) (aCons (eProp "Book" mf_Book_methods (eVar 0)) (aCons (eProp "Book" mf_Book_layers (eVar 0)) aNil))))) (eVar 1))))
def mf_w_parts:List D→M D:=mfn 2 mb_w_parts
def mb_Book_bodies_s:SM:=(sRetV (eNewDc (iKeysDD (eFld ["Book"] "texts" (eVar 0))) (gName3 1) tYes3 (eVar 1) (eGetDD (eFld ["Book"] "texts" (eVar 0)) (eVar 1)) [1]))
def mf_Book_bodies_s:List D→M D:=mfn 2 mb_Book_bodies_s
def mb_law:SM:=(sSeq (sSet 1 (eCall 3 mf_w_digits (aCons (eCall 2 mf_w_cell_at (aCons (eVar 0) (aCons (eC (.int 0)) aNil))) (aCons (eC (.int 3)) (aCons (eC (.int 16)) aNil)))))
 (sSeq (sSet 2 (eSlA (eCall 2 mf_w_spelled (aCons (eBin ixF (eVar 1) (eC (.int 0))) (aCons (eC (.int 4)) aNil))) pNone (pSome (eBin modF (eB intCF (aCons (eBin ixF (eVar 1) (eC (.int 1))) aNil)) (eC (.int 5))))))
 (sSeq (sSet 3 (eSlA (eCall 2 mf_w_spelled (aCons (eBin ixF (eVar 1) (eC (.int 2))) (aCons (eC (.int 3)) aNil))) pNone (pSome (eBin addF (eC (.int 1)) (eBin modF (eB intCF (aCons (eBin ixF (eVar 1) (eC (.int 3))) aNil)) (eC (.int 3)))))))
 (sSeq (sSet 4 (eCall 2 mf_w_class_list (aCons (eSlA (eVar 1) (pSome (eC (.int 4))) (pSome (eC (.int 7)))) (aCons (eSlA (eCall 2 mf_w_spelled (aCons (eBin ixF (eVar 1) (eC (.int 7))) (aCons (eC (.int 3)) aNil))) pNone (pSome (eBin addF (eC (.int 1)) (eBin modF (eB intCF (aCons (eBin ixF (eVar 1) (eC (.int 8))) aNil)) (eC (.int 3)))))) aNil))))
 (sSeq (sSet 5 (eF (fLc (iRange1 (aCons (eB lenF (aCons (eVar 2) aNil)) aNil)) (gName3 17) (tOf (eBin (eqsF false) (eBin modF (eB intCF (aCons (eBin divF (eBin ixF (eVar 1) (eC (.int 9))) (eBin ixF (eF (fLst (aCons (eC (.int 1)) (aCons (eC (.int 2)) (aCons (eC (.int 4)) (aCons (eC (.int 8)) aNil)))))) (eVar 17))) aNil)) (eC (.int 2))) (eC (.int 1)))) (eBin ixF (eVar 2) (eVar 17)) [17])))
 (sSeq (sSet 6 (eF (fLst (aCons (eBin ixF (eF (fLst (aCons (eC (.str "keep")) (aCons (eC (.str "live")) aNil)))) (eBin modF (eB intCF (aCons (eBin ixF (eVar 1) (eC (.int 10))) aNil)) (eC (.int 2)))) (aCons (eBin ixF (eF (fLst (aCons (eC (.str "maker")) (aCons (eC (.str "caller")) aNil)))) (eBin modF (eB intCF (aCons (eBin ixF (eVar 1) (eC (.int 11))) aNil)) (eC (.int 2)))) aNil)))))
 (sSeq (sOwnDsD 7 (qCons (eTup (aCons (eC (.str "")) (aCons (eBin ixF (eBin ixF (eVar 4) (eC (.int 0))) (eC (.int 0))) (aCons (eBin ixF (eVar 3) (eC (.int 0))) aNil)))) (eTup (aCons (eBin addF (eC (.str "say ")) (eBin ixF (eVar 3) (eC (.int 0)))) aNil)) qNil))
 (sSeq (sFor (iSeq (eVar 2)) (gName3 8) (sSetDD 7 (eTup (aCons (eVar 8) (aCons (eBin ixF (eBin ixF (eVar 4) (eNeg (eC (.int 1)))) (eC (.int 0))) (aCons (eBin ixF (eVar 3) (eNeg (eC (.int 1)))) aNil)))) (eSlA (eTup (aCons (eBin addF (eC (.str "on ")) (eVar 8)) (aCons (eC (.str "proceed")) (aCons (eC (.str "end")) aNil)))) pNone (pSome (eBin mulF (eC (.int 3)) (eBin modF (eB intCF (aCons (eBin ixF (eVar 1) (eC (.int 12))) aNil)) (eC (.int 2))))))))
 (sSeq (sOwnDD 9)
 (sSeq (sSeq (sShareDD 7) (sLockS (selOf (eVar 7)) (sFor (iKeysS (eVar 7)) (gName3 10) (sSetDD 9 (eVar 10) (eGetDD (eVar 7) (eVar 10))))))
 (sSeq (sSet 11 (eF (fLst (aCons (eNewL (fB lstCF (aCons (eVar 4) aNil))) (aCons (eNewL (fB lstCF (aCons (eVar 3) aNil))) (aCons (eNewL (fB lstCF (aCons (eVar 2) aNil))) aNil))))))
 (sSeq (sSet 12 (eLend1 0 11 (eLend1 1 11 (eLend1 2 11 (eMkK "Book" 4 3 arr_Book_4_inner_running_stored_s mf_Book_initX_s (aCons (eBin ixF (eVar 11) (eC (.int 0))) (aCons (eBin ixF (eVar 11) (eC (.int 1))) (aCons (eBin ixF (eVar 11) (eC (.int 2))) (aCons (eVar 7) aNil)))) (aCons (eB tupCF (aCons (eF (fRev (eVar 5))) aNil)) (aCons (eBin ixF (eVar 6) (eC (.int 0))) (aCons (eBin ixF (eVar 6) (eC (.int 1))) aNil))))))))
 (sSeq (sSet 13 (eMk3 "Book" 4 [.ctup [],.str "keep",.str "maker"] mf_Book_initX (aCons (eF (fB lstCF (aCons (eVar 4) aNil))) (aCons (eF (fB lstCF (aCons (eVar 3) aNil))) (aCons (eF (fB lstCF (aCons (eVar 2) aNil))) (aCons (eC (.dd [] [])) aNil))))))
 (sSeq (sDrop (eAppS (eBin ixF (eVar 11) (eC (.int 0))) (eTup (aCons (eC (.str "other")) (aCons (eTup aNil) aNil)))))
 (sSeq (sDrop (eAppS (eBin ixF (eVar 11) (eC (.int 1))) (eC (.str "other"))))
 (sSeq (sDrop (eAppS (eBin ixF (eVar 11) (eC (.int 2))) (eC (.str "other"))))
 (sSeq (sSetDS (eVar 7) (eTup (aCons (eC (.str "")) (aCons (eBin ixF (eBin ixF (eVar 4) (eC (.int 0))) (eC (.int 0))) (aCons (eBin ixF (eVar 3) (eC (.int 0))) aNil)))) (eTup (aCons (eC (.str "set 1")) aNil)))
 (sSeq (sSet 14 (eB tupCF (aCons (eF (fLc (iSeq (eVar 2)) (gName3 8) (tOf (eBin (inF true) (eVar 8) (eVar 5))) (eVar 8) [8])) aNil)))
 (sSeq (sSeq (sFrzDD 9) (sSet 15 (eF (fLst (aCons (eB tupCF (aCons (eVar 4) aNil)) (aCons (eB tupCF (aCons (eVar 3) aNil)) (aCons (eB tupCF (aCons (eVar 2) aNil)) (aCons (eB tupCF (aCons (eVar 5) aNil)) (aCons (eVar 14) (aCons (eBin ixF (eVar 6) (eC (.int 0))) (aCons (eBin ixF (eVar 6) (eC (.int 1))) (aCons (eVar 9) aNil))))))))))))
 (sSeq (sIf (tOf (eBin (eqsF true) (eCall 1 mf_w_parts (aCons (eVar 12) aNil)) (eVar 15))) (sRetV (eC (.bl false))) sNext)
 (sSeq (sSet 16 (eProp "Book" mf_Book_bodies_s (eVar 12)))
 (sSeq (sDrop (eClrDD (eVar 16)))
 (sSeq (sIf (tOf (eBin (eqsF true) (eCall 1 mf_w_parts (aCons (eVar 12) aNil)) (eVar 15))) (sRetV (eC (.bl false))) sNext)
 (sRetV (eBin (eqsF false) (eCall 1 mf_w_parts (aCons (eVar 13) aNil)) (eBin addF (eSlA (eVar 15) pNone (pSome (eC (.int 3)))) (eF (fLst (aCons (eTup aNil) (aCons (eB tupCF (aCons (eVar 2) aNil)) (aCons (eC (.str "keep")) (aCons (eC (.str "maker")) (aCons (eC (.dd [] [])) aNil)))))))))))))))))))))))))))))))))
def mf_law:List D→M D:=mfn 18 mb_law
end My
namespace My
open PySem L2 M3
structure Pt15 where
 cs:Ctab
 os:Ctab
 mets:List Str
 lays:List Str
 inn:List Str
 ru:Str
 so:Str
 b:Bod
structure Ok15 (p:Pt15):Prop where
 pt:PtOk p.cs p.lays p.mets
 os:p.cs.foldlM ordStep []=some p.os
 inn:p.inn.Sublist p.lays
 ru:ruOk p.ru p.so
 gb:∀k v,p.b.lookup k=some v→Oks v∧v.length≤100
 nd:(p.b.map (·.1)).Nodup
 bl:p.b.length≤900
 gd:∀(nms:List Str) (st:Store),nms=keysS p.cs→mf_good_bodies [.dd (bk p.b) (bv p.b),.lst (nms.map .str),lstS p.lays,lstS p.mets] st=.ok (.bl true) st
def bk15 (p:Pt15) (k:Nat):List (Str×D):=bookX p.cs p.os p.mets p.lays p.inn p.ru p.so p.b k
def At15 (p:Pt15) (a:Nat) (st:Store):Prop:=∃k,st[a]?=some (.ins "Book" (bk15 p k))
section
variable {p:Pt15} {a k:Nat} {st:Store}
theorem lx_cls:(bk15 p k).lookup ("class_pairs" : Str)=some (.tup (p.cs.map pairD)):=rfl
theorem lx_met:(bk15 p k).lookup ("method_names" : Str)=some (tupS p.mets):=rfl
theorem lx_lay:(bk15 p k).lookup ("layer_names" : Str)=some (tupS p.lays):=rfl
theorem lx_inn:(bk15 p k).lookup ("inner_names" : Str)=some (tupS p.inn):=rfl
theorem lx_rul:(bk15 p k).lookup ("rules" : Str)=some (.tup [.str p.ru,.str p.so]):=rfl
theorem lx_txt:(bk15 p k).lookup ("texts" : Str)=some (.dd (bk p.b) (bv p.b)):=rfl
theorem classes15 (h:At15 p a st):mf_Book_classes [.ref a] st=.ok (.tup (p.cs.map pairD)) st:=by
 obtain⟨k,h⟩:=h
 apply of_run
 rw[mf_Book_classes,run_mfn]
 simp[mb_Book_classes,h,lx_cls]
theorem methods15 (h:At15 p a st):mf_Book_methods [.ref a] st=.ok (tupS p.mets) st:=by
 obtain⟨k,h⟩:=h
 apply of_run
 rw[mf_Book_methods,run_mfn]
 simp[mb_Book_methods,h,lx_met]
theorem layers15 (h:At15 p a st):mf_Book_layers [.ref a] st=.ok (tupS p.lays) st:=by
 obtain⟨k,h⟩:=h
 apply of_run
 rw[mf_Book_layers,run_mfn]
 simp[mb_Book_layers,h,lx_lay]
theorem inner15 (h:At15 p a st):mf_Book_inner [.ref a] st=.ok (tupS p.inn) st:=by
 obtain⟨k,h⟩:=h
 apply of_run
 rw[mf_Book_inner,run_mfn]
 simp[mb_Book_inner,h,lx_inn]
theorem running15 (h:At15 p a st):mf_Book_running [.ref a] st=.ok (.str p.ru) st:=by
 obtain⟨k,h⟩:=h
 apply of_run
 rw[mf_Book_running,run_mfn]
 simp[mb_Book_running,h,lx_rul]
theorem stored15 (h:At15 p a st):mf_Book_stored [.ref a] st=.ok (.str p.so) st:=by
 obtain⟨k,h⟩:=h
 apply of_run
 rw[mf_Book_stored,run_mfn]
 simp[mb_Book_stored,h,lx_rul]
def shown15 (p:Pt15):List Str:=p.lays.filter fun n=>decide (n∉p.inn)
theorem shown_15 (g:Ok15 p) (h:At15 p a st):mf_Book_shown [.ref a] st=.ok (tupS (shown15 p)) st:=by
 obtain⟨k,h⟩:=h
 have okL:Oks p.lays:=fun w hw=>okN (g.pt.lays.1 w hw)
 have okI:Oks p.inn:=fun w hw=>okL w (g.inn.subset hw)
 have l3:=g.pt.lays.2.2
 suffices q:M3.run (mf_Book_shown [.ref a] st) (fun y=>y=.ok (tupS (shown15 p)) st) from q
 rw[mf_Book_shown,run_mfn]
 simp[mb_Book_shown,h,lx_lay,tupS]
 refine lcM_run (xs:=p.lays) D.str (fun n=>decide (n∉p.inn)) D.str (by omega) (fun n hn=>⟨_,rfl,?_,fun _=>?_⟩) ?_
 ·simp[h,lx_inn,tupS,inF_tup true (okL n hn) okI]
 ·simp
 have lf:=List.length_filter_le (fun n=>decide (n∉p.inn)) p.lays
 simp[shown15]
theorem putV_nd {b:Bod} {k:K3} {v:List Str} (h:(b.map (·.1)).Nodup):((putV b k v).map (·.1)).Nodup:=by
 unfold putV
 split
 ·have:(b.map fun e=>if e.1=k then (e.1,v) else e).map (·.1)=b.map (·.1):=by
   rw[List.map_map]
   exact List.map_congr_left fun e _=>by dsimp only[Function.comp];split <;> rfl
  rw[this]
  exact h
 ·rename_i hk
  rw[List.map_append,List.nodup_append]
  refine⟨h,by simp,fun x hx y hy e=>?_⟩
  simp at hy
  subst e hy
  exact hk hx
theorem dcL_same {g:GM} {ek ev:EM} {u0:Sl3} {st:Store}:∀(c acc:Bod),(∀e∈c,∃u1,g (key3 e.1) u0=some u1∧M3.run (ek u1 st) (fun r=>r=.ok (.val (key3 e.1)) st)∧M3.run (ev u1 st) (fun r=>r=.ok (.val (tupS e.2)) st))→acc.length+c.length<1000000→((acc++c).map (·.1)).Nodup→
  dcL g tYes3 ek ev u0 (bk c) (bk acc) (bv acc) st=.ok (bk (acc++c),bv (acc++c)) st
 | [],acc,_,_,_=>by rw[List.append_nil];rfl
 | e :: c,acc,h,hl,nd=>by
  obtain⟨u1,e1,e2,e3⟩:=h e List.mem_cons_self
  have e2':ek u1 st=.ok (.val (key3 e.1)) st:=e2
  have e3':ev u1 st=.ok (.val (tupS e.2)) st:=e3
  simp only[List.length_cons] at hl
  have nk:e.1∉acc.map (·.1):=fun q=>by
   rw[List.map_append,List.map_cons,List.nodup_append] at nd
   exact nd.2.2 _ q _ List.mem_cons_self rfl
  have pe:putV acc e.1 e.2=acc++[e]:=by unfold putV;rw[if_neg nk]
  have ih:=dcL_same (g:=g) (ek:=ek) (ev:=ev) (u0:=u0) (st:=st) c (acc++[e]) (fun x hx=>h x (List.mem_cons_of_mem _ hx)) (by simp;omega) (by rw[List.append_assoc];exact nd)
  show dcL g tYes3 ek ev u0 (key3 e.1 :: bk c) (bk acc) (bv acc) st=_
  unfold dcL
  have lk:(bk acc).length<1000000:=by simp[bk];omega
  simp only[M.bind,M.of,M.quiet,M.pure,tYes3,e1,e2',e3',W.d,tk_key3,M.chk,lk,if_true,putV_dd,pe]
  rw[ih,List.append_assoc]
  rfl
theorem dc_same {g:GM} {ek ev:EM} {u0:Sl3} {st:Store} {k:Res (List D×List D)→Prop} (b:Bod) (nd:(b.map (·.1)).Nodup) (h:∀e∈b,∃u1,g (key3 e.1) u0=some u1∧M3.run (ek u1 st) (fun r=>r=.ok (.val (key3 e.1)) st)∧M3.run (ev u1 st) (fun r=>r=.ok (.val (tupS e.2)) st)) (hl:b.length<1000000)
  (hk:k (.ok (bk b,bv b) st)):M3.run (dcL g tYes3 ek ev u0 (bk b) [] [] st) k:=by
 have q:dcL g tYes3 ek ev u0 (bk b) [] [] st=.ok (bk b,bv b) st:=dcL_same (acc:=[]) b h (by simpa using hl) (by simpa using nd)
 rw[q]
 exact hk
theorem lookup_nd:∀{b:Bod},(b.map (·.1)).Nodup→∀{e:K3×List Str},e∈b→b.lookup e.1=some e.2
 | (xk,xv) :: b,nd,e,he=>by
  rw[List.map_cons,List.nodup_cons] at nd
  rcases List.mem_cons.mp he with q | q
  ·subst q;simp
  ·have ne:e.1≠xk:=fun z=>by
    have:e.1∈b.map (·.1):=List.mem_map_of_mem q
    rw[z] at this
    exact nd.1 this
   rw[List.lookup_cons,beq_eq_false_iff_ne.mpr ne]
   exact lookup_nd nd.2 q
theorem bodies15 (g:Ok15 p) (h:At15 p a st):mf_Book_bodies [.ref a] st=.ok (.dd (bk p.b) (bv p.b)) st:=by
 obtain⟨k,h⟩:=h
 have hl:=g.bl
 suffices q:M3.run (mf_Book_bodies [.ref a] st) (fun y=>y=.ok (.dd (bk p.b) (bv p.b)) st) from q
 rw[mf_Book_bodies,run_mfn]
 simp[mb_Book_bodies,h,lx_txt]
 have e0:∀w:Option M3.W,eFld ["Book"] "texts" (eVar 0) [some (.val (.ref a)),w] st=.ok (.val (.dd (bk p.b) (bv p.b))) st:=fun w=>by
  suffices q:M3.run (eFld ["Book"] "texts" (eVar 0) [some (.val (.ref a)),w] st) (fun r=>r=.ok (.val (.dd (bk p.b) (bv p.b))) st) from q
  simp[h,lx_txt]
 rw[run_iKeysDD (bk p.b) (bv p.b) (e0 _)]
 have cp:dcL (gName3 1) tYes3 (eVar 1) (eGetDD (eFld ["Book"] "texts" (eVar 0)) (eVar 1)) [some (.val (.ref a)),none] (bk p.b) [] [] st=.ok (bk p.b,bv p.b) st:=by
  refine dcL_same (acc:=[]) p.b (fun e he=>⟨[some (.val (.ref a)),some (.val (key3 e.1))],rfl,by simp,?_⟩) (by simp;omega) (by simpa using g.nd)
  obtain⟨v,hv⟩:=lookup_of_mem he
  have v2:v=e.2:=by
   have:=lookup_nd g.nd he
   rw[this] at hv
   cases hv
   rfl
  have bo:=(g.gb _ _ hv).2
  have at_:ddAt (bk p.b) (bv p.b) (nk3 e.1)=some (tupS v):=by rw[at_bk,hv];rfl
  rw[←v2]
  simp[h,lx_txt,tk_key3,at_]
 simp[M.bind,cp]
end
end My
namespace My
open PySem L2 M3
theorem sub_self15:∀{i l:List Str},i.Sublist l→l.Nodup→(l.filter fun n=>decide (n∈i))=i
 | _,_,.slnil,_=>rfl
 | i,_ :: l,.cons x h,nd=>by
  rw[List.nodup_cons] at nd
  have:x∉i:=fun q=>nd.1 (h.subset q)
  rw[List.filter_cons_of_neg (by simp[this])]
  exact sub_self15 h nd.2
 | x :: i,_ :: l,.cons₂ _ h,nd=>by
  rw[List.nodup_cons] at nd
  rw[List.filter_cons_of_pos (by simp)]
  congr 1
  rw[←sub_self15 h nd.2]
  refine List.filter_congr fun n hn=>?_
  have ne:n≠x:=fun q=>nd.1 (q▸hn)
  rw[sub_self15 h nd.2]
  simp[ne]
def partsD (p:Pt15):List D:=[.tup (p.cs.map pairD),tupS p.mets,tupS p.lays,tupS p.inn,tupS (shown15 p),.str p.ru,.str p.so,.dd (bk p.b) (bv p.b)]
end My
namespace My
open PySem L2 M3
theorem pys_none15:∀{xs:List D} {d:D},d∈xs→d.py=none→D.pys xs=none
 | x :: xs,d,h,e=>by
  rw[D.pys]
  rcases List.mem_cons.mp h with q | q
  ·subst q;rw[e]
  ·rw[pys_none15 q e]
   cases x.py <;> rfl
theorem eqv_none15 {xs:List D} {d y:D} (h:d∈xs) (e:d.py=none):D.eqv? (.lst xs) y=none:=by
 unfold D.eqv?
 rw[show (D.lst xs).py=(D.pys xs).map .list from rfl,pys_none15 h e]
 rfl
theorem deep15 {n:Nat} {xs:List D} (h:∀d∈xs,D.same n d d=true):D.deep n (.lst xs) (.lst xs)=true:=by
 unfold D.deep
 have e:(xs.zip xs).all (fun p=>D.same n p.1 p.2)=true:=by
  rw[List.all_eq_true]
  rintro⟨a,b⟩ hp
  obtain⟨i,hi,e⟩:=List.mem_iff_getElem.mp hp
  rw[List.getElem_zip] at e
  cases e
  exact h _ (List.getElem_mem _)
 simp[D.its,e]
theorem same_str15 {n:Nat} (z:Str):D.same (n+1) (.str z) (.str z)=true:=by
 rw[same_succ]
 simp[D.flatEq]
theorem same_seq15 {n m:Nat} {d:D} {p:PyData} (h:Nice m d p) (hm:m≤64) (hs:d.seqB=true):D.same (n+1) d d=true:=by
 have e:=eqF_self h hm false
 unfold eqF at e
 simp only[W.rd] at e
 cases q:d.eqv? d with
 | none=>rw[q] at e;cases e
 | some k=>
  rw[q] at e
  cases k with
  | false=>cases e
  | true=>
   rw[same_succ,hs,q]
   simp
theorem tk15 (k:K3):(key3 k).tk=some (nk3 k):=tk_key3 k
theorem deepdd15 {n:Nat} {b:Bod} (nd:(b.map (·.1)).Nodup) (h:∀e∈b,D.same n (tupS e.2) (tupS e.2)=true):D.deep n (.dd (bk b) (bv b)) (.dd (bk b) (bv b))=true:=by
 unfold D.deep
 have e:((bk b).zip (bv b)).all (fun p=>match p.1.tk with
   | some x=>(match ddAt (bk b) (bv b) x with
    | some d=>D.same n p.2 d
    | none=>false)
   | none=>false)=true:=by
  rw[List.all_eq_true]
  intro p hp
  unfold bk bv at hp
  rw[List.zip_map'] at hp
  obtain⟨x,hx,rfl⟩:=List.mem_map.mp hp
  dsimp only
  rw[tk15]
  dsimp only
  rw[at_bk,lookup_nd nd hx]
  exact h x hx
 have l:(bv b).length=(bk b).length:=by simp[bk,bv]
 simp only[D.its,l,e]
 simp <;> exact fun a b hp=>(List.all_eq_true.mp e) (a,b) hp
theorem same_dd15 {n:Nat} {b:Bod} (nd:(b.map (·.1)).Nodup) (h:∀e∈b,D.same n (tupS e.2) (tupS e.2)=true):D.same (n+1) (.dd (bk b) (bv b)) (.dd (bk b) (bv b))=true:=by
 rw[same_succ,deepdd15 nd h]
 simp
theorem niceS15 {ws:List Str} (h:Oks ws):∃q,Nice 2 (tupS ws) q:=by
 obtain⟨ps,hp⟩:=nice_strs h
 exact⟨_,.tup hp⟩
theorem niceP15:∀{cs:Ctab},(∀c∈cs,Ok c.1∧Oks c.2)→∃ps,NiceL 3 (cs.map pairD) ps
 | [],_=>⟨_,.nil⟩
 | c :: cs,h=>by
  obtain⟨ps,hp⟩:=niceP15 (cs:=cs) fun x hx=>h x (List.mem_cons_of_mem _ hx)
  obtain⟨h1,h2⟩:=h c List.mem_cons_self
  obtain⟨q,hq⟩:=niceS15 h2
  exact⟨_,.cons (.tup (.cons (.str h1) (.cons hq .nil))) hp⟩
theorem same_tup15 {n:Nat} {ws:List Str} (h:Oks ws):D.same (n+1) (tupS ws) (tupS ws)=true:=by
 obtain⟨q,hq⟩:=niceS15 h
 exact same_seq15 hq (by decide) rfl
theorem okrows15 {p:Pt15} (g:Ok15 p) {e:K3×List Str} (he:e∈p.b):Oks e.2:=fun s hs=>by
 exact(g.gb e.1 e.2 (lookup_nd g.nd he)).1 s hs
theorem fol_in15:∀{ks:List Str} {cs:Ctab},Follows ks cs→∀c∈cs,∀b∈c.2,b∈ks∨b∈keysS cs
 | ks,d :: cs,h,c,hc,b,hb=>by
  obtain⟨_,h2,h3⟩:=h
  rcases List.mem_cons.mp hc with q | q
  ·subst q;exact .inl (h2 b hb)
  ·rcases fol_in15 h3 c q b hb with r | r
   ·rcases List.mem_append.mp r with r | r
    ·exact .inl r
    ·right;simp at r;simp[keysS,r]
   ·right
    have:keysS (d :: cs)=d.1 :: keysS cs:=by simp[keysS]
    rw[this]
    exact List.mem_cons_of_mem _ r
theorem cls_ok15 {p:Pt15} (g:Ok15 p):∀c∈p.cs,Ok c.1∧Oks c.2:=fun c hc=>by
 have k:=g.pt.cls.okk
 refine⟨k c.1 (by unfold keysS;exact List.mem_map_of_mem hc),fun b hb=>k b ?_⟩
 exact(fol_in15 g.pt.cls.fo c hc b hb).resolve_left (fun q=>by cases q)
theorem parts_all15 {p:Pt15} (g:Ok15 p):∀d∈partsD p,D.same 8 d d=true:=by
 have okL:Oks p.lays:=fun w hw=>okN (g.pt.lays.1 w hw)
 have okM:Oks p.mets:=fun w hw=>okN (g.pt.mets.1 w hw)
 have okI:Oks p.inn:=fun w hw=>okL w (g.inn.subset hw)
 have okS:Oks (shown15 p):=fun w hw=>okL w (List.mem_filter.mp hw).1
 obtain⟨q,hq⟩:=niceP15 (cls_ok15 g)
 intro d hd
 simp only[partsD,List.mem_cons,List.not_mem_nil,or_false] at hd
 rcases hd with rfl | rfl | rfl | rfl | rfl | rfl | rfl | rfl
 ·exact same_seq15 (.tup hq) (by decide) rfl
 ·exact same_tup15 okM
 ·exact same_tup15 okL
 ·exact same_tup15 okI
 ·exact same_tup15 okS
 ·exact same_str15 _
 ·exact same_str15 _
 ·exact same_dd15 g.nd fun e he=>same_tup15 (okrows15 g he)
theorem eqs_parts15 {p:Pt15} (g:Ok15 p) (neg:Bool):eqsF neg (.val (.lst (partsD p))) (.val (.lst (partsD p)))=some (.val (.bl (!neg))):=by
 unfold eqsF
 have e:eqF neg (.val (.lst (partsD p))) (.val (.lst (partsD p)))=none:=by
  unfold eqF
  simp only[W.rd]
  rw[eqv_none15 (d:=.dd (bk p.b) (bv p.b)) (by simp[partsD]) rfl]
  rfl
 rw[e,Option.none_or]
 unfold sameF
 simp only[W.rd]
 rw[if_pos (deep15 (parts_all15 g))]
end My
namespace My
open PySem L2 M3
theorem ok15_of {S:Sp} (hS:SpOk2 S) {os:Ctab} (ho:S.cs.foldlM ordStep []=some os) {inn:List Str} {ru so:Str} {b:Bod} (hi:inn.Sublist S.lays) (hr:ruOk ru so) (hk:GivenT S b) (nd:(b.map (·.1)).Nodup) (bl:b.length≤900):Ok15 ⟨S.cs,os,S.mets,S.lays,inn,ru,so,b⟩ where
 pt:=⟨hS.lays,hS.mets,hS.cls,hS.ne⟩
 os:=ho
 inn:=hi
 ru:=hr
 gb:=fun k v hv=>by
  obtain⟨R,rfl,h2,h3,h4⟩:=(hk k v hv).2.2.2.ex
  refine⟨fun s hs=>?_,?_⟩
  ·unfold rowS at hs
   obtain⟨r,hr,rfl⟩:=List.mem_map.mp hs
   exact row_ok (h2.ok r hr)
  ·have:=h2.len
   simp[rowS]
   omega
 nd:=nd
 bl:=bl
 gd:=fun nms st hn=>good_bodies2 hS b hk nms hn st
theorem run_at15 {α:Type} {r x:Res α} (e:r=x) {k:Res α→Prop} (h:M3.run x k):M3.run r k:=e▸h
@[simp] theorem run_eLike {n:Nat} {ml:D→List D→M D} {ma mk:AM} {u:Sl3} {st:Store} {k:Res M3.W→Prop}:M3.run (eLike n ml ma mk u st) k=M3.run (ma u st) (kBind (fun ws=>M.bind (mk u) fun zs=>M.bind (M.of (asDs ws)) fun ds=>M.bind (M.of (asDs zs)) fun es=>match ds with
 | [d]=>M.bind (M.chk (es.length=n)) fun _=>M.bind (ml d es) fun d2=>M.pure (.val d2)
 | _=>M.bad) k):=run_bind _ _
theorem run_eqs15 {neg:Bool} {x y w:M3.W} {st:Store} {k:Res M3.W→Prop} (e:eqsF neg x y=some w) (h:k (.ok w st)):M3.run (M.of (eqsF neg x y) st) k:=by
 rw[e]
 exact h
end My
namespace My
open PySem L2 M3
section
def kSetI1 (i:Nat) (u:Sl3) (xs:List D) (d:D) (k:SRes→Prop):Res W→Prop
 | .ok (.val (.int j)) st=>(match ixN xs.length j with
  | some n=>k (.nx (u.set i (some (.bor (xs.set n d)))) st)
  | none=>k .bad)
 | .err c x st=>k (.err c x u st)
 | _=>k .bad
def kSetI0 (i:Nat) (mi:EM) (u:Sl3) (xs:List D) (k:SRes→Prop):Res W→Prop
 | .ok (.val d) st=>M3.run (mi u st) (kSetI1 i u xs d k)
 | .err c x st=>k (.err c x u st)
 | _=>k .bad
@[simp] theorem kSetI0_ok (i mi u xs d ks st):kSetI0 i mi u xs ks (.ok (.val d) st)=M3.run (mi u st) (kSetI1 i u xs d ks):=rfl
end
end My
namespace My
open PySem L2 M3
def Tab0 (lays mets keys:List Str) (b:Bod):Prop:=∀(k:K3) (v:List Str),b.lookup k=some v→k.2.1≠("" : Str)∧(k.1=("" : Str)∨k.1∈lays)∧k.2.1∈keys∧k.2.2∈mets∧BodyOk lays mets v
theorem Tab0.nil {lays mets keys:List Str}:Tab0 lays mets keys []:=fun _ _ h=>by cases h
theorem Tab0.put {lays mets keys:List Str} {b:Bod} (h:Tab0 lays mets keys b) {k:K3} {v:List Str} (h0:k.2.1≠("" : Str)) (h1:k.1=("" : Str)∨k.1∈lays) (h2:k.2.1∈keys) (h3:k.2.2∈mets) (h4:BodyOk lays mets v):Tab0 lays mets keys (putV b k v):=fun k' v' e=>by
 rw[putV_lookup] at e
 split at e
 ·rename_i q
  cases e
  subst q
  exact⟨h0,h1,h2,h3,h4⟩
 ·exact h k' v' e
theorem Tab0.tab {lays mets keys:List Str} {b:Bod} (h:Tab0 lays mets keys b):TabOk lays mets keys b:=
 ⟨fun la m v e=>absurd rfl (h _ v e).1,fun k v _ e=>(h k v e).2⟩
def withOwn (b:Bod):List Str→Bod
 | []=>b
 | m :: ms=>withOwn (putV b (ownK m) ownB) ms
theorem withOwn_lookup:∀(ms:List Str) (b:Bod) (k:K3),(withOwn b ms).lookup k=if ∃m∈ms,k=ownK m then some ownB else b.lookup k
 | [],b,k=>by simp[withOwn]
 | m :: ms,b,k=>by
  rw[withOwn,withOwn_lookup ms,putV_lookup]
  by_cases h1:k=ownK m
  ·by_cases h2:∃m∈ms,k=ownK m
   ·rw[if_pos h2,if_pos ⟨m,by simp,h1⟩]
   ·rw[if_neg h2,if_pos h1,if_pos ⟨m,by simp,h1⟩]
  ·by_cases h2:∃m∈ms,k=ownK m
   ·rw[if_pos h2,if_pos (by obtain⟨x,hx,e⟩:=h2;exact⟨x,List.mem_cons_of_mem _ hx,e⟩)]
   ·rw[if_neg h2,if_neg h1,if_neg]
    rintro⟨x,hx,e⟩
    rcases List.mem_cons.mp hx with rfl | hx
    ·exact h1 e
    ·exact h2 ⟨x,hx,e⟩
theorem withOwn_len:∀(ms:List Str) (b:Bod),(withOwn b ms).length≤b.length+ms.length
 | [],b=>Nat.le_refl _
 | m :: ms,b=>by
  have h1:=withOwn_len ms (putV b (ownK m) ownB)
  have h2:=putV_len b (ownK m) ownB
  rw[withOwn,List.length_cons]
  omega
theorem withOwn_tab {lays mets keys:List Str}:∀(ms:List Str) (b:Bod),(∀m∈ms,m∈mets)→TabOk lays mets keys b→TabOk lays mets keys (withOwn b ms)
 | [],b,_,h=>h
 | m :: ms,b,hm,h=>withOwn_tab ms _ (fun x hx=>hm x (List.mem_cons_of_mem _ hx)) (h.putOwn (hm m List.mem_cons_self))
theorem withOwn_plain {ms:List Str} {b:Bod} {k:K3} (h:k.2.1≠("" : Str)):(withOwn b ms).lookup k=b.lookup k:=by
 rw[withOwn_lookup,if_neg]
 rintro⟨m,_,e⟩
 exact h (by rw[e])
def SpB (lays mets:List Str) (cs:Ctab) (inner:List Str) (run sto:Str) (b:Bod):Sp:=⟨lays,mets,cs,inner,run,sto,withOwn b mets⟩
theorem spB_ok {lays mets:List Str} {cs:Ctab} {inner:List Str} {run sto:Str} {b:Bod} (h1:(∀n∈lays,IsNm n)∧lays.Nodup∧lays.length≤4) (h2:(∀n∈mets,IsNm n)∧mets.Nodup∧1≤mets.length∧mets.length≤3) (h3:Cls3 cs) (h4:cs≠[]) (h5:inner.Sublist lays)
  (h6:run="keep"∨run="live") (h7:sto="maker"∨sto="caller") (h8:Tab0 lays mets (keysS cs) b) (h9:b.length≤100) (h10:lays.length * cs.length≤6∨∀la∈lays,∀c m,c≠("" : Str)→(withOwn b mets).lookup ((la,c,m):K3)=none):SpOk2 (SpB lays mets cs inner run sto b):=
 ⟨h1,h2,h3,h4,h5,h6,h7,withOwn_tab mets b (fun _ h=>h) h8.tab,fun m hm=>by show (withOwn b mets).lookup _=_;rw[withOwn_lookup,if_pos ⟨m,hm,rfl⟩],by have:=withOwn_len mets b;show (withOwn b mets).length≤200;omega,h10⟩
end My
namespace My
open PySem L2 M3
theorem all_set12 {f:MO→Bool}:∀{st:Store} {k:Nat} {o:MO},st.all f=true→f o=true→(st.set k o).all f=true
 | [],_,_,_,_=>rfl
 | x :: xs,0,o,h,ho=>by
  rw[List.set_cons_zero,List.all_cons,ho,Bool.true_and]
  rw[List.all_cons,Bool.and_eq_true] at h
  exact h.2
 | x :: xs,k+1,o,h,ho=>by
  rw[List.all_cons,Bool.and_eq_true] at h
  rw[List.set_cons_succ,List.all_cons,h.1,Bool.true_and]
  exact all_set12 h.2 ho
theorem set_back12 {st:Store} {k:Nat} {o o':MO} (h:st[k]?=some o):(st.set k o').set k o=st:=by
 rw[List.set_set]
 refine List.ext_getElem? fun j=>?_
 by_cases q:k=j
 ·subst q;rw[List.getElem?_set_self (List.getElem?_eq_some_iff.mp h).1,h]
 ·rw[List.getElem?_set_ne q]
theorem noDs_str12 (ws:List Str):D.noDs (ws.map .str)=true:=noDs_all.mpr fun x hx=>by
 obtain⟨w,_,rfl⟩:=List.mem_map.mp hx
 rfl
theorem noDs_ord12 (os:Ctab):(ordD os).noD=true:=by
 show D.noDs _=true
 exact noDs_all.mpr fun x hx=>by
  obtain⟨w,_,rfl⟩:=List.mem_map.mp hx
  exact noDs_str12 _
set_option maxHeartbeats 8000000 in
theorem init12 {p:Pt15} (g:Ok15 p) {j:List Str} (hj:j.Nodup∧∀b∈j,b∈p.lays) (ej:(p.lays.filter fun n=>decide (n∈j))=p.inn) {st:Store} {kb:Nat} (hk:st[kb]?=some (.ddi (bk p.b) (bv p.b))) (hd:st.all MO.noD=true) :
  mf_Book_initX_s [.ref st.length,.lst (p.cs.map pairD),lstS p.mets,lstS p.lays,.ref kb,tupS j,.str p.ru,.str p.so] (st++[.ins "Book" []])=.ok .non (st++[.ins "Book" (bk15 p (st.length+1)),.ddi [] []]):=by
 suffices q:M3.run (mf_Book_initX_s [.ref st.length,.lst (p.cs.map pairD),lstS p.mets,lstS p.lays,.ref kb,tupS j,.str p.ru,.str p.so] (st++[.ins "Book" []])) (fun x=>x=.ok .non (st++[.ins "Book" (bk15 p (st.length+1)),.ddi [] []])) from q
 have h:=g.pt
 have hl:=g.bl
 have hb:=g.gb
 have lc:=h.cls.len
 obtain⟨m1,m2,m3,m4⟩:=h.mets
 obtain⟨l1,l2,l3⟩:=h.lays
 have okL:Oks p.lays:=fun w hw=>okN (l1 w hw)
 have okn:Oks (keysS p.cs):=h.cls.okk
 have lk:=(List.getElem?_eq_some_iff.mp hk).1
 rw[mf_Book_initX_s,run_mfn]
 simp[mb_Book_initX_s,good_classes_spec h.cls h.ne,class_orders_spec h.cls g.os,bad_part_gen h (.some j hj) g.ru]
 have up:∀xs:Store,(st++xs)[kb]?=some (.ddi (bk p.b) (bv p.b)):=fun xs=>by rw[List.getElem?_append_left lk];exact hk
 rw[run_eLendD 4 rfl (up _)]
 simp
 refine lcA_run (xs:=p.cs) pairD (fun c=>D.str c.1) (by omega) (fun n hn'=>⟨_,rfl,?_⟩) ?_
 ·simp[pairD]
 rw[keysS_map]
 obtain⟨nms,hnms⟩:∃nms,nms=keysS p.cs:=⟨_,rfl⟩
 rw[←hnms] at okn⊢
 have gbs:∀st,mf_good_bodies [.dd (bk p.b) (bv p.b),.lst (nms.map .str),.lst (p.lays.map .str),.lst (p.mets.map .str)] st=.ok (.bl true) st:=fun st=>g.gd nms st hnms
 have nd:((st++[MO.ins "Book" (put3 (Str.ofString "orders") (ordD p.os) [])]).set kb .dead).all MO.noD=true:=by
  refine all_set12 ?_ rfl
  rw[List.all_append,hd]
  simp[MO.noD,put3,D.noDs,noDs_ord12]
 simp[lstS,gbs,show p.cs.length≤1000000 by omega,show p.mets.length≤1000000 by omega,show p.lays.length≤1000000 by omega]
 rw[kLendD_ok ⟨rfl,nd⟩,set_back12 (up _)]
 simp[pf0,pf1,pf2,pf3,pf4,pf5,pf6,show p.cs.length≤1000000 by omega,show p.mets.length≤1000000 by omega,show p.lays.length≤1000000 by omega]
 have okI:Oks j:=fun w hw=>okL w (hj.2 w hw)
 refine lcM_run (xs:=p.lays) D.str (fun n=>decide (n∈j)) D.str (by omega) (fun n hn'=>⟨_,rfl,?_,fun _=>?_⟩) ?_
 ·simp[tupS,inF_tup false (okL n hn') okI]
 ·simp
 rw[ej]
 have lf:p.inn.length≤p.lays.length:=by rw[←ej];exact List.length_filter_le _ _
 simp[pf0,pf1,pf2,pf3,pf4,pf5,pf6,show p.inn.length≤1000000 by omega]
 rw[run_lockR (k:=kb) rfl (up _)]
 obtain⟨st2,hst2⟩:∃st2,st2=(st++[MO.ins "Book" [("orders",ordD p.os),("class_pairs",.tup (p.cs.map pairD)),("method_names",.tup (p.mets.map .str)),("layer_names",.tup (p.lays.map .str)),("inner_names",.tup (p.inn.map .str)),("rules",.tup [.str p.ru,.str p.so]),("known",.ref (st.length+1))],MO.ddi [] []]:Store):=⟨_,rfl⟩
 have hk2:st2[kb]?=some (.ddi (bk p.b) (bv p.b)):=by rw[hst2];exact up _
 have hr:(st2.set kb (.rdd (bk p.b) (bv p.b)))[kb]?=some (.rdd (bk p.b) (bv p.b)):=List.getElem?_set_self (List.getElem?_eq_some_iff.mp hk2).1
 rw[←hst2]
 simp
 rw[run_iKeysS (k:=kb) (keys:=bk p.b) (us:=bv p.b) rfl hr]
 simp
 refine dc_same p.b g.nd (fun e he=>?_) (by omega) ?_
 ·obtain⟨v,hv⟩:=lookup_of_mem he
  have v2:v=e.2:=by
   have:=lookup_nd g.nd he
   rw[this] at hv
   cases hv
   rfl
  have bo:=(hb _ _ hv).2
  have at_:ddAt (bk p.b) (bv p.b) (nk3 e.1)=some (tupS v):=by rw[at_bk,hv];rfl
  refine⟨_,rfl,?_,?_⟩
  ·simp
  ·simp[hr,tk_key3,at_,tupS,←v2,show v.length≤1000000 by omega]
 ·simp
  rw[kUnl_same hk2,hst2]
  simp[pf7]
  simp[bk15,bookX,tupS]
theorem bodies12 {p:Pt15} {a:Nat} {st:Store} (g:Ok15 p) (h:At15 p a st):mf_Book_bodies_s [.ref a] st=.ok (.ref st.length) (st++[.ddi (bk p.b) (bv p.b)]):=by
 obtain⟨k,h⟩:=h
 have hl:=g.bl
 suffices q:M3.run (mf_Book_bodies_s [.ref a] st) (fun y=>y=.ok (.ref st.length) (st++[.ddi (bk p.b) (bv p.b)])) from q
 rw[mf_Book_bodies_s,run_mfn]
 simp[mb_Book_bodies_s,h,lx_txt]
 have e0:∀w:Option M3.W,eFld ["Book"] "texts" (eVar 0) [some (.val (.ref a)),w] st=.ok (.val (.dd (bk p.b) (bv p.b))) st:=fun w=>by
  suffices q:M3.run (eFld ["Book"] "texts" (eVar 0) [some (.val (.ref a)),w] st) (fun r=>r=.ok (.val (.dd (bk p.b) (bv p.b))) st) from q
  simp[h,lx_txt]
 rw[run_iKeysDD (bk p.b) (bv p.b) (e0 _)]
 have cp:dcL (gName3 1) tYes3 (eVar 1) (eGetDD (eFld ["Book"] "texts" (eVar 0)) (eVar 1)) [some (.val (.ref a)),none] (bk p.b) [] [] st=.ok (bk p.b,bv p.b) st:=by
  refine dcL_same (acc:=[]) p.b (fun e he=>⟨[some (.val (.ref a)),some (.val (key3 e.1))],rfl,by simp,?_⟩) (by simp;omega) (by simpa using g.nd)
  obtain⟨v,hv⟩:=lookup_of_mem he
  have v2:v=e.2:=by
   have:=lookup_nd g.nd he
   rw[this] at hv
   cases hv
   rfl
  have at_:ddAt (bk p.b) (bv p.b) (nk3 e.1)=some (tupS v):=by rw[at_bk,hv];rfl
  rw[←v2]
  simp[h,lx_txt,tk_key3,at_]
 simp[M.bind,cp,mNewDD]
def R12 (t:Bool) (la:Str):List Row:=if t then [.sw true la,.pro,.en] else []
def b12 (t:Bool) (c0 a0 c1 a1:Str) (ls:List Str):Bod:=ls.foldl (fun b la=>putV b (la,c1,a1) (rowS (R12 t la))) [((("" : Str),c0,a0),rowS [.say a0])]
theorem b12_len (t:Bool) (c1 a1:Str):∀(ls:List Str) (b:Bod),(ls.foldl (fun b la=>putV b (la,c1,a1) (rowS (R12 t la))) b).length≤b.length+ls.length
 | [],b=>by simp
 | la :: ls,b=>by
  have h:=b12_len t c1 a1 ls (putV b (la,c1,a1) (rowS (R12 t la)))
  have h2:=putV_len b (la,c1,a1) (rowS (R12 t la))
  simp only[List.foldl_cons,List.length_cons]
  omega
theorem b12_nd (t:Bool) (c1 a1:Str):∀(ls:List Str) (b:Bod),(b.map (·.1)).Nodup→((ls.foldl (fun b la=>putV b (la,c1,a1) (rowS (R12 t la))) b).map (·.1)).Nodup
 | [],b,h=>h
 | la :: ls,b,h=>b12_nd t c1 a1 ls _ (putV_nd h)
theorem b12_get {t:Bool} {c1 a1:Str} {P:K3→List Str→Prop}:∀(ls:List Str) (b:Bod),(∀k v,b.lookup k=some v→P k v)→(∀la∈ls,P (la,c1,a1) (rowS (R12 t la)))→∀k v,(ls.foldl (fun b la=>putV b (la,c1,a1) (rowS (R12 t la))) b).lookup k=some v→P k v
 | [],b,h,_,k,v,e=>h k v e
 | la :: ls,b,h,hl,k,v,e=>by
  refine b12_get ls _ (fun k' v' e'=>?_) (fun x hx=>hl x (List.mem_cons_of_mem _ hx)) k v e
  rw[putV_lookup] at e'
  split at e'
  ·rename_i q
   cases e'
   subst q
   exact hl la List.mem_cons_self
  ·exact h k' v' e'
theorem body12 {lays mets:List Str} {t:Bool} {la:Str} (hl:la∈lays) (hn:IsNm la):BodyOk lays mets (rowS (R12 t la)):=by
 refine⟨R12 t la,rfl,?_,?_,?_⟩
 ·cases t
  ·exact⟨by simp[R12],fun r hr=>by simp[R12] at hr,fun _ _ h=>by simp[R12] at h,fun _ h=>by simp[R12] at h,fun _ h=>by simp[R12] at h,rfl,by simp[R12]⟩
  ·refine⟨by simp[R12],fun r hr=>?_,fun on l h=>?_,fun _ h=>by simp[R12] at h,fun _ h=>by simp[R12] at h,rfl,by simp[R12]⟩
   ·simp[R12] at hr
    rcases hr with rfl | rfl | rfl
    ·exact hn
    ·trivial
    ·trivial
   ·simp[R12] at h
    rw[h.2]
    exact hl
 ·cases t <;> rfl
 ·cases t <;> simp[R12]
theorem say12 {lays mets:List Str} {a:Str} (h:IsNm a):BodyOk lays mets (rowS [.say a]):=
 ⟨_,rfl,⟨by simp,fun r hr=>by simp at hr;subst hr;exact h,fun _ _ h=>by simp at h,fun _ h=>by simp at h,fun _ h=>by simp at h,rfl,by simp⟩,rfl,by simp⟩
theorem ok12 {cs os:Ctab} {lays mets inn:List Str} {ru so:Str} {b:Bod} (h1:(∀n∈lays,IsNm n)∧lays.Nodup∧lays.length≤4) (h2:(∀n∈mets,IsNm n)∧mets.Nodup∧1≤mets.length∧mets.length≤3) (h3:Cls3 cs) (h4:cs≠[]) (ho:cs.foldlM ordStep []=some os)
  (hi:inn.Sublist lays) (hr:ruOk ru so) (hb:∀k v,b.lookup k=some v→(k.1=("" : Str)∨k.1∈lays)∧k.2.1∈keysS cs∧k.2.2∈mets∧BodyOk lays mets v) (nd:(b.map (·.1)).Nodup) (bl:b.length≤900):Ok15 ⟨cs,os,mets,lays,inn,ru,so,b⟩:=
 ok15_of (S:=SpB lays mets cs inn ru so []) (spB_ok h1 h2 h3 h4 hi hr.1 hr.2 (fun k v e=>by cases e) (by simp) (.inr fun la _ c m hc=>by rw[withOwn_plain hc];rfl)) ho hi hr hb nd bl
theorem plain12 {cs os:Ctab} {lays mets:List Str} (h:PtOk cs lays mets) (ho:cs.foldlM ordStep []=some os) (st:Store) :
  mf_Book_initX [.ref st.length,.lst (cs.map pairD),lstS mets,lstS lays,.dd [] [],.ctup [],.str "keep",.str "maker"] (st++[.ins "Book" []])=.ok .non (st++[.ins "Book" (bk15 ⟨cs,os,mets,lays,[],"keep","maker",[]⟩ (st.length+1)),.ddi [] []]):=by
 obtain⟨r,e,s⟩:=initX_good h ho .none (ru:="keep") (so:="maker") ⟨.inl rfl,.inl rfl⟩ [] (fun k v e=>by cases e) (by simp) (by simp[gBods]) st
 have:r=[]:=by
  cases r with
  | nil=>rfl
  | cons x r=>
   have:=s x.1
   simp at this
 subst this
 exact e
theorem parts12 {p:Pt15} {a:Nat} {st:Store} (g:Ok15 p) (h:At15 p a st):mf_w_parts [.ref a] st=.ok (.lst (partsD p)) st:=by
 suffices q:M3.run (mf_w_parts [.ref a] st) (fun y=>y=.ok (.lst (partsD p)) st) from q
 obtain⟨k,e⟩:=id h
 rw[mf_w_parts,run_mfn]
 simp[mb_w_parts,e,classes15 h,methods15 h,layers15 h,inner15 h,shown_15 g h,running15 h,stored15 h,bodies15 g h]
 rfl
theorem putV_new12 {b:Bod} {e:K3×List Str} (h:e.1∉b.map (·.1)):putV b e.1 e.2=b++[e]:=by unfold putV;rw[if_neg h]
theorem take_new12 {b:Bod} (nd:(b.map (·.1)).Nodup) {i:Nat} {e:K3×List Str} (h:b[i]?=some e):putV (b.take i) e.1 e.2=b.take (i+1):=by
 have hi:=(List.getElem?_eq_some_iff.mp h).1
 rw[List.take_add_one,h,putV_new12]
 ·rfl
 ·intro q
  obtain⟨x,hx,ex⟩:=List.mem_map.mp q
  obtain⟨j,hj,ej⟩:=List.getElem_of_mem hx
  rw[List.getElem_take] at ej
  have lj:j<i:=by have:=hj;rw[List.length_take] at this;omega
  have e1:(b.map (·.1))[j]?=some e.1:=by rw[List.getElem?_map,List.getElem?_eq_getElem (by omega),ej];simp[ex]
  have e2:(b.map (·.1))[i]?=some e.1:=by rw[List.getElem?_map,h];rfl
  have:=(List.nodup_iff_pairwise_ne.mp nd)
  rw[List.pairwise_iff_getElem] at this
  have l2:i<(b.map (·.1)).length:=by simp;exact hi
  have l1:j<(b.map (·.1)).length:=by simp;omega
  have t:=this j i l1 l2 lj
  rw[List.getElem?_eq_getElem l1] at e1
  rw[List.getElem?_eq_getElem l2] at e2
  exact t ((Option.some.inj e1).trans (Option.some.inj e2).symm)
end My
namespace My
open PySem L2 M3
theorem noDs_bk12 (b:Bod):D.noDs (bk b)=true:=noDs_all.mpr fun x hx=>by
 obtain⟨e,_,rfl⟩:=List.mem_map.mp hx
 rfl
theorem noDs_bv12 (b:Bod):D.noDs (bv b)=true:=noDs_all.mpr fun x hx=>by
 obtain⟨e,_,rfl⟩:=List.mem_map.mp hx
 exact noDs_str12 _
theorem noLs_str12 (ws:List Str):D.noLs (ws.map .str)=true:=noLs_all.mpr fun x hx=>by
 obtain⟨w,_,rfl⟩:=List.mem_map.mp hx
 rfl
theorem noLs_bk12 (b:Bod):D.noLs (bk b)=true:=noLs_all.mpr fun x hx=>by
 obtain⟨e,_,rfl⟩:=List.mem_map.mp hx
 rfl
theorem noLs_bv12 (b:Bod):D.noLs (bv b)=true:=noLs_all.mpr fun x hx=>by
 obtain⟨e,_,rfl⟩:=List.mem_map.mp hx
 exact noLs_str12 _
theorem noLs_ord12 (os:Ctab):(ordD os).noL=true:=by
 show D.noLs _=true
 exact noLs_all.mpr fun x hx=>by
  obtain⟨w,_,rfl⟩:=List.mem_map.mp hx
  exact noLs_str12 _
theorem noLs_cs12 (cs:Ctab):D.noLs (cs.map pairD)=true:=noLs_all.mpr fun x hx=>by
 obtain⟨w,_,rfl⟩:=List.mem_map.mp hx
 simp[pairD,tupS,D.noL,D.noLs,noLs_str12]
theorem noL_bk15 (p:Pt15) (k:Nat):D.noLs ((bk15 p k).map (·.2))=true:=by
 simp[bk15,bookX,D.noLs,D.noL,noLs_ord12,noLs_cs12,tupS,noLs_str12,noLs_bk12,noLs_bv12]
@[simp] theorem run_fRev12 {m:EM} {u:Sl3} {st:Store} {kf:Res (List D)→Prop}:M3.run (fRev m u st) kf=M3.run (m u st) (kBind (fun w=>M.of (w.ls.map List.reverse)) kf):=run_bind _ _
theorem eqs_int12 (i j:Int):eqsF false (.val (.int i)) (.val (.int j))=some (.val (.bl (decide (i=j)))):=by
 unfold eqsF
 rw[eqF_int]
 rfl
set_option maxHeartbeats 40000000 in
theorem law_true (ns:List Int) (hl:ns.length≤63) (hb:∀i∈ns,i.natAbs.log2≤1048576):∃st,mf_law [.ro (ns.map .int)] []=.ok (.bl true) st:=by
 suffices h:M3.run (mf_law [.ro (ns.map .int)] []) (fun r=>∃st,r=.ok (.bl true) st) from h
 obtain⟨c0,ec0,hc0⟩:=cell_at_spec ns 0 (by omega) hb hl []
 obtain⟨ds,eds,hd⟩:=digits_spec c0 3 16 hc0 (by decide) (by decide) []
 have dg:∀i,i<16→∃k:Nat,ds[i]?=some (k:Int)∧k<5040:=fun i hi=>by
  have hi':i<ds.length:=by rw[hd.1];exact hi
  have:=hd.2 ds[i] (List.getElem_mem hi')
  exact⟨ds[i].toNat,by rw[List.getElem?_eq_getElem hi'];congr 1;omega,by omega⟩
 obtain⟨d0,g0,b0⟩:=dg 0 (by decide)
 obtain⟨d1,g1,b1⟩:=dg 1 (by decide)
 obtain⟨d2,g2,b2⟩:=dg 2 (by decide)
 obtain⟨d3,g3,b3⟩:=dg 3 (by decide)
 obtain⟨d7,g7,b7⟩:=dg 7 (by decide)
 obtain⟨d8,g8,b8⟩:=dg 8 (by decide)
 obtain⟨d9,g9,b9⟩:=dg 9 (by decide)
 obtain⟨d10,g10,b10⟩:=dg 10 (by decide)
 obtain⟨d11,g11,b11⟩:=dg 11 (by decide)
 obtain⟨d12,g12,b12'⟩:=dg 12 (by decide)
 obtain⟨r1,e1,l1⟩:=emod_nat d1 5 (by omega)
 obtain⟨r3,e3,l3⟩:=emod_nat d3 3 (by omega)
 obtain⟨r8,e8,l8⟩:=emod_nat d8 3 (by omega)
 obtain⟨r10,e10,l10⟩:=emod_nat d10 2 (by decide)
 obtain⟨r11,e11,l11⟩:=emod_nat d11 2 (by decide)
 obtain⟨r12,e12,l12⟩:=emod_nat d12 2 (by decide)
 obtain⟨run,pr,hrun⟩:=pick2 "keep" "live" r10 l10
 obtain⟨sto,pst,hsto⟩:=pick2 "maker" "caller" r11 l11
 obtain⟨m3,c3,hm3⟩:∃m:Nat,(1:Int)+r3=m∧m=1+r3:=⟨_,by simp,rfl⟩
 obtain⟨m8,c8,hm8⟩:∃m:Nat,(1:Int)+r8=m∧m=1+r8:=⟨_,by simp,rfl⟩
 have s0:=spelled_spec d0 4 b0 (by decide) []
 have s2:=spelled_spec d2 3 b2 (by decide) []
 have s7:=spelled_spec d7 3 b7 (by decide) []
 have nml:∀{d k j},∀n∈(words d k).take j,IsNm n:=fun n hn=>words_nm (List.mem_of_mem_take hn)
 have ndl:∀{d k j},k≤26→((words d k).take j).Nodup:=fun {d k j} hk=>(words_nodup d hk).sublist (List.take_sublist _ _)
 have lnl:∀{d k j},((words d k).take j).length=min j k:=fun {d k j}=>by rw[List.length_take,words_length]
 obtain⟨cs,ecs,hC,hK⟩:=class_list_spec ((ds.drop 4).take 3) ((words d7 3).take m8) (fun d h=>hd.2 d (List.mem_of_mem_drop (List.mem_of_mem_take h))) (by rw[lnl];simp[hd.1];omega) (ndl (by decide)) nml (by rw[lnl];omega) []
 obtain⟨lays,hlays⟩:∃l,l=(words d0 4).take r1:=⟨_,rfl⟩
 obtain⟨mets,hmets⟩:∃l,l=(words d2 3).take m3:=⟨_,rfl⟩
 simp only[show ((2:Nat):Int)=2 from rfl,show ((3:Nat):Int)=3 from rfl,show ((5:Nat):Int)=5 from rfl] at e1 e3 e8 e10 e11 e12
 have ll:lays.length≤4:=by rw[hlays,lnl];omega
 have lm:1≤mets.length∧mets.length≤3:=by rw[hmets,lnl];omega
 have lc:=hC.len
 have lc1:1≤cs.length:=by
  have:=congrArg List.length hK
  rw[lnl] at this
  simp[keysS] at this
  omega
 have nmL:∀n∈lays,IsNm n:=by rw[hlays];exact nml
 have nmM:∀n∈mets,IsNm n:=by rw[hmets];exact nml
 have ndL:lays.Nodup:=by rw[hlays];exact ndl (by decide)
 have ndM:mets.Nodup:=by rw[hmets];exact ndl (by decide)
 obtain⟨cf,hcf⟩:∃c,cs[0]?=some c:=⟨_,List.getElem?_eq_getElem (by omega)⟩
 obtain⟨mf,hmf⟩:∃c,mets[0]?=some c:=⟨_,List.getElem?_eq_getElem (by omega)⟩
 obtain⟨cz,hcz⟩:∃c,cs.getLast?=some c:=⟨_,List.getLast?_eq_some_getLast (by intro h;rw[h] at lc1;simp at lc1)⟩
 obtain⟨mz,hmz⟩:∃c,mets.getLast?=some c:=⟨_,List.getLast?_eq_some_getLast (by intro h;rw[h] at lm;simp at lm)⟩
 have acf:atI (cs.map pairD) (0:Int)=some (pairD cf):=by rw[atI_l0,List.getElem?_map,hcf];rfl
 have amf:atI (mets.map D.str) (0:Int)=some (.str mf):=by rw[atI_l0,List.getElem?_map,hmf];rfl
 have acz:atI (cs.map pairD) (-1)=some (pairD cz):=by rw[M3.atI_last,List.getLast?_map,hcz];rfl
 have amz:atI (mets.map D.str) (-1)=some (.str mz):=by rw[M3.atI_last,List.getLast?_map,hmz];rfl
 have mfM:mf∈mets:=List.mem_of_getElem? hmf
 have mzM:mz∈mets:=List.mem_of_getLast? hmz
 have cfM:cf∈cs:=List.mem_of_getElem? hcf
 have czM:cz∈cs:=List.mem_of_getLast? hcz
 have okH:∀h:List Str,h.Sublist lays→Oks h:=fun h q w hw=>okN (nmL w (q.subset hw))
 rw[mf_law,run_mfn]
 simp[mb_law]
 rw[show mf_w_cell_at [.ro (ns.map .int),.int 0] []=_ from ec0]
 simp
 rw[show mf_w_digits [.int c0,.int 3,.int 16] []=_ from eds]
 simp[g0,g1,e1,show mf_w_spelled [.int d0,.int 4] []=_ from s0,cutT]
 rw[←List.map_take,←hlays]
 simp[g2,g3,e3,c3,show mf_w_spelled [.int d2,.int 3] []=_ from s2,cutT]
 rw[←List.map_take,←hmets]
 simp[g7,g8,e8,c8,show mf_w_spelled [.int d7,.int 3] []=_ from s7]
 rw[cutD_map,cutD_map,cut_mid _ (by decide) (by decide),cutT,show (Int.toNat 7 - Int.toNat 4)=3 from rfl,show Int.toNat 4=4 from rfl,ecs]
 simp[g9]
 refine⟨by omega,?_⟩
 unfold rangeD
 have atl:∀k (h:k<lays.length),lays[k]?=some lays[k]:=fun k h=>List.getElem?_eq_getElem h
 obtain⟨pz,hpz⟩:∃pz:Nat→Bool,pz=fun k=>decide ((d9:Int) / (pw8 k:Int) % 2=1):=⟨_,rfl⟩
 have hpw:∀k,0<pw8 k∧pw8 k≤8:=fun k=>by unfold pw8;split <;> (try split) <;> (try split) <;> omega
 refine lcM_run (xs:=List.range lays.length) (fun i:Nat=>D.int (0+(i:Int))) pz (fun i=>.str (lays.getD i "")) (by simp;omega) (fun i hi=>⟨_,rfl,?_,fun _=>?_⟩) ?_
 ·have hi':=List.mem_range.mp hi
  have h1:=(hpw i).1
  have h2:=(hpw i).2
  simp[g9,at_pw8 i (by omega),h1,show (pw8 i:Int)<1073741824 by omega,eqs_int12,hpz]
 ·have hi':=List.mem_range.mp hi
  simp[atN,atl i hi',List.getD_eq_getElem?_getD]
 obtain⟨hid,hhid⟩:∃hid:List Str,hid=((List.range lays.length).filter pz).map (fun i=>lays.getD i ""):=⟨_,rfl⟩
 have inn:hid.Sublist lays:=by
  have e:(List.range lays.length).map (fun i=>lays.getD i "")=lays:=by
   apply List.ext_getElem?
   intro k
   rw[List.getElem?_map]
   by_cases h:k<lays.length
   ·rw[List.getElem?_range h]
    simp[List.getD_eq_getElem?_getD,atl k h]
   ·rw[List.getElem?_eq_none (by simpa using h),List.getElem?_eq_none (by simpa using h)]
    rfl
  have:=(List.filter_sublist (p:=pz) (l:=List.range lays.length)).map (fun i=>lays.getD i "")
  rw[e] at this
  rw[hhid]
  exact this
 rw[show ((List.range lays.length).filter pz).map (fun i=>D.str (lays.getD i ""))=hid.map .str by rw[hhid,List.map_map];rfl]
 simp[g10,g11,e10,e11,pr,pst]
 have lmf:=(nmM mf mfM).2.1
 have oks:=okN (nmM mf mfM)
 have lsay:(Str.ofString "say ").length+mf.length≤1000000:=by
  have:(Str.ofString "say ").length≤10:=by decide +kernel
  omega
 simp[hcf,hmf,pairD,lsay]
 rw[kOwnDsD_ok (r:=(bk [((("" : Str),cf.1,mf),rowS [.say mf])],bv [((("" : Str),cf.1,mf),rowS [.say mf])])) _ _ _ rfl (by simp)]
 simp
 obtain⟨t,ht⟩:∃t:Bool,r12=if t then 1 else 0:=by
  rcases r12 with _ | _ | r
  ·exact⟨false,rfl⟩
  ·exact⟨true,rfl⟩
  ·omega
 have lon:∀la∈lays,(Str.ofString "on ").length+la.length≤1000000:=fun la h=>by
  have:=(nmL la h).2.1
  have:(Str.ofString "on ").length≤10:=by decide +kernel
  omega
 obtain⟨B,hB⟩:∃B:Nat→Bod,B=fun i=>b12 t cf.1 mf cz.1 mz (lays.take i):=⟨_,rfl⟩
 have Bl:∀i,(B i).length≤900:=fun i=>by
  have:=b12_len t cz.1 mz (lays.take i) [((("" : Str),cf.1,mf),rowS [.say mf])]
  simp only[hB,b12]
  simp only[List.length_cons,List.length_nil,List.length_take] at this
  omega
 have Bs:∀i la,lays[i]?=some la→B (i+1)=putV (B i) (la,cz.1,mz) (rowS (R12 t la)):=fun i la h=>by
  rw[hB]
  show b12 _ _ _ _ _ _=_
  unfold b12
  rw[List.take_add_one,h,List.foldl_append]
  rfl
 refine forL_run (fun i u st'=>st'=[]∧∃x8,u=[some (W.val (D.ro (List.map D.int ns))),some (W.val (D.lst (List.map D.int ds))),some (W.val (D.lst (List.map D.str lays))),some (W.val (D.lst (List.map D.str mets))),
  some (W.val (D.lst (List.map pairD cs))),some (W.val (D.lst (List.map D.str hid))),some (W.val (D.lst [D.str run,D.str sto])),some (W.bdd (bk (B i)) (bv (B i))),x8,none,none,none,none,none,none,none,none,none]) ⟨rfl,_,by rw[hB];rfl⟩ ?_ ?_
 ·rintro i d u st' hd ⟨rfl,x8,rfl⟩
  rw[List.getElem?_map] at hd
  obtain⟨la,hla,rfl⟩:=Option.map_eq_some_iff.mp hd
  have bl:=Bl i
  have lo:=lon la (List.mem_of_getElem? hla)
  have bs:=Bs i la hla
  refine⟨_,rfl,?_⟩
  simp
  rw[run_sSetDD 7 _ _ rfl]
  have ev:ddPut (bk (B i)) (bv (B i)) (D.tup [.str la,.str cz.1,.str mz]) (nk3 (la,cz.1,mz)) (D.tup ((R12 t la).map rD))=(bk (B (i+1)),bv (B (i+1))):=by
   rw[bs,←rowS_D];exact putV_dd _ (la,cz.1,mz) _
  cases t
  ·simp at ht
   subst ht
   simp[lo,g12,e12,acz,amz,pairD]
   rw[if_pos (by decide +kernel),show D.tup (cutD [D.str (Str.ofString "on " ++ la),D.str (Str.ofString "proceed"),D.str (Str.ofString "end")] none (some 0))=D.tup ((R12 false la).map rD) from rfl]
   rw[kPutDD_ok _ _ _ _ _ (tk_3 _ _ _),if_pos (by simp only[bk,List.length_map];omega),ev]
   simp
  ·simp at ht
   subst ht
   simp[lo,g12,e12,acz,amz,pairD]
   rw[if_pos (by decide +kernel),show D.tup (cutD [D.str (Str.ofString "on " ++ la),D.str (Str.ofString "proceed"),D.str (Str.ofString "end")] none (some 3))=D.tup ((R12 true la).map rD) from rfl]
   rw[kPutDD_ok _ _ _ _ _ (tk_3 _ _ _),if_pos (by simp only[bk,List.length_map];omega),ev]
   simp
 rintro u st' ⟨rfl,x8,rfl⟩
 obtain⟨b,hbb⟩:∃b,b=B lays.length:=⟨_,rfl⟩
 have bl:b.length≤900:=by rw[hbb];exact Bl _
 have be:b=b12 t cf.1 mf cz.1 mz lays:=by rw[hbb,hB];simp
 have bnd:(b.map (·.1)).Nodup:=by rw[be];exact b12_nd _ _ _ _ _ (by simp)
 simp[←hbb]
 rw[run_sShareDD 7 rfl]
 simp
 rw[run_sLockS (k:=0) (keys:=bk b) (us:=bv b) rfl rfl]
 simp
 rw[run_iKeysS (k:=0) (keys:=bk b) (us:=bv b) rfl rfl]
 simp
 refine forL_run (fun i u st'=>st'=[.rdd (bk b) (bv b)]∧∃x10,u=[some (W.val (D.ro (List.map D.int ns))),some (W.val (D.lst (List.map D.int ds))),some (W.val (D.lst (List.map D.str lays))),some (W.val (D.lst (List.map D.str mets))),
  some (W.val (D.lst (List.map pairD cs))),some (W.val (D.lst (List.map D.str hid))),some (W.val (D.lst [D.str run,D.str sto])),some (W.val (.ref 0)),x8,some (W.bdd (bk (b.take i)) (bv (b.take i))),x10,none,none,none,none,none,none,none]) ⟨rfl,_,rfl⟩ ?_ ?_
 ·rintro i d u st' hd ⟨rfl,x10,rfl⟩
  obtain⟨e,he,rfl⟩:=get_map hd
  have hm:=List.mem_of_getElem? he
  have hv:=lookup_nd bnd hm
  have at_:ddAt (bk b) (bv b) (nk3 e.1)=some (tupS e.2):=by rw[at_bk,hv];rfl
  have tn:=take_new12 bnd he
  have tl:(b.take i).length≤900:=by rw[List.length_take];omega
  refine⟨_,rfl,?_⟩
  simp
  rw[run_sSetDD 9 _ _ rfl]
  simp[tk_key3,at_]
  rw[kPutDD_ok _ _ _ _ _ (tk_key3 _),if_pos (by simp only[bk,List.length_map];omega),putV_dd,tn]
  simp
 rintro u st' ⟨rfl,x10,rfl⟩
 have lbk:b.take (bk b).length=b:=by simp[bk]
 simp only[lbk]
 rw[show ([MO.rdd (bk b) (bv b)]:Store)=([MO.ddi (bk b) (bv b)]:Store).set 0 (.rdd (bk b) (bv b)) from rfl,kUnlS_same (keys:=bk b) (us:=bv b) rfl]
 simp[show cs.length≤1000000 by omega,show mets.length≤1000000 by omega,show lays.length≤1000000 by omega]
 obtain⟨os,ho⟩:=hC.ord
 have okRu:ruOk run sto:=⟨hrun,hsto⟩
 have G:Ok15 ⟨cs,os,mets,lays,hid,run,sto,b⟩:=ok12 ⟨nmL,ndL,ll⟩ ⟨nmM,ndM,lm⟩ hC (by rintro rfl;simp at lc1) ho inn okRu (by
  rw[be]
  refine b12_get _ _ (fun k v e=>?_) (fun la hla=>?_)
  ·rw[List.lookup_cons] at e
   split at e
   ·rename_i q
    have q:=eq_of_beq q
    cases e
    subst q
    exact⟨.inl rfl,List.mem_map_of_mem cfM,mfM,say12 (nmM _ mfM)⟩
   ·cases e
  ·exact⟨.inr hla,List.mem_map_of_mem czM,mzM,body12 hla (nmL _ hla)⟩) bnd bl
 have G0:Ok15 ⟨cs,os,mets,lays,[],"keep","maker",[]⟩:=ok12 ⟨nmL,ndL,ll⟩ ⟨nmM,ndM,lm⟩ hC (by rintro rfl;simp at lc1) ho (by simp) ⟨.inl rfl,.inl rfl⟩ (fun k v e=>by cases e) (by simp) (by simp)
 rw[run_eLend1 0 11 (xs:=cs.map pairD) rfl rfl rfl]
 simp
 rw[run_eLend1 1 11 (xs:=mets.map .str) rfl rfl rfl]
 simp
 rw[run_eLend1 2 11 (xs:=lays.map .str) rfl rfl rfl]
 have r5:∀f,(hid.map D.str).map (D.re1 f)=hid.map D.str:=fun f=>by rw[List.map_map];rfl
 obtain⟨u1,hu1⟩:∃u1,u1=reU (oneL 3 (List.map D.str lays)) (reU (oneL 2 (List.map D.str mets)) (reU (oneL 1 (List.map pairD cs))
   [some (W.val (D.ro (List.map D.int ns))),some (W.val (D.lst (List.map D.int ds))),
   some (W.val (D.lst (List.map D.str lays))),some (W.val (D.lst (List.map D.str mets))),
   some (W.val (D.lst (List.map pairD cs))),some (W.val (D.lst (List.map D.str hid))),
   some (W.val (D.lst [D.str run,D.str sto])),some (W.val (D.ref 0)),x8,
   some (W.bdd (bk b) (bv b)),x10,some (W.val (D.lst [D.ref 1,D.ref 2,D.ref 3])),none,none,none,none,none,none])):=⟨_,rfl⟩
 have u11:u1[11]?=some (some (.val (.lst [.lst (cs.map pairD),.lst (mets.map .str),.lst (lays.map .str)]))):=by rw[hu1];rfl
 have u7:u1[7]?=some (some (.val (.ref 0))):=by rw[hu1];rfl
 have u6:u1[6]?=some (some (.val (.lst [.str run,.str sto]))):=by rw[hu1];rfl
 have u5:u1[5]?=some (some (.val (.lst (hid.map .str)))):=by
  rw[hu1]
  show some (some (W.val (.lst ((((hid.map D.str).map (D.re1 _)).map (D.re1 _)).map (D.re1 _)))))=_
  rw[r5,r5,r5]
 rw[←hu1]
 have lh:hid.length≤lays.length:=inn.length_le
 simp[u11,u7,u6,u5,arr_Book_4_inner_running_stored_s,show hid.length≤1000000 by omega]
 have fe:(lays.filter fun n=>decide (n∈hid.reverse))=hid:=by
  rw[←sub_self15 inn ndL]
  refine List.filter_congr fun n hn=>?_
  rw[sub_self15 inn ndL]
  simp
 have ei:=init12 G (j:=hid.reverse) ⟨(List.reverse_perm hid).nodup_iff.mpr (inn.nodup ndL),fun x hx=>inn.subset (by simpa using hx)⟩ fe (st:=[.ddi (bk b) (bv b),.dead,.dead,.dead]) (kb:=0) rfl (by simp[MO.noD,noDs_bk12,noDs_bv12])
 simp[lstS,tupS] at ei
 refine run_at15 ei ?_
 obtain⟨f4,hf4⟩:∃f,f=bk15 ⟨cs,os,mets,lays,hid,run,sto,b⟩ 5:=⟨_,rfl⟩
 have n4:D.noLs (f4.map (·.2))=true:=by rw[hf4];exact noL_bk15 _ _
 rw[←hf4]
 simp
 rw[kLend1_ok ⟨rfl,by simp[MO.noL,D.noLs,n4,noLs_bk12,noLs_bv12]⟩]
 simp
 rw[kLend1_ok ⟨rfl,by simp[MO.noL,D.noLs,n4,noLs_bk12,noLs_bv12,noLs_str12]⟩]
 simp
 rw[kLend1_ok ⟨rfl,by simp[MO.noL,D.noLs,n4,noLs_bk12,noLs_bv12,noLs_str12]⟩]
 simp[show cs.length≤1000000 by omega,show mets.length≤1000000 by omega,show lays.length≤1000000 by omega]
 have ep:=plain12 G0.pt ho [.ddi (bk b) (bv b),.lst (cs.map pairD),.lst (mets.map .str),.lst (lays.map .str),.ins "Book" f4,.ddi [] []]
 simp[lstS] at ep
 refine run_at15 ep ?_
 obtain⟨f6,hf6⟩:∃f,f=bk15 ⟨cs,os,mets,lays,[],"keep","maker",[]⟩ 7:=⟨_,rfl⟩
 rw[←hf6]
 simp[hcf,hmf,pairD]
 rw[if_pos (by omega),if_pos (by omega),if_pos (by omega)]
 rw[show (D.tup [D.str (Str.ofString ""),D.str cf.1,D.str mf]).tk=some (nk3 ("",cf.1,mf)) from tk_3 _ _ _]
 simp[M.bind,ddOw,M.chk,M.pure,show (bk b).length<1000000 by simp only[bk,List.length_map];omega]
 refine lcM_run (xs:=lays) D.str (fun n=>decide (n∉hid)) D.str (by omega) (fun n hn'=>⟨_,rfl,?_,fun _=>?_⟩) ?_
 ·simp[inF_lst true (okN (nmL n hn')) (okH hid inn)]
 ·simp
 obtain⟨sh,hsh⟩:∃sh,sh=lays.filter fun n=>decide (n∉hid):=⟨_,rfl⟩
 rw[←hsh]
 have lsh:sh.length≤4:=by rw[hsh];exact Nat.le_trans (List.length_filter_le _ _) ll
 simp[show sh.length≤1000000 by omega]
 rw[run_sFrzDD 9 rfl]
 simp[show cs.length≤1000000 by omega,show mets.length≤1000000 by omega,show lays.length≤1000000 by omega,show hid.length≤1000000 by omega]
 have hp:partsD ⟨cs,os,mets,lays,hid,run,sto,b⟩=[D.tup (cs.map pairD),D.tup (mets.map .str),D.tup (lays.map .str),D.tup (hid.map .str),D.tup (sh.map .str),.str run,.str sto,.dd (bk b) (bv b)]:=by rw[hsh];rfl
 have hp0:partsD ⟨cs,os,mets,lays,[],"keep","maker",[]⟩=[D.tup (cs.map pairD),D.tup (mets.map .str),D.tup (lays.map .str),.tup [],D.tup (lays.map .str),.str "keep",.str "maker",.dd [] []]:=by
  have e:(lays.filter fun n=>decide (n∉([]:List Str)))=lays:=by simp
  show [_,_,_,_,tupS (shown15 _),_,_,_]=_
  unfold shown15
  rw[e]
  rfl
 have q1:=eqs_parts15 G true
 have q0:=eqs_parts15 G0 false
 rw[hp] at q1
 rw[hp0] at q0
 refine run_at15 (parts12 G (a:=4) ⟨5,by rw[←hf4];rfl⟩) ?_
 simp[hp]
 refine run_eqs15 q1 ?_
 simp
 refine run_at15 (bodies12 G (a:=4) ⟨5,by rw[←hf4];rfl⟩) ?_
 simp
 refine run_at15 (parts12 G (a:=4) ⟨5,by rw[←hf4];rfl⟩) ?_
 simp[hp]
 refine run_eqs15 q1 ?_
 simp
 refine run_at15 (parts12 G0 (a:=6) ⟨7,by rw[←hf6];rfl⟩) ?_
 simp[hp0,show lays.length≤1000000 by omega]
 have c3':cutD [D.tup (cs.map pairD),D.tup (mets.map .str),D.tup (lays.map .str),D.tup (hid.map .str),D.tup (sh.map .str),.str run,.str sto,.dd (bk b) (bv b)] none (some 3)=[D.tup (cs.map pairD),D.tup (mets.map .str),D.tup (lays.map .str)]:=rfl
 rw[c3']
 refine⟨by simp,?_⟩
 refine run_eqs15 q0 ?_
 simp
end My
namespace My
open PySem L2 M3
def top (i:Nat):Stmt:=PySem.Challenge.pw_switchedlayers_k12_parts_of_a_book.main.body.getD i (.Pass ⟨0,0,0,0⟩)
structure Txt (K:PySem.W.Frag) (mg:Str→Option Value) (G:G3):Prop where
 hK:K=G.K
 nz:NoFz G.R
 z_all:mg "all" = none
 z_any:mg "any" = none
 z_dict:mg "dict" = none
 z_int:mg "int" = none
 z_isinstance:mg "isinstance" = none
 z_len:mg "len" = none
 z_list:mg "list" = none
 z_range:mg "range" = none
 z_set:mg "set" = none
 z_str:mg "str" = none
 z_tuple:mg "tuple" = none
 g_BARE_ROWS:GTup K mg "BARE_ROWS" ["set 0","set 1","if","else","end","proceed","run","yield"]
 g_LETTERS:∃t,mg "LETTERS" = some (.str "abcdefghijklmnopqrstuvwxyz" t)
 g_MOST_BLOCKS:∃t,mg "MOST_BLOCKS" = some (.int 3 t)
 g_MOST_ROWS:∃t,mg "MOST_ROWS" = some (.int 10 t)
 f_orders:∀c∈(["Book"]:List String),FldOk K G c "orders"
 f_class_pairs:∀c∈(["Book"]:List String),FldOk K G c "class_pairs"
 f_method_names:∀c∈(["Book"]:List String),FldOk K G c "method_names"
 f_layer_names:∀c∈(["Book"]:List String),FldOk K G c "layer_names"
 f_inner_names:∀c∈(["Book"]:List String),FldOk K G c "inner_names"
 f_rules:∀c∈(["Book"]:List String),FldOk K G c "rules"
 f_known:∀c∈(["Book"]:List String),FldOk K G c "known"
 f_texts:∀c∈(["Book"]:List String),FldOk K G c "texts"
 r_NoOrder:ExcOk K mg G "NoOrder" "NoOrder"
abbrev s_w_digits:Stmt:=top 28
abbrev n_w_digits:List Str:=["_law_cell","_law_salt","_law_many","_law_draws","_law_rest","_law_k","_law_mixed"]
theorem sc_w_digits:FnScope n_w_digits ["_law_cell","_law_salt","_law_many"] (defScope s_w_digits):=⟨rfl,rfl,rfl,by decide +kernel,rfl,by decide +kernel,by decide +kernel⟩
abbrev s_w_cell_at:Stmt:=top 27
abbrev n_w_cell_at:List Str:=["_law_script","_law_k"]
theorem sc_w_cell_at:FnScope n_w_cell_at ["_law_script","_law_k"] (defScope s_w_cell_at):=⟨rfl,rfl,rfl,by decide +kernel,rfl,by decide +kernel,by decide +kernel⟩
abbrev s_w_spelled:Stmt:=top 29
abbrev n_w_spelled:List Str:=["_law_draw","_law_many","_law_letters","_law_first","_law_place","_law_more","_law_signs","_law_rests","_law_k"]
theorem sc_w_spelled:FnScope n_w_spelled ["_law_draw","_law_many"] (defScope s_w_spelled):=⟨rfl,rfl,rfl,by decide +kernel,rfl,by decide +kernel,by decide +kernel⟩
abbrev s_w_ordered:Stmt:=top 30
abbrev n_w_ordered:List Str:=["_law_classes","_law_bases","_law_orders","_law_pair","_law_left","_law_merged","_law_turn","_law_heads","_law_free","_law_name","_law_order"]
theorem sc_w_ordered:FnScope n_w_ordered ["_law_classes","_law_bases"] (defScope s_w_ordered):=⟨rfl,rfl,rfl,by decide +kernel,rfl,by decide +kernel,by decide +kernel⟩
abbrev s_w_class_list:Stmt:=top 31
abbrev n_w_class_list:List Str:=["_law_draws","_law_names","_law_classes","_law_k","_law_menu","_law_bases","_law_name"]
theorem sc_w_class_list:FnScope n_w_class_list ["_law_draws","_law_names"] (defScope s_w_class_list):=⟨rfl,rfl,rfl,by decide +kernel,rfl,by decide +kernel,by decide +kernel⟩
abbrev s_is_word:Stmt:=top 14
abbrev n_is_word:List Str:=["text","sign"]
theorem sc_is_word:FnScope n_is_word ["text"] (defScope s_is_word):=⟨rfl,rfl,rfl,by decide +kernel,rfl,by decide +kernel,by decide +kernel⟩
abbrev s_good_names:Stmt:=top 15
abbrev n_good_names:List Str:=["names","least","most","name"]
theorem sc_good_names:FnScope n_good_names ["names","least","most"] (defScope s_good_names):=⟨rfl,rfl,rfl,by decide +kernel,rfl,by decide +kernel,by decide +kernel⟩
abbrev s_are_chosen:Stmt:=top 16
abbrev n_are_chosen:List Str:=["chosen","names","name"]
theorem sc_are_chosen:FnScope n_are_chosen ["chosen","names"] (defScope s_are_chosen):=⟨rfl,rfl,rfl,by decide +kernel,rfl,by decide +kernel,by decide +kernel⟩
abbrev s_good_classes:Stmt:=top 17
abbrev n_good_classes:List Str:=["classes","names","pair","at"]
theorem sc_good_classes:FnScope n_good_classes ["classes"] (defScope s_good_classes):=⟨rfl,rfl,rfl,by decide +kernel,rfl,by decide +kernel,by decide +kernel⟩
abbrev s_free_name:Stmt:=top 6
abbrev n_free_name:List Str:=["orders","order","other"]
theorem sc_free_name:FnScope n_free_name ["orders"] (defScope s_free_name):=⟨rfl,rfl,rfl,by decide +kernel,rfl,by decide +kernel,by decide +kernel⟩
abbrev s_merge_orders:Stmt:=top 7
abbrev n_merge_orders:List Str:=["orders","left","merged","name","shorter","order","other"]
theorem sc_merge_orders:FnScope n_merge_orders ["orders"] (defScope s_merge_orders):=⟨rfl,rfl,rfl,by decide +kernel,rfl,by decide +kernel,by decide +kernel⟩
abbrev s_class_orders:Stmt:=top 18
abbrev n_class_orders:List Str:=["classes","orders","name","bases","above","base"]
theorem sc_class_orders:FnScope n_class_orders ["classes"] (defScope s_class_orders):=⟨rfl,rfl,rfl,by decide +kernel,rfl,by decide +kernel,by decide +kernel⟩
abbrev s_bad_part:Stmt:=top 19
abbrev n_bad_part:List Str:=["methods","layers","inner","running","stored"]
theorem sc_bad_part:FnScope n_bad_part ["methods","layers","inner","running","stored"] (defScope s_bad_part):=⟨rfl,rfl,rfl,by decide +kernel,rfl,by decide +kernel,by decide +kernel⟩
abbrev s_good_row:Stmt:=top 22
abbrev n_good_row:List Str:=["row","layers","methods","words"]
theorem sc_good_row:FnScope n_good_row ["row","layers","methods"] (defScope s_good_row):=⟨rfl,rfl,rfl,by decide +kernel,rfl,by decide +kernel,by decide +kernel⟩
abbrev s_switches:Stmt:=top 20
abbrev n_switches:List Str:=["row"]
theorem sc_switches:FnScope n_switches ["row"] (defScope s_switches):=⟨rfl,rfl,rfl,by decide +kernel,rfl,by decide +kernel,by decide +kernel⟩
abbrev s_well_nested:Stmt:=top 21
abbrev n_well_nested:List Str:=["rows","blocks","row"]
theorem sc_well_nested:FnScope n_well_nested ["rows"] (defScope s_well_nested):=⟨rfl,rfl,rfl,by decide +kernel,rfl,by decide +kernel,by decide +kernel⟩
abbrev s_good_body:Stmt:=top 23
abbrev n_good_body:List Str:=["rows","layers","methods","row"]
theorem sc_good_body:FnScope n_good_body ["rows","layers","methods"] (defScope s_good_body):=⟨rfl,rfl,rfl,by decide +kernel,rfl,by decide +kernel,by decide +kernel⟩
abbrev s_good_bodies:Stmt:=top 24
abbrev n_good_bodies:List Str:=["bodies","names","layers","methods","key"]
theorem sc_good_bodies:FnScope n_good_bodies ["bodies","names","layers","methods"] (defScope s_good_bodies):=⟨rfl,rfl,rfl,by decide +kernel,rfl,by decide +kernel,by decide +kernel⟩
abbrev s_Book_initX_s:Stmt:=(clsB (top 25)).getD 0 (.Pass ⟨0,0,0,0⟩)
abbrev n_Book_initX_s:List Str:=["self","classes","methods","layers","bodies","inner","running","stored","e","part","key","name","pair"]
theorem sc_Book_initX_s:FnScope n_Book_initX_s ["self","classes","methods","layers","bodies","inner","running","stored"] (defScope s_Book_initX_s):=⟨rfl,rfl,rfl,by decide +kernel,rfl,by decide +kernel,by decide +kernel⟩
abbrev s_Book_initX:Stmt:=(clsB (top 25)).getD 0 (.Pass ⟨0,0,0,0⟩)
abbrev n_Book_initX:List Str:=["self","classes","methods","layers","bodies","inner","running","stored","e","part","key","name","pair"]
theorem sc_Book_initX:FnScope n_Book_initX ["self","classes","methods","layers","bodies","inner","running","stored"] (defScope s_Book_initX):=⟨rfl,rfl,rfl,by decide +kernel,rfl,by decide +kernel,by decide +kernel⟩
abbrev s_Book_bodies:Stmt:=(clsB (top 25)).getD 8 (.Pass ⟨0,0,0,0⟩)
abbrev n_Book_bodies:List Str:=["self","key"]
theorem sc_Book_bodies:FnScope n_Book_bodies ["self"] (defScope s_Book_bodies):=⟨rfl,rfl,rfl,by decide +kernel,rfl,by decide +kernel,by decide +kernel⟩
abbrev s_Book_stored:Stmt:=(clsB (top 25)).getD 7 (.Pass ⟨0,0,0,0⟩)
abbrev n_Book_stored:List Str:=["self"]
theorem sc_Book_stored:FnScope n_Book_stored ["self"] (defScope s_Book_stored):=⟨rfl,rfl,rfl,by decide +kernel,rfl,by decide +kernel,by decide +kernel⟩
abbrev s_Book_running:Stmt:=(clsB (top 25)).getD 6 (.Pass ⟨0,0,0,0⟩)
abbrev n_Book_running:List Str:=["self"]
theorem sc_Book_running:FnScope n_Book_running ["self"] (defScope s_Book_running):=⟨rfl,rfl,rfl,by decide +kernel,rfl,by decide +kernel,by decide +kernel⟩
abbrev s_Book_shown:Stmt:=(clsB (top 25)).getD 5 (.Pass ⟨0,0,0,0⟩)
abbrev n_Book_shown:List Str:=["self","name"]
theorem sc_Book_shown:FnScope n_Book_shown ["self"] (defScope s_Book_shown):=⟨rfl,rfl,rfl,by decide +kernel,rfl,by decide +kernel,by decide +kernel⟩
abbrev s_Book_inner:Stmt:=(clsB (top 25)).getD 4 (.Pass ⟨0,0,0,0⟩)
abbrev n_Book_inner:List Str:=["self"]
theorem sc_Book_inner:FnScope n_Book_inner ["self"] (defScope s_Book_inner):=⟨rfl,rfl,rfl,by decide +kernel,rfl,by decide +kernel,by decide +kernel⟩
abbrev s_Book_layers:Stmt:=(clsB (top 25)).getD 3 (.Pass ⟨0,0,0,0⟩)
abbrev n_Book_layers:List Str:=["self"]
theorem sc_Book_layers:FnScope n_Book_layers ["self"] (defScope s_Book_layers):=⟨rfl,rfl,rfl,by decide +kernel,rfl,by decide +kernel,by decide +kernel⟩
abbrev s_Book_methods:Stmt:=(clsB (top 25)).getD 2 (.Pass ⟨0,0,0,0⟩)
abbrev n_Book_methods:List Str:=["self"]
theorem sc_Book_methods:FnScope n_Book_methods ["self"] (defScope s_Book_methods):=⟨rfl,rfl,rfl,by decide +kernel,rfl,by decide +kernel,by decide +kernel⟩
abbrev s_Book_classes:Stmt:=(clsB (top 25)).getD 1 (.Pass ⟨0,0,0,0⟩)
abbrev n_Book_classes:List Str:=["self"]
theorem sc_Book_classes:FnScope n_Book_classes ["self"] (defScope s_Book_classes):=⟨rfl,rfl,rfl,by decide +kernel,rfl,by decide +kernel,by decide +kernel⟩
abbrev s_w_parts:Stmt:=top 32
abbrev n_w_parts:List Str:=["_law_book","_law_rest"]
theorem sc_w_parts:FnScope n_w_parts ["_law_book"] (defScope s_w_parts):=⟨rfl,rfl,rfl,by decide +kernel,rfl,by decide +kernel,by decide +kernel⟩
abbrev s_Book_bodies_s:Stmt:=(clsB (top 25)).getD 8 (.Pass ⟨0,0,0,0⟩)
abbrev n_Book_bodies_s:List Str:=["self","key"]
theorem sc_Book_bodies_s:FnScope n_Book_bodies_s ["self"] (defScope s_Book_bodies_s):=⟨rfl,rfl,rfl,by decide +kernel,rfl,by decide +kernel,by decide +kernel⟩
abbrev s_law:Stmt:=top 33
abbrev n_law:List Str:=["_law_script","_law_shape","_law_names","_law_acts","_law_pairs","_law_hidden","_law_rules","_law_texts","_law_name","_law_kept","_law_key","_law_given","_law_book","_law_plain","_law_shown","_law_due","_law_told","_law_k"]
theorem sc_law:FnScope n_law ["_law_script"] (defScope s_law):=⟨rfl,rfl,rfl,by decide +kernel,rfl,by decide +kernel,by decide +kernel⟩
abbrev s_BadBook_init:Stmt:=(clsB (top 3)).getD 0 (.Pass ⟨0,0,0,0⟩)
section
variable {Pg:Program} {w:World} {K:PySem.W.Frag} {mg:Str→Option Value} {base:Heap} {G:G3}
theorem ok_w_digits (hw:w=G.w) (T:Txt K mg G) {f:Addr} {fd:FuncData} (F:Fun K "_law_digits" "_law_digits" s_w_digits f fd) :
  M3.FnOk Pg w K mg base (CXq Pg w) 1 f fd ["_law_cell","_law_salt","_law_many"] (spM G 3 mf_w_digits):=
 fn_ok (k:=0) (N:=n_w_digits) (mb:=mb_w_digits) T.hK hw F sc_w_digits fun cdv A outer s H E hr=>
 (mss_cons (ms_own 3 sc_w_digits.nd (mf_lst ma_nil))
 (mss_cons (ms_set 4 sc_w_digits.nd (me_bin om_sub (me_var 0) (me_bin om_pow me_int me_int)))
 (mss_cons (ms_for (passes_of rfl) hr.cool (mi_range1 rfl T.z_range (ma_cons (me_var 2) ma_nil)) (mg_name 5 sc_w_digits.nd) (mss_one (ms_if (mt_cmp om_ge (me_var 0) (me_bin om_pow me_int me_int) (nomark _)) (mss_cons (ms_app 3 (me_bin om_mod (me_callTy cm_int rfl T.z_int (by decide +kernel) (ma_cons (me_var 4) ma_nil)) me_int))
 (mss_one (ms_set 4 sc_w_digits.nd (me_bin om_div (me_var 4) me_int)))) (mss_cons (ms_set 6 sc_w_digits.nd (me_bin om_mod (me_callTy cm_int rfl T.z_int (by decide +kernel) (ma_cons (me_bin om_add (me_bin om_add (me_bin om_mul (me_var 0) me_int) (me_bin om_mul (me_bin om_add (me_var 1) (me_var 5)) me_int)) me_int) ma_nil)) me_int))
 (mss_one (ms_app 3 (me_bin om_mod (me_bin om_mod (me_callTy cm_int rfl T.z_int (by decide +kernel) (ma_cons (me_bin om_add (me_bin om_add (me_bin om_mul (me_var 6) (me_var 6)) (me_bin om_mul me_int (me_var 1))) (me_var 5)) ma_nil)) me_int) me_int)))))))
 (mss_one (ms_retO 3)))))
theorem ok_w_cell_at (hw:w=G.w) (T:Txt K mg G) {f:Addr} {fd:FuncData} (F:Fun K "_law_cell_at" "_law_cell_at" s_w_cell_at f fd) :
  M3.FnOk Pg w K mg base (CXq Pg w) 1 f fd ["_law_script","_law_k"] (spM G 2 mf_w_cell_at):=
 fn_ok (k:=0) (N:=n_w_cell_at) (mb:=mb_w_cell_at) T.hK hw F sc_w_cell_at fun cdv A outer s H E hr=>
 (mss_cons (ms_if (mt_cmp om_lt (me_var 1) (me_callB cm_len rfl T.z_len PySem.boot_len (ma_cons (me_var 0) ma_nil)) (nomark _)) (mss_one (ms_ret (me_ix (me_var 0) (me_var 1)))) mss_nil)
 (mss_cons (ms_if (mt_cmp om_gt (me_callB cm_len rfl T.z_len PySem.boot_len (ma_cons (me_var 0) ma_nil)) me_int (nomark _)) (mss_one (ms_ret (me_bin om_add (me_bin om_mod (me_callTy cm_int rfl T.z_int (by decide +kernel) (ma_cons (me_ix (me_var 0) (me_bin om_mod (me_var 1) (me_callB cm_len rfl T.z_len PySem.boot_len (ma_cons (me_var 0) ma_nil)))) ma_nil)) me_int) (me_bin om_mul me_int (me_var 1))))) mss_nil)
 (mss_one (ms_ret (me_var 1)))))
theorem ok_w_spelled (hw:w=G.w) (T:Txt K mg G) {f:Addr} {fd:FuncData} (F:Fun K "_law_spelled" "_law_spelled" s_w_spelled f fd) :
  M3.FnOk Pg w K mg base (CXq Pg w) 1 f fd ["_law_draw","_law_many"] (spM G 2 mf_w_spelled):=
 fn_ok (k:=0) (N:=n_w_spelled) (mb:=mb_w_spelled) T.hK hw F sc_w_spelled fun cdv A outer s H E hr=>
 (mss_cons (ms_set 2 sc_w_spelled.nd me_str)
 (mss_cons (ms_set 3 sc_w_spelled.nd (me_bin om_mul (me_ix (me_var 2) (me_bin om_mod (me_bin om_div (me_callTy cm_int rfl T.z_int (by decide +kernel) (ma_cons (me_var 0) ma_nil)) me_int) me_int)) (me_bin om_mod (me_callTy cm_int rfl T.z_int (by decide +kernel) (ma_cons (me_var 0) ma_nil)) me_int)))
 (mss_cons (ms_set 4 sc_w_spelled.nd (me_bin om_mod (me_bin om_div (me_callTy cm_int rfl T.z_int (by decide +kernel) (ma_cons (me_var 0) ma_nil)) me_int) me_int))
 (mss_cons (ms_set 5 sc_w_spelled.nd (me_bin om_mod (me_bin om_div (me_callTy cm_int rfl T.z_int (by decide +kernel) (ma_cons (me_var 0) ma_nil)) me_int) me_int))
 (mss_cons (ms_set 6 sc_w_spelled.nd (me_f (mf_lc (own:=[("_law_k",8)]) hr.cool sc_w_spelled.nd (mi_range1 rfl T.z_range (ma_cons (me_var 1) ma_nil)) (blkOk_by (N:=n_w_spelled) (sc:=defScope s_w_spelled) (by decide +kernel)) (fun _ _ _ _ _ _=>(mg_name 8 sc_w_spelled.nd)) (fun _ _ _ _ _ _=>mifs_nil) (fun _ _ _ _ _ _=>(me_ix (me_var 2) (me_bin om_mod (me_callTy cm_int rfl T.z_int (by decide +kernel) (ma_cons (me_bin om_add (me_var 0) (me_bin om_mul me_int (me_var 8))) ma_nil)) me_int))))))
 (mss_cons (ms_set 7 sc_w_spelled.nd (me_f (mf_lc (own:=[("_law_k",8)]) hr.cool sc_w_spelled.nd (mi_range1 rfl T.z_range (ma_cons (me_var 1) ma_nil)) (blkOk_by (N:=n_w_spelled) (sc:=defScope s_w_spelled) (by decide +kernel)) (fun _ _ _ _ _ _=>(mg_name 8 sc_w_spelled.nd)) (fun _ _ _ _ _ _=>mifs_nil) (fun _ _ _ _ _ _=>(me_bin om_add (me_sl (me_var 3) (mp_some (me_var 4)) mp_none) (me_sl (me_var 3) mp_none (mp_some (me_bin om_mul (me_var 8) (me_var 5)))))))))
 (mss_one (ms_ret (me_f (mf_lc (own:=[("_law_k",8)]) hr.cool sc_w_spelled.nd (mi_range1 rfl T.z_range (ma_cons (me_var 1) ma_nil)) (blkOk_by (N:=n_w_spelled) (sc:=defScope s_w_spelled) (by decide +kernel)) (fun _ _ _ _ _ _=>(mg_name 8 sc_w_spelled.nd)) (fun _ _ _ _ _ _=>mifs_nil) (fun _ _ _ _ _ _=>(me_sl (me_bin om_add (me_bin om_add (me_sl (me_var 3) mp_none (mp_some (me_var 4))) (me_ix (me_var 6) (me_var 8))) (me_ix (me_var 7) (me_var 8))) mp_none (mp_some me_int)))))))))))))
theorem ok_w_ordered (hw:w=G.w) (T:Txt K mg G) {f:Addr} {fd:FuncData} (F:Fun K "_law_ordered" "_law_ordered" s_w_ordered f fd) :
  M3.FnOk Pg w K mg base (CXq Pg w) 1 f fd ["_law_classes","_law_bases"] (spMW G 2 mf_w_ordered):=
 fn_okW (k:=0) (N:=n_w_ordered) (mb:=mb_w_ordered) T.hK hw F sc_w_ordered fun cdv A outer s H E hr=>
 (mss_cons (ms_ownD 2 sc_w_ordered.nd)
 (mss_cons (ms_for (passes_of rfl) hr.cool (mi_seq (me_bin om_add (me_f (mf_callTy cf_list rfl T.z_list (by decide +kernel) (ma_cons (me_var 0) ma_nil))) (me_f (mf_lst (ma_cons (me_tup (ma_cons me_str (ma_cons (me_var 1) ma_nil))) ma_nil))))) (mg_name 3 sc_w_ordered.nd) (mss_cons (ms_set 4 sc_w_ordered.nd (me_bin om_add (me_f (mf_lc (own:=[("_law_name",9)]) hr.cool sc_w_ordered.nd (mi_seq (me_ix (me_var 3) me_int)) (blkOk_by (N:=n_w_ordered) (sc:=defScope s_w_ordered) (by decide +kernel)) (fun _ _ _ _ _ _=>(mg_name 9 sc_w_ordered.nd)) (fun _ _ _ _ _ _=>mifs_nil) (fun _ _ _ _ _ co15=>(me_dg (units65 (hr.blk co15)) (me_var 2) (me_var 9))))) (me_f (mf_lst (ma_cons (me_f (mf_callTy cf_list rfl T.z_list (by decide +kernel) (ma_cons (me_ix (me_var 3) me_int) ma_nil))) ma_nil)))))
 (mss_cons (ms_set 5 sc_w_ordered.nd (me_f (mf_lst (ma_cons (me_ix (me_var 3) me_int) ma_nil))))
 (mss_cons (ms_for (passes_of rfl) hr.cool (mi_range1 rfl T.z_range (ma_cons me_int ma_nil)) (mg_name 6 sc_w_ordered.nd) (mss_cons (ms_setLc (i:=7) (own:=[("_law_order",10)]) hr.cool sc_w_ordered.nd (mi_seq (me_var 4)) (blkOk_by (N:=n_w_ordered) (sc:=defScope s_w_ordered) (by decide +kernel)) (fun _ _ _ _ _ _=>(mg_name 10 sc_w_ordered.nd)) (fun _ _ _ _ _ _=>(mifs_one (mt_cmp om_gt (me_callB cm_len rfl T.z_len PySem.boot_len (ma_cons (me_var 10) ma_nil)) me_int (nomark _)))) (fun _ _ _ _ _ _=>(me_ix (me_var 10) me_int)) (sw_true rfl rfl rfl (by decide +kernel)))
 (mss_cons (ms_setLc (i:=8) (own:=[("_law_name",9)]) hr.cool sc_w_ordered.nd (mi_seq (me_var 7)) (blkOk_by (N:=n_w_ordered) (sc:=defScope s_w_ordered) (by decide +kernel)) (fun _ _ _ _ _ _=>(mg_name 9 sc_w_ordered.nd)) (fun _ _ _ _ _ co23=>(mifs_one (mt_not (mt_tru (me_callB (cm_any (hr.blk co23).cool) rfl T.z_any (by decide +kernel) (ma_cons (me_f (mf_lc (own:=[("_law_order",10)]) (hr.blk co23).cool sc_w_ordered.nd (mi_seq (me_var 4)) (blkOk_by (by kernel_rfl)) (fun _ _ _ _ _ _=>(mg_name 10 sc_w_ordered.nd)) (fun _ _ _ _ _ _=>mifs_nil) (fun _ _ _ _ _ co21=>(me_cmp (om_in (units65 ((hr.blk co23).blk co21))) (me_var 9) (me_sl (me_var 10) (mp_some me_int) mp_none) (by with_unfolding_all rfl))))) ma_nil)))))) (fun _ _ _ _ _ _=>(me_var 9)) (sw_true rfl rfl rfl (by decide +kernel)))
 (mss_cons (ms_set 5 sc_w_ordered.nd (me_bin om_add (me_var 5) (me_sl (me_var 8) mp_none (mp_some me_int))))
 (mss_one (ms_set 4 sc_w_ordered.nd (me_f (mf_lc (own:=[("_law_order",10)]) hr.cool sc_w_ordered.nd (mi_seq (me_var 4)) (blkOk_by (N:=n_w_ordered) (sc:=defScope s_w_ordered) (by decide +kernel)) (fun _ _ _ _ _ _=>(mg_name 10 sc_w_ordered.nd)) (fun _ _ _ _ _ _=>mifs_nil) (fun _ _ _ _ _ co30=>(me_f (mf_lc (own:=[("_law_name",9)]) (hr.blk co30).cool sc_w_ordered.nd (mi_seq (me_var 10)) (blkOk_by (by kernel_rfl)) (fun _ _ _ _ _ _=>(mg_name 9 sc_w_ordered.nd)) (fun _ _ _ _ _ co26=>(mifs_one (mt_cmp (om_notin (units65 ((hr.blk co30).blk co26))) (me_var 9) (me_var 5) (by with_unfolding_all rfl)))) (fun _ _ _ _ _ _=>(me_var 9)))))))))))))
 (mss_cons (ms_if (mt_tru (me_callB (cm_any hr.cool) rfl T.z_any (by decide +kernel) (ma_cons (me_f (mf_lc (own:=[("_law_order",10)]) hr.cool sc_w_ordered.nd (mi_seq (me_var 4)) (blkOk_by (N:=n_w_ordered) (sc:=defScope s_w_ordered) (by decide +kernel)) (fun _ _ _ _ _ _=>(mg_name 10 sc_w_ordered.nd)) (fun _ _ _ _ _ _=>mifs_nil) (fun _ _ _ _ _ _=>(me_cmp om_gt (me_callB cm_len rfl T.z_len PySem.boot_len (ma_cons (me_var 10) ma_nil)) me_int (nomark _))))) ma_nil))) (mss_one (ms_ret me_non)) mss_nil)
 (mss_one (ms_setK 2 (units65 hr) (me_ix (me_var 3) me_int) (me_var 5))))))))
 (mss_one (ms_ret (me_sl (me_dg (units65 hr) (me_var 2) me_str) (mp_some me_int) mp_none)))))
theorem ok_w_class_list (hw:w=G.w) (T:Txt K mg G) (C_w_ordered:CalW Pg w K mg base G 1 "_law_ordered" 2 mf_w_ordered) {f:Addr} {fd:FuncData} (F:Fun K "_law_class_list" "_law_class_list" s_w_class_list f fd) :
  M3.FnOk Pg w K mg base (CXq Pg w) 2 f fd ["_law_draws","_law_names"] (spM G 2 mf_w_class_list):=
 fn_ok (k:=1) (N:=n_w_class_list) (mb:=mb_w_class_list) T.hK hw F sc_w_class_list fun cdv A outer s H E hr=>
 (mss_cons (ms_own 2 sc_w_class_list.nd (mf_lst ma_nil))
 (mss_cons (ms_for (passes_of rfl) hr.cool (mi_range1 rfl T.z_range (ma_cons (me_callB cm_len rfl T.z_len PySem.boot_len (ma_cons (me_var 1) ma_nil)) ma_nil)) (mg_name 3 sc_w_class_list.nd) (mss_cons (ms_set 4 sc_w_class_list.nd (me_bin om_add (me_f (mf_lst (ma_cons (me_tup ma_nil) ma_nil))) (me_f (mf_lc (own:=[("_law_name",6)]) hr.cool sc_w_class_list.nd (mi_seq (me_sl (me_var 1) mp_none (mp_some (me_var 3)))) (blkOk_by (N:=n_w_class_list) (sc:=defScope s_w_class_list) (by decide +kernel)) (fun _ _ _ _ _ _=>(mg_name 6 sc_w_class_list.nd)) (fun _ _ _ _ _ _=>mifs_nil) (fun _ _ _ _ _ _=>(me_tup (ma_cons (me_var 6) ma_nil)))))))
 (mss_cons (ms_if (mt_cmp (om_eq hr.units) (me_var 3) me_int (nomark _)) (mss_one (ms_set 4 sc_w_class_list.nd (me_bin om_add (me_var 4) (me_f (mf_lst (ma_cons (me_tup (ma_cons (me_ix (me_var 1) me_int) (ma_cons (me_ix (me_var 1) me_int) ma_nil))) (ma_cons (me_tup (ma_cons (me_ix (me_var 1) me_int) (ma_cons (me_ix (me_var 1) me_int) ma_nil))) ma_nil))))))) mss_nil)
 (mss_cons (ms_set 5 sc_w_class_list.nd (me_ix (me_var 4) (me_bin om_mod (me_callTy cm_int rfl T.z_int (by decide +kernel) (ma_cons (me_ix (me_var 0) (me_var 3)) ma_nil)) (me_callB cm_len rfl T.z_len PySem.boot_len (ma_cons (me_var 4) ma_nil)))))
 (mss_cons (ms_if (mt_cmp om_is (me_lend 2 (me_callW C_w_ordered hr (by decide) (M3.takes_of rfl rfl rfl rfl) rfl (ma_cons (me_var 2) (ma_cons (me_var 5) ma_nil)))) me_non (nomark _)) (mss_one (ms_set 5 sc_w_class_list.nd (me_tup ma_nil))) mss_nil)
 (mss_one (ms_app 2 (me_tup (ma_cons (me_ix (me_var 1) (me_var 3)) (ma_cons (me_var 5) ma_nil))))))))))
 (mss_one (ms_retO 2))))
theorem ok_is_word (hw:w=G.w) (T:Txt K mg G) {f:Addr} {fd:FuncData} (F:Fun K "is_word" "is_word" s_is_word f fd) :
  M3.FnOk Pg w K mg base (CXq Pg w) 1 f fd ["text"] (spM G 1 mf_is_word):=
 fn_ok (k:=0) (N:=n_is_word) (mb:=mb_is_word) T.hK hw F sc_is_word fun cdv A outer s H E hr=>
 (mss_cons (ms_if (mt_not (mt_tru (me_callB cm_isi2 rfl T.z_isinstance (by decide +kernel) (ma_cons (me_var 0) (ma_cons (me_ty rfl T.z_str (by decide +kernel)) ma_nil))))) (mss_one (ms_ret me_bl)) mss_nil)
 (mss_one (ms_ret (me_and (me_chain om_le om_le me_int (me_callB cm_len rfl T.z_len PySem.boot_len (ma_cons (me_var 0) ma_nil)) me_int) (me_one (me_callB (cm_all hr.cool) rfl T.z_all (by decide +kernel) (ma_cons (me_f (mf_lc (own:=[("sign",1)]) hr.cool sc_is_word.nd (mi_seq (me_var 0)) (blkOk_by (N:=n_is_word) (sc:=defScope s_is_word) (by decide +kernel)) (fun _ _ _ _ _ _=>(mg_name 1 sc_is_word.nd)) (fun _ _ _ _ _ _=>mifs_nil) (fun _ _ _ _ _ co45=>(me_cmp (om_in (units65 (hr.blk co45))) (me_var 1) (me_gstr rfl T.g_LETTERS) (by with_unfolding_all rfl))))) ma_nil)))))))
theorem ok_good_names (hw:w=G.w) (T:Txt K mg G) (C_is_word:Cal Pg w K mg base G 1 "is_word" 1 mf_is_word) {f:Addr} {fd:FuncData} (F:Fun K "good_names" "good_names" s_good_names f fd) :
  M3.FnOk Pg w K mg base (CXq Pg w) 2 f fd ["names","least","most"] (spM G 3 mf_good_names):=
 fn_ok (k:=1) (N:=n_good_names) (mb:=mb_good_names) T.hK hw F sc_good_names fun cdv A outer s H E hr=>
 (mss_cons (ms_if (mt_w (mw_or (mt_not (mt_tru (me_callB cm_isi2 rfl T.z_isinstance (by decide +kernel) (ma_cons (me_var 0) (ma_cons (me_ty rfl T.z_list (by decide +kernel)) ma_nil))))) (mw_or1 (mt_not (mt_chain om_le om_le (me_var 1) (me_callB cm_len rfl T.z_len PySem.boot_len (ma_cons (me_var 0) ma_nil)) (me_var 2)))))) (mss_one (ms_ret me_bl)) mss_nil)
 (mss_cons (ms_if (mt_not (mt_tru (me_callB (cm_all hr.cool) rfl T.z_all (by decide +kernel) (ma_cons (me_f (mf_lc (own:=[("name",3)]) hr.cool sc_good_names.nd (mi_seq (me_var 0)) (blkOk_by (N:=n_good_names) (sc:=defScope s_good_names) (by decide +kernel)) (fun _ _ _ _ _ _=>(mg_name 3 sc_good_names.nd)) (fun _ _ _ _ _ _=>mifs_nil) (fun _ _ _ _ _ co48=>(me_call C_is_word (hr.blk co48) (by decide) M3.takes0 rfl (ma_cons (me_var 3) ma_nil))))) ma_nil)))) (mss_one (ms_ret me_bl)) mss_nil)
 (mss_one (ms_ret (me_cmp (om_eq hr.units) (me_lenSet hr.cool rfl T.z_len rfl T.z_set (me_var 0)) (me_callB cm_len rfl T.z_len PySem.boot_len (ma_cons (me_var 0) ma_nil)) (nomark _))))))
theorem ok_are_chosen (hw:w=G.w) (T:Txt K mg G) {f:Addr} {fd:FuncData} (F:Fun K "are_chosen" "are_chosen" s_are_chosen f fd) :
  M3.FnOk Pg w K mg base (CXq Pg w) 1 f fd ["chosen","names"] (spM G 2 mf_are_chosen):=
 fn_ok (k:=0) (N:=n_are_chosen) (mb:=mb_are_chosen) T.hK hw F sc_are_chosen fun cdv A outer s H E hr=>
 (mss_cons (ms_if (mt_not (mt_tru (me_callB cm_isi2 rfl T.z_isinstance (by decide +kernel) (ma_cons (me_var 0) (ma_cons (me_ty rfl T.z_tuple (by decide +kernel)) ma_nil))))) (mss_one (ms_ret me_bl)) mss_nil)
 (mss_one (ms_ret (me_callB (cm_all hr.cool) rfl T.z_all (by decide +kernel) (ma_cons (me_f (mf_lc (own:=[("name",2)]) hr.cool sc_are_chosen.nd (mi_seq (me_var 0)) (blkOk_by (N:=n_are_chosen) (sc:=defScope s_are_chosen) (by decide +kernel)) (fun _ _ _ _ _ _=>(mg_name 2 sc_are_chosen.nd)) (fun _ _ _ _ _ _=>mifs_nil) (fun _ _ _ _ _ co51=>(me_and (me_cmp (om_in (units65 (hr.blk co51))) (me_var 2) (me_var 1) (by with_unfolding_all rfl)) (me_one (me_cmp (om_eq (hr.blk co51).units) (me_cnt (units65 (hr.blk co51)) (me_var 0) (me_var 2)) me_int (nomark _))))))) ma_nil)))))
theorem ok_good_classes (hw:w=G.w) (T:Txt K mg G) (C_good_names:Cal Pg w K mg base G 2 "good_names" 3 mf_good_names) (C_are_chosen:Cal Pg w K mg base G 1 "are_chosen" 2 mf_are_chosen) {f:Addr} {fd:FuncData} (F:Fun K "good_classes" "good_classes" s_good_classes f fd) :
  M3.FnOk Pg w K mg base (CXq Pg w) 3 f fd ["classes"] (spM G 1 mf_good_classes):=
 fn_ok (k:=2) (N:=n_good_classes) (mb:=mb_good_classes) T.hK hw F sc_good_classes fun cdv A outer s H E hr=>
 (mss_cons (ms_if (mt_not (mt_tru (me_callB cm_isi2 rfl T.z_isinstance (by decide +kernel) (ma_cons (me_var 0) (ma_cons (me_ty rfl T.z_list (by decide +kernel)) ma_nil))))) (mss_one (ms_ret me_bl)) mss_nil)
 (mss_cons (ms_if (mt_not (mt_tru (me_callB (cm_all hr.cool) rfl T.z_all (by decide +kernel) (ma_cons (me_f (mf_lc (own:=[("pair",2)]) hr.cool sc_good_classes.nd (mi_seq (me_var 0)) (blkOk_by (N:=n_good_classes) (sc:=defScope s_good_classes) (by decide +kernel)) (fun _ _ _ _ _ _=>(mg_name 2 sc_good_classes.nd)) (fun _ _ _ _ _ _=>mifs_nil) (fun _ _ _ _ _ co39=>(me_and (me_callB cm_isi2 rfl T.z_isinstance (by decide +kernel) (ma_cons (me_var 2) (ma_cons (me_ty rfl T.z_tuple (by decide +kernel)) ma_nil))) (me_one (me_cmp (om_eq (hr.blk co39).units) (me_callB cm_len rfl T.z_len PySem.boot_len (ma_cons (me_var 2) ma_nil)) me_int (nomark _))))))) ma_nil)))) (mss_one (ms_ret me_bl)) mss_nil)
 (mss_cons (ms_set 1 sc_good_classes.nd (me_f (mf_lc (own:=[("pair",2)]) hr.cool sc_good_classes.nd (mi_seq (me_var 0)) (blkOk_by (N:=n_good_classes) (sc:=defScope s_good_classes) (by decide +kernel)) (fun _ _ _ _ _ _=>(mg_name 2 sc_good_classes.nd)) (fun _ _ _ _ _ _=>mifs_nil) (fun _ _ _ _ _ _=>(me_ix (me_var 2) me_int)))))
 (mss_cons (ms_if (mt_not (mt_tru (me_call C_good_names hr (by decide) (M3.takes_of rfl rfl rfl rfl) rfl (ma_cons (me_var 1) (ma_cons me_int (ma_cons me_int ma_nil)))))) (mss_one (ms_ret me_bl)) mss_nil)
 (mss_one (ms_ret (me_callB (cm_all hr.cool) rfl T.z_all (by decide +kernel) (ma_cons (me_f (mf_lc (own:=[("at",3)]) hr.cool sc_good_classes.nd (mi_range1 rfl T.z_range (ma_cons (me_callB cm_len rfl T.z_len PySem.boot_len (ma_cons (me_var 1) ma_nil)) ma_nil)) (blkOk_by (N:=n_good_classes) (sc:=defScope s_good_classes) (by decide +kernel)) (fun _ _ _ _ _ _=>(mg_name 3 sc_good_classes.nd)) (fun _ _ _ _ _ _=>mifs_nil) (fun _ _ _ _ _ co54=>(me_call C_are_chosen (hr.blk co54) (by decide) M3.takes0 rfl (ma_cons (me_ix (me_ix (me_var 0) (me_var 3)) me_int) (ma_cons (me_sl (me_var 1) mp_none (mp_some (me_var 3))) ma_nil)))))) ma_nil))))))))
theorem ok_free_name (hw:w=G.w) (T:Txt K mg G) {f:Addr} {fd:FuncData} (F:Fun K "free_name" "free_name" s_free_name f fd) :
  M3.FnOk Pg w K mg base (CXq Pg w) 1 f fd ["orders"] (spM G 1 mf_free_name):=
 fn_ok (k:=0) (N:=n_free_name) (mb:=mb_free_name) T.hK hw F sc_free_name fun cdv A outer s H E hr=>
 (mss_cons (ms_for (passes_of rfl) hr.cool (mi_seq (me_var 0)) (mg_name 1 sc_free_name.nd) (mss_one (ms_if (mt_not (mt_tru (me_callB (cm_any hr.cool) rfl T.z_any (by decide +kernel) (ma_cons (me_f (mf_lc (own:=[("other",2)]) hr.cool sc_free_name.nd (mi_seq (me_var 0)) (blkOk_by (N:=n_free_name) (sc:=defScope s_free_name) (by decide +kernel)) (fun _ _ _ _ _ _=>(mg_name 2 sc_free_name.nd)) (fun _ _ _ _ _ _=>mifs_nil) (fun _ _ _ _ _ co63=>(me_cmp (om_in (units65 (hr.blk co63))) (me_ix (me_var 1) me_int) (me_sl (me_var 2) (mp_some me_int) mp_none) (by with_unfolding_all rfl))))) ma_nil)))) (mss_one (ms_ret (me_ix (me_var 1) me_int))) mss_nil)))
 (mss_one (ms_raise T.r_NoOrder hr.cool (M3.takes_of rfl rfl rfl rfl) rfl)))
theorem ok_merge_orders (hw:w=G.w) (T:Txt K mg G) (C_free_name:Cal Pg w K mg base G 1 "free_name" 1 mf_free_name) {f:Addr} {fd:FuncData} (F:Fun K "merge_orders" "merge_orders" s_merge_orders f fd) :
  M3.FnOk Pg w K mg base (CXq Pg w) 2 f fd ["orders"] (spM G 1 mf_merge_orders):=
 fn_ok (k:=1) (N:=n_merge_orders) (mb:=mb_merge_orders) T.hK hw F sc_merge_orders fun cdv A outer s H E hr=>
 (mss_cons (ms_setLc (i:=1) (own:=[("order",5)]) hr.cool sc_merge_orders.nd (mi_seq (me_var 0)) (blkOk_by (N:=n_merge_orders) (sc:=defScope s_merge_orders) (by decide +kernel)) (fun _ _ _ _ _ _=>(mg_name 5 sc_merge_orders.nd)) (fun _ _ _ _ _ _=>(mifs_one (mt_cmp om_gt (me_callB cm_len rfl T.z_len PySem.boot_len (ma_cons (me_var 5) ma_nil)) me_int (nomark _)))) (fun _ _ _ _ _ _=>(me_callTy cm_tuple rfl T.z_tuple (by decide +kernel) (ma_cons (me_var 5) ma_nil))) (sw_true rfl rfl rfl (by decide +kernel)))
 (mss_cons (ms_own 2 sc_merge_orders.nd (mf_lst ma_nil))
 (mss_cons (ms_while 1000 (passes_of rfl) (mt_tru (me_var 1)) (mss_cons (ms_set 3 sc_merge_orders.nd (me_call C_free_name hr (by decide) (M3.takes_of rfl rfl rfl rfl) rfl (ma_cons (me_var 1) ma_nil)))
 (mss_cons (ms_app 2 (me_var 3))
 (mss_cons (ms_setLc (i:=4) (own:=[("order",5)]) hr.cool sc_merge_orders.nd (mi_seq (me_var 1)) (blkOk_by (N:=n_merge_orders) (sc:=defScope s_merge_orders) (by decide +kernel)) (fun _ _ _ _ _ _=>(mg_name 5 sc_merge_orders.nd)) (fun _ _ _ _ _ _=>mifs_nil) (fun _ _ _ _ _ co69=>(me_callTy cm_tuple rfl T.z_tuple (by decide +kernel) (ma_cons (me_f (mf_lc (own:=[("other",6)]) (hr.blk co69).cool sc_merge_orders.nd (mi_seq (me_var 5)) (blkOk_by (by kernel_rfl)) (fun _ _ _ _ _ _=>(mg_name 6 sc_merge_orders.nd)) (fun _ _ _ _ _ co65=>(mifs_one (mt_cmp (om_ne ((hr.blk co69).blk co65).units) (me_var 6) (me_var 3) (nomark _)))) (fun _ _ _ _ _ _=>(me_var 6)))) ma_nil))) (sw_true rfl rfl rfl (by decide +kernel)))
 (mss_one (ms_setLc (i:=1) (own:=[("order",5)]) hr.cool sc_merge_orders.nd (mi_seq (me_var 4)) (blkOk_by (N:=n_merge_orders) (sc:=defScope s_merge_orders) (by decide +kernel)) (fun _ _ _ _ _ _=>(mg_name 5 sc_merge_orders.nd)) (fun _ _ _ _ _ _=>(mifs_one (mt_cmp om_gt (me_callB cm_len rfl T.z_len PySem.boot_len (ma_cons (me_var 5) ma_nil)) me_int (nomark _)))) (fun _ _ _ _ _ _=>(me_var 5)) (sw_true rfl rfl rfl (by decide +kernel))))))))
 (mss_one (ms_ret (me_callTy cm_tuple rfl T.z_tuple (by decide +kernel) (ma_cons (me_var 2) ma_nil)))))))
theorem ok_class_orders (hw:w=G.w) (T:Txt K mg G) (C_merge_orders:Cal Pg w K mg base G 2 "merge_orders" 1 mf_merge_orders) {f:Addr} {fd:FuncData} (F:Fun K "class_orders" "class_orders" s_class_orders f fd) :
  M3.FnOk Pg w K mg base (CXq Pg w) 3 f fd ["classes"] (spM G 1 mf_class_orders):=
 fn_ok (k:=2) (N:=n_class_orders) (mb:=mb_class_orders) T.hK hw F sc_class_orders fun cdv A outer s H E hr=>
 (mss_cons (ms_ownD 1 sc_class_orders.nd)
 (mss_cons (ms_for (passes_of rfl) hr.cool (mi_seq (me_var 0)) (mg_tup hr.cool (mgs_cons (mg_name 2 sc_class_orders.nd) (mgs_cons (mg_name 3 sc_class_orders.nd) mgs_nil))) (mss_cons (ms_setLc (i:=4) (own:=[("base",5)]) hr.cool sc_class_orders.nd (mi_seq (me_var 3)) (blkOk_by (N:=n_class_orders) (sc:=defScope s_class_orders) (by decide +kernel)) (fun _ _ _ _ _ _=>(mg_name 5 sc_class_orders.nd)) (fun _ _ _ _ _ _=>mifs_nil) (fun _ _ _ _ _ co57=>(me_dg (units65 (hr.blk co57)) (me_var 1) (me_var 5))) (sw_true rfl rfl rfl (by decide +kernel)))
 (mss_one (ms_setK 1 (units65 hr) (me_var 2) (me_bin om_add (me_tup (ma_cons (me_var 2) ma_nil)) (me_call C_merge_orders hr (by decide) (M3.takes_of rfl rfl rfl rfl) rfl (ma_cons (me_bin om_add (me_var 4) (me_f (mf_lst (ma_cons (me_var 3) ma_nil)))) ma_nil)))))))
 (mss_one (ms_retD 1))))
theorem ok_bad_part (hw:w=G.w) (T:Txt K mg G) (C_good_names:Cal Pg w K mg base G 2 "good_names" 3 mf_good_names) (C_are_chosen:Cal Pg w K mg base G 1 "are_chosen" 2 mf_are_chosen) {f:Addr} {fd:FuncData} (F:Fun K "bad_part" "bad_part" s_bad_part f fd) :
  M3.FnOk Pg w K mg base (CXq Pg w) 3 f fd ["methods","layers","inner","running","stored"] (spM G 5 mf_bad_part):=
 fn_ok (k:=2) (N:=n_bad_part) (mb:=mb_bad_part) T.hK hw F sc_bad_part fun cdv A outer s H E hr=>
 (mss_cons (ms_if (mt_not (mt_tru (me_call C_good_names hr (by decide) (M3.takes_of rfl rfl rfl rfl) rfl (ma_cons (me_var 0) (ma_cons me_int (ma_cons me_int ma_nil)))))) (mss_one (ms_ret me_str)) mss_nil)
 (mss_cons (ms_if (mt_not (mt_tru (me_call C_good_names hr (by decide) (M3.takes_of rfl rfl rfl rfl) rfl (ma_cons (me_var 1) (ma_cons me_int (ma_cons me_int ma_nil)))))) (mss_one (ms_ret me_str)) mss_nil)
 (mss_cons (ms_if (mt_not (mt_tru (me_call C_are_chosen hr (by decide) (M3.takes_of rfl rfl rfl rfl) rfl (ma_cons (me_var 2) (ma_cons (me_var 1) ma_nil))))) (mss_one (ms_ret me_str)) mss_nil)
 (mss_cons (ms_if (mt_cmp (om_notin (units65 hr)) (me_var 3) (me_tup (ma_cons me_str (ma_cons me_str ma_nil))) (by with_unfolding_all rfl)) (mss_one (ms_ret me_str)) mss_nil)
 (mss_cons (ms_if (mt_cmp (om_notin (units65 hr)) (me_var 4) (me_tup (ma_cons me_str (ma_cons me_str ma_nil))) (by with_unfolding_all rfl)) (mss_one (ms_ret me_str)) mss_nil)
 (mss_one (ms_ret me_non)))))))
theorem ok_good_row (hw:w=G.w) (T:Txt K mg G) (C_is_word:Cal Pg w K mg base G 1 "is_word" 1 mf_is_word) {f:Addr} {fd:FuncData} (F:Fun K "good_row" "good_row" s_good_row f fd) :
  M3.FnOk Pg w K mg base (CXq Pg w) 2 f fd ["row","layers","methods"] (spM G 3 mf_good_row):=
 fn_ok (k:=1) (N:=n_good_row) (mb:=mb_good_row) T.hK hw F sc_good_row fun cdv A outer s H E hr=>
 (mss_cons (ms_if (mt_not (mt_tru (me_callB cm_isi2 rfl T.z_isinstance (by decide +kernel) (ma_cons (me_var 0) (ma_cons (me_ty rfl T.z_str (by decide +kernel)) ma_nil))))) (mss_one (ms_ret me_bl)) mss_nil)
 (mss_cons (ms_if (mt_cmp (om_in (units65 hr)) (me_var 0) (me_gtup rfl T.g_BARE_ROWS) (by with_unfolding_all rfl)) (mss_one (ms_ret me_bl)) mss_nil)
 (mss_cons (ms_set 3 sc_good_row.nd (me_m1 PySem.F.slot_str_split PySem.F.type_str_split mt_split3 (me_var 0) me_str))
 (mss_cons (ms_if (mt_cmp (om_ne hr.units) (me_callB cm_len rfl T.z_len PySem.boot_len (ma_cons (me_var 3) ma_nil)) me_int (nomark _)) (mss_one (ms_ret me_bl)) mss_nil)
 (mss_cons (ms_if (mt_cmp (om_in (units65 hr)) (me_ix (me_var 3) me_int) (me_tup (ma_cons me_str (ma_cons me_str ma_nil))) (by with_unfolding_all rfl)) (mss_one (ms_ret (me_call C_is_word hr (by decide) (M3.takes_of rfl rfl rfl rfl) rfl (ma_cons (me_ix (me_var 3) me_int) ma_nil)))) mss_nil)
 (mss_cons (ms_if (mt_cmp (om_in (units65 hr)) (me_ix (me_var 3) me_int) (me_tup (ma_cons me_str (ma_cons me_str ma_nil))) (by with_unfolding_all rfl)) (mss_one (ms_ret (me_cmp (om_in (units65 hr)) (me_ix (me_var 3) me_int) (me_var 1) (by with_unfolding_all rfl)))) mss_nil)
 (mss_one (ms_ret (me_and (me_cmp (om_in (units65 hr)) (me_ix (me_var 3) me_int) (me_tup (ma_cons me_str (ma_cons me_str ma_nil))) (by with_unfolding_all rfl)) (me_one (me_cmp (om_in (units65 hr)) (me_ix (me_var 3) me_int) (me_var 2) (by with_unfolding_all rfl))))))))))))
theorem ok_switches (hw:w=G.w) (T:Txt K mg G) {f:Addr} {fd:FuncData} (F:Fun K "switches" "switches" s_switches f fd) :
  M3.FnOk Pg w K mg base (CXq Pg w) 1 f fd ["row"] (spM G 1 mf_switches):=
 fn_ok (k:=0) (N:=n_switches) (mb:=mb_switches) T.hK hw F sc_switches fun cdv A outer s H E hr=>
 (mss_one (ms_ret (me_or (me_m1 PySem.F.slot_str_startswith PySem.F.type_str_startswith mt_starts3 (me_var 0) me_str) (me_one (me_m1 PySem.F.slot_str_startswith PySem.F.type_str_startswith mt_starts3 (me_var 0) me_str)))))
theorem ok_well_nested (hw:w=G.w) (T:Txt K mg G) (C_switches:Cal Pg w K mg base G 1 "switches" 1 mf_switches) {f:Addr} {fd:FuncData} (F:Fun K "well_nested" "well_nested" s_well_nested f fd) :
  M3.FnOk Pg w K mg base (CXq Pg w) 2 f fd ["rows"] (spM G 1 mf_well_nested):=
 fn_ok (k:=1) (N:=n_well_nested) (mb:=mb_well_nested) T.hK hw F sc_well_nested fun cdv A outer s H E hr=>
 (mss_cons (ms_own 1 sc_well_nested.nd (mf_lst ma_nil))
 (mss_cons (ms_for (passes_of rfl) hr.cool (mi_seq (me_var 0)) (mg_name 2 sc_well_nested.nd) (mss_one (ms_if (mt_w (mw_or (mt_cmp (om_eq hr.units) (me_var 2) me_str (nomark _)) (mw_or1 (mt_tru (me_call C_switches hr (by decide) (M3.takes_of rfl rfl rfl rfl) rfl (ma_cons (me_var 2) ma_nil)))))) (mss_cons (ms_app 1 (me_var 2))
 (mss_one (ms_if (mt_cmp om_gt (me_callB cm_len rfl T.z_len PySem.boot_len (ma_cons (me_var 1) ma_nil)) (me_gint rfl T.g_MOST_BLOCKS) (nomark _)) (mss_one (ms_ret me_bl)) mss_nil))) (mss_one (ms_if (mt_cmp (om_eq hr.units) (me_var 2) me_str (nomark _)) (mss_cons (ms_if (mt_w (mw_or (mt_cmp (om_eq hr.units) (me_callB cm_len rfl T.z_len PySem.boot_len (ma_cons (me_var 1) ma_nil)) me_int (nomark _)) (mw_or1 (mt_cmp (om_ne hr.units) (me_ix (me_var 1) (me_neg me_int)) me_str (nomark _))))) (mss_one (ms_ret me_bl)) mss_nil)
 (mss_one (ms_setI 1 (me_neg me_int) me_str))) (mss_one (ms_if (mt_cmp (om_eq hr.units) (me_var 2) me_str (nomark _)) (mss_cons (ms_if (mt_cmp (om_eq hr.units) (me_callB cm_len rfl T.z_len PySem.boot_len (ma_cons (me_var 1) ma_nil)) me_int (nomark _)) (mss_one (ms_ret me_bl)) mss_nil)
 (mss_one (ms_pop 1))) mss_nil)))))))
 (mss_one (ms_ret (me_cmp (om_eq hr.units) (me_callB cm_len rfl T.z_len PySem.boot_len (ma_cons (me_var 1) ma_nil)) me_int (nomark _))))))
theorem ok_good_body (hw:w=G.w) (T:Txt K mg G) (C_good_row:Cal Pg w K mg base G 2 "good_row" 3 mf_good_row) (C_well_nested:Cal Pg w K mg base G 2 "well_nested" 1 mf_well_nested) {f:Addr} {fd:FuncData} (F:Fun K "good_body" "good_body" s_good_body f fd) :
  M3.FnOk Pg w K mg base (CXq Pg w) 3 f fd ["rows","layers","methods"] (spM G 3 mf_good_body):=
 fn_ok (k:=2) (N:=n_good_body) (mb:=mb_good_body) T.hK hw F sc_good_body fun cdv A outer s H E hr=>
 (mss_cons (ms_if (mt_not (mt_tru (me_callB cm_isi2 rfl T.z_isinstance (by decide +kernel) (ma_cons (me_var 0) (ma_cons (me_ty rfl T.z_tuple (by decide +kernel)) ma_nil))))) (mss_one (ms_ret me_bl)) mss_nil)
 (mss_cons (ms_if (mt_w (mw_or (mt_cmp om_gt (me_callB cm_len rfl T.z_len PySem.boot_len (ma_cons (me_var 0) ma_nil)) (me_gint rfl T.g_MOST_ROWS) (nomark _)) (mw_or1 (mt_cmp om_gt (me_cnt (units65 hr) (me_var 0) me_str) me_int (nomark _))))) (mss_one (ms_ret me_bl)) mss_nil)
 (mss_cons (ms_if (mt_not (mt_tru (me_callB (cm_all hr.cool) rfl T.z_all (by decide +kernel) (ma_cons (me_f (mf_lc (own:=[("row",3)]) hr.cool sc_good_body.nd (mi_seq (me_var 0)) (blkOk_by (N:=n_good_body) (sc:=defScope s_good_body) (by decide +kernel)) (fun _ _ _ _ _ _=>(mg_name 3 sc_good_body.nd)) (fun _ _ _ _ _ _=>mifs_nil) (fun _ _ _ _ _ co75=>(me_call C_good_row (hr.blk co75) (by decide) M3.takes0 rfl (ma_cons (me_var 3) (ma_cons (me_var 1) (ma_cons (me_var 2) ma_nil))))))) ma_nil)))) (mss_one (ms_ret me_bl)) mss_nil)
 (mss_one (ms_ret (me_call C_well_nested hr (by decide) (M3.takes_of rfl rfl rfl rfl) rfl (ma_cons (me_var 0) ma_nil)))))))
theorem ok_good_bodies (hw:w=G.w) (T:Txt K mg G) (C_good_body:Cal Pg w K mg base G 3 "good_body" 3 mf_good_body) {f:Addr} {fd:FuncData} (F:Fun K "good_bodies" "good_bodies" s_good_bodies f fd) :
  M3.FnOk Pg w K mg base (CXq Pg w) 4 f fd ["bodies","names","layers","methods"] (spM G 4 mf_good_bodies):=
 fn_ok (k:=3) (N:=n_good_bodies) (mb:=mb_good_bodies) T.hK hw F sc_good_bodies fun cdv A outer s H E hr=>
 (mss_cons (ms_if (mt_not (mt_tru (me_callB cm_isi2 rfl T.z_isinstance (by decide +kernel) (ma_cons (me_var 0) (ma_cons (me_ty rfl T.z_dict (by decide +kernel)) ma_nil))))) (mss_one (ms_ret me_bl)) mss_nil)
 (mss_cons (ms_for (passes_of rfl) hr.cool (mi_keysDD (me_var 0)) (mg_name 4 sc_good_bodies.nd) (mss_cons (ms_if (mt_w (mw_or (mt_not (mt_tru (me_callB cm_isi2 rfl T.z_isinstance (by decide +kernel) (ma_cons (me_var 4) (ma_cons (me_ty rfl T.z_tuple (by decide +kernel)) ma_nil))))) (mw_or1 (mt_cmp (om_ne hr.units) (me_callB cm_len rfl T.z_len PySem.boot_len (ma_cons (me_var 4) ma_nil)) me_int (nomark _))))) (mss_one (ms_ret me_bl)) mss_nil)
 (mss_cons (ms_if (mt_w (mw_and (mt_cmp (om_ne hr.units) (me_ix (me_var 4) me_int) me_str (nomark _)) (mw_and1 (mt_cmp (om_notin (units65 hr)) (me_ix (me_var 4) me_int) (me_var 2) (by with_unfolding_all rfl))))) (mss_one (ms_ret me_bl)) mss_nil)
 (mss_cons (ms_if (mt_w (mw_or (mt_cmp (om_notin (units65 hr)) (me_ix (me_var 4) me_int) (me_var 1) (by with_unfolding_all rfl)) (mw_or1 (mt_cmp (om_notin (units65 hr)) (me_ix (me_var 4) me_int) (me_var 3) (by with_unfolding_all rfl))))) (mss_one (ms_ret me_bl)) mss_nil)
 (mss_one (ms_if (mt_not (mt_tru (me_call C_good_body hr (by decide) (M3.takes_of rfl rfl rfl rfl) rfl (ma_cons (me_getDD (units65 hr) (me_var 0) (me_var 4)) (ma_cons (me_var 2) (ma_cons (me_var 3) ma_nil)))))) (mss_one (ms_ret me_bl)) mss_nil))))))
 (mss_one (ms_ret me_bl))))
theorem ok_Book_initX_s (hw:w=G.w) (T:Txt K mg G) (C_good_classes:Cal Pg w K mg base G 3 "good_classes" 1 mf_good_classes) (XC_BadBook:XcOk Pg w K mg base G 1 "BadBook" "BadBook") (C_class_orders:Cal Pg w K mg base G 3 "class_orders" 1 mf_class_orders) (C_bad_part:Cal Pg w K mg base G 3 "bad_part" 5 mf_bad_part) (C_good_bodies:Cal Pg w K mg base G 4 "good_bodies" 4 mf_good_bodies) {dvs:List V} {kws:List (Str×V)} {f:Addr} {fd:FuncData} (F:FunD K "__init__" "Book.__init__" (defArgs s_Book_initX_s) (defBody s_Book_initX_s) (defScope s_Book_initX_s) dvs kws f fd) :
  M3.FnOk Pg w K mg base (CXq Pg w) 5 f fd ["self","classes","methods","layers","bodies","inner","running","stored"] (spM G 8 mf_Book_initX_s):=
 fn_okD (k:=4) (N:=n_Book_initX_s) (mb:=mb_Book_initX_s) T.hK hw F sc_Book_initX_s fun cdv A outer s H E hr=>
 (mss_cons (ms_if (mt_not (mt_tru (me_call C_good_classes hr (by decide) (M3.takes_of rfl rfl rfl rfl) rfl (ma_cons (me_var 1) ma_nil)))) (mss_one (ms_raiseX XC_BadBook hr (by decide) hr.cool (M3.takes_of rfl rfl rfl rfl) rfl (ma_cons me_str ma_nil))) mss_nil)
 (mss_cons (ms_try0 (mss_one (ms_fld T.f_orders (me_var 0) (me_call C_class_orders hr (by decide) M3.takes0 rfl (ma_cons (me_var 1) ma_nil)))))
 (mss_cons (ms_set 9 sc_Book_initX_s.nd (me_call C_bad_part hr (by decide) (M3.takes_of rfl rfl rfl rfl) rfl (ma_cons (me_var 2) (ma_cons (me_var 3) (ma_cons (me_var 5) (ma_cons (me_var 6) (ma_cons (me_var 7) ma_nil)))))))
 (mss_cons (ms_if (mt_cmp om_isnot (me_var 9) me_non (nomark _)) (mss_one (ms_raiseX XC_BadBook hr (by decide) hr.cool (M3.takes_of rfl rfl rfl rfl) rfl (ma_cons (me_var 9) ma_nil))) mss_nil)
 (mss_cons (ms_if (mt_not (mt_tru (me_lendD 4 T.nz (me_call C_good_bodies hr (by decide) (M3.takes_of rfl rfl rfl rfl) rfl (ma_cons (me_var 4) (ma_cons (me_f (mf_lc (own:=[("pair",12)]) hr.cool sc_Book_initX_s.nd (mi_seq (me_var 1)) (blkOk_by (N:=n_Book_initX_s) (sc:=defScope s_Book_initX_s) (by decide +kernel)) (fun _ _ _ _ _ _=>(mg_name 12 sc_Book_initX_s.nd)) (fun _ _ _ _ _ _=>mifs_nil) (fun _ _ _ _ _ _=>(me_ix (me_var 12) me_int)))) (ma_cons (me_var 3) (ma_cons (me_var 2) ma_nil)))))))) (mss_one (ms_raiseX XC_BadBook hr (by decide) hr.cool (M3.takes_of rfl rfl rfl rfl) rfl (ma_cons me_str ma_nil))) mss_nil)
 (mss_cons (ms_fld T.f_class_pairs (me_var 0) (me_callTy cm_tuple rfl T.z_tuple (by decide +kernel) (ma_cons (me_var 1) ma_nil)))
 (mss_cons (ms_fld T.f_method_names (me_var 0) (me_callTy cm_tuple rfl T.z_tuple (by decide +kernel) (ma_cons (me_var 2) ma_nil)))
 (mss_cons (ms_fld T.f_layer_names (me_var 0) (me_callTy cm_tuple rfl T.z_tuple (by decide +kernel) (ma_cons (me_var 3) ma_nil)))
 (mss_cons (ms_fld T.f_inner_names (me_var 0) (me_callTy cm_tuple rfl T.z_tuple (by decide +kernel) (ma_cons (me_f (mf_lc (own:=[("name",11)]) hr.cool sc_Book_initX_s.nd (mi_seq (me_var 3)) (blkOk_by (N:=n_Book_initX_s) (sc:=defScope s_Book_initX_s) (by decide +kernel)) (fun _ _ _ _ _ _=>(mg_name 11 sc_Book_initX_s.nd)) (fun _ _ _ _ _ co80=>(mifs_one (mt_cmp (om_in (units65 (hr.blk co80))) (me_var 11) (me_var 5) (by with_unfolding_all rfl)))) (fun _ _ _ _ _ _=>(me_var 11)))) ma_nil)))
 (mss_cons (ms_fld T.f_rules (me_var 0) (me_tup (ma_cons (me_var 6) (ma_cons (me_var 7) ma_nil))))
 (mss_cons (ms_fld T.f_known (me_var 0) me_newDD)
 (mss_one (ms_fld T.f_texts (me_var 0) (me_lockS _ T.nz (me_dc (units65 hr) (own:=[("key",10)]) hr.cool sc_Book_initX_s.nd (mi_keysS (me_var 4)) (blkOk_by (N:=n_Book_initX_s) (sc:=defScope s_Book_initX_s) (by decide +kernel)) (fun _ _ _ _ _ _=>(mg_name 10 sc_Book_initX_s.nd)) (fun _ _ _ _ _ _=>mifs_nil) (fun _ _ _ _ _ _=>(me_var 10)) (fun _ _ _ _ _ co85=>(me_callTy cm_tuple rfl T.z_tuple (by decide +kernel) (ma_cons (me_getDD (units65 (hr.blk co85)) (me_var 4) (me_var 10)) ma_nil))))))))))))))))))
theorem ok_Book_initX (hw:w=G.w) (T:Txt K mg G) (C_good_classes:Cal Pg w K mg base G 3 "good_classes" 1 mf_good_classes) (XC_BadBook:XcOk Pg w K mg base G 1 "BadBook" "BadBook") (C_class_orders:Cal Pg w K mg base G 3 "class_orders" 1 mf_class_orders) (C_bad_part:Cal Pg w K mg base G 3 "bad_part" 5 mf_bad_part) (C_good_bodies:Cal Pg w K mg base G 4 "good_bodies" 4 mf_good_bodies) {dvs:List V} {kws:List (Str×V)} {f:Addr} {fd:FuncData} (F:FunD K "__init__" "Book.__init__" (defArgs s_Book_initX) (defBody s_Book_initX) (defScope s_Book_initX) dvs kws f fd) :
  M3.FnOk Pg w K mg base (CXq Pg w) 5 f fd ["self","classes","methods","layers","bodies","inner","running","stored"] (spM G 8 mf_Book_initX):=
 fn_okD (k:=4) (N:=n_Book_initX) (mb:=mb_Book_initX) T.hK hw F sc_Book_initX fun cdv A outer s H E hr=>
 (mss_cons (ms_if (mt_not (mt_tru (me_call C_good_classes hr (by decide) (M3.takes_of rfl rfl rfl rfl) rfl (ma_cons (me_var 1) ma_nil)))) (mss_one (ms_raiseX XC_BadBook hr (by decide) hr.cool (M3.takes_of rfl rfl rfl rfl) rfl (ma_cons me_str ma_nil))) mss_nil)
 (mss_cons (ms_try0 (mss_one (ms_fld T.f_orders (me_var 0) (me_call C_class_orders hr (by decide) M3.takes0 rfl (ma_cons (me_var 1) ma_nil)))))
 (mss_cons (ms_set 9 sc_Book_initX.nd (me_call C_bad_part hr (by decide) (M3.takes_of rfl rfl rfl rfl) rfl (ma_cons (me_var 2) (ma_cons (me_var 3) (ma_cons (me_var 5) (ma_cons (me_var 6) (ma_cons (me_var 7) ma_nil)))))))
 (mss_cons (ms_if (mt_cmp om_isnot (me_var 9) me_non (nomark _)) (mss_one (ms_raiseX XC_BadBook hr (by decide) hr.cool (M3.takes_of rfl rfl rfl rfl) rfl (ma_cons (me_var 9) ma_nil))) mss_nil)
 (mss_cons (ms_if (mt_not (mt_tru (me_call C_good_bodies hr (by decide) (M3.takes_of rfl rfl rfl rfl) rfl (ma_cons (me_var 4) (ma_cons (me_f (mf_lc (own:=[("pair",12)]) hr.cool sc_Book_initX.nd (mi_seq (me_var 1)) (blkOk_by (N:=n_Book_initX) (sc:=defScope s_Book_initX) (by decide +kernel)) (fun _ _ _ _ _ _=>(mg_name 12 sc_Book_initX.nd)) (fun _ _ _ _ _ _=>mifs_nil) (fun _ _ _ _ _ _=>(me_ix (me_var 12) me_int)))) (ma_cons (me_var 3) (ma_cons (me_var 2) ma_nil))))))) (mss_one (ms_raiseX XC_BadBook hr (by decide) hr.cool (M3.takes_of rfl rfl rfl rfl) rfl (ma_cons me_str ma_nil))) mss_nil)
 (mss_cons (ms_fld T.f_class_pairs (me_var 0) (me_callTy cm_tuple rfl T.z_tuple (by decide +kernel) (ma_cons (me_var 1) ma_nil)))
 (mss_cons (ms_fld T.f_method_names (me_var 0) (me_callTy cm_tuple rfl T.z_tuple (by decide +kernel) (ma_cons (me_var 2) ma_nil)))
 (mss_cons (ms_fld T.f_layer_names (me_var 0) (me_callTy cm_tuple rfl T.z_tuple (by decide +kernel) (ma_cons (me_var 3) ma_nil)))
 (mss_cons (ms_fld T.f_inner_names (me_var 0) (me_callTy cm_tuple rfl T.z_tuple (by decide +kernel) (ma_cons (me_f (mf_lc (own:=[("name",11)]) hr.cool sc_Book_initX.nd (mi_seq (me_var 3)) (blkOk_by (N:=n_Book_initX) (sc:=defScope s_Book_initX) (by decide +kernel)) (fun _ _ _ _ _ _=>(mg_name 11 sc_Book_initX.nd)) (fun _ _ _ _ _ co90=>(mifs_one (mt_cmp (om_in (units65 (hr.blk co90))) (me_var 11) (me_var 5) (by with_unfolding_all rfl)))) (fun _ _ _ _ _ _=>(me_var 11)))) ma_nil)))
 (mss_cons (ms_fld T.f_rules (me_var 0) (me_tup (ma_cons (me_var 6) (ma_cons (me_var 7) ma_nil))))
 (mss_cons (ms_fld T.f_known (me_var 0) me_newDD)
 (mss_one (ms_fld T.f_texts (me_var 0) (me_dc (units65 hr) (own:=[("key",10)]) hr.cool sc_Book_initX.nd (mi_keysDD (me_var 4)) (blkOk_by (N:=n_Book_initX) (sc:=defScope s_Book_initX) (by decide +kernel)) (fun _ _ _ _ _ _=>(mg_name 10 sc_Book_initX.nd)) (fun _ _ _ _ _ _=>mifs_nil) (fun _ _ _ _ _ _=>(me_var 10)) (fun _ _ _ _ _ co95=>(me_callTy cm_tuple rfl T.z_tuple (by decide +kernel) (ma_cons (me_getDD (units65 (hr.blk co95)) (me_var 4) (me_var 10)) ma_nil)))))))))))))))))
theorem ok_Book_bodies (hw:w=G.w) (T:Txt K mg G) {f:Addr} {fd:FuncData} (F:Fun K "bodies" "Book.bodies" s_Book_bodies f fd) :
  M3.FnOk Pg w K mg base (CXq Pg w) 1 f fd ["self"] (spM G 1 mf_Book_bodies):=
 fn_ok (k:=0) (N:=n_Book_bodies) (mb:=mb_Book_bodies) T.hK hw F sc_Book_bodies fun cdv A outer s H E hr=>
 (mss_one (ms_ret (me_dc (units65 hr) (own:=[("key",1)]) hr.cool sc_Book_bodies.nd (mi_keysDD (me_fld T.f_texts (me_var 0))) (blkOk_by (N:=n_Book_bodies) (sc:=defScope s_Book_bodies) (by decide +kernel)) (fun _ _ _ _ _ _=>(mg_name 1 sc_Book_bodies.nd)) (fun _ _ _ _ _ _=>mifs_nil) (fun _ _ _ _ _ _=>(me_var 1)) (fun _ _ _ _ _ co102=>(me_getDD (units65 (hr.blk co102)) (me_fld T.f_texts (me_var 0)) (me_var 1))))))
theorem ok_Book_stored (hw:w=G.w) (T:Txt K mg G) {f:Addr} {fd:FuncData} (F:Fun K "stored" "Book.stored" s_Book_stored f fd) :
  M3.FnOk Pg w K mg base (CXq Pg w) 1 f fd ["self"] (spM G 1 mf_Book_stored):=
 fn_ok (k:=0) (N:=n_Book_stored) (mb:=mb_Book_stored) T.hK hw F sc_Book_stored fun cdv A outer s H E hr=>
 (mss_one (ms_ret (me_ix (me_fld T.f_rules (me_var 0)) me_int)))
theorem ok_Book_running (hw:w=G.w) (T:Txt K mg G) {f:Addr} {fd:FuncData} (F:Fun K "running" "Book.running" s_Book_running f fd) :
  M3.FnOk Pg w K mg base (CXq Pg w) 1 f fd ["self"] (spM G 1 mf_Book_running):=
 fn_ok (k:=0) (N:=n_Book_running) (mb:=mb_Book_running) T.hK hw F sc_Book_running fun cdv A outer s H E hr=>
 (mss_one (ms_ret (me_ix (me_fld T.f_rules (me_var 0)) me_int)))
theorem ok_Book_shown (hw:w=G.w) (T:Txt K mg G) {f:Addr} {fd:FuncData} (F:Fun K "shown" "Book.shown" s_Book_shown f fd) :
  M3.FnOk Pg w K mg base (CXq Pg w) 1 f fd ["self"] (spM G 1 mf_Book_shown):=
 fn_ok (k:=0) (N:=n_Book_shown) (mb:=mb_Book_shown) T.hK hw F sc_Book_shown fun cdv A outer s H E hr=>
 (mss_one (ms_ret (me_callTy cm_tuple rfl T.z_tuple (by decide +kernel) (ma_cons (me_f (mf_lc (own:=[("name",1)]) hr.cool sc_Book_shown.nd (mi_seq (me_fld T.f_layer_names (me_var 0))) (blkOk_by (N:=n_Book_shown) (sc:=defScope s_Book_shown) (by decide +kernel)) (fun _ _ _ _ _ _=>(mg_name 1 sc_Book_shown.nd)) (fun _ _ _ _ _ co104=>(mifs_one (mt_cmp (om_notin (units65 (hr.blk co104))) (me_var 1) (me_fld T.f_inner_names (me_var 0)) (by with_unfolding_all rfl)))) (fun _ _ _ _ _ _=>(me_var 1)))) ma_nil))))
theorem ok_Book_inner (hw:w=G.w) (T:Txt K mg G) {f:Addr} {fd:FuncData} (F:Fun K "inner" "Book.inner" s_Book_inner f fd) :
  M3.FnOk Pg w K mg base (CXq Pg w) 1 f fd ["self"] (spM G 1 mf_Book_inner):=
 fn_ok (k:=0) (N:=n_Book_inner) (mb:=mb_Book_inner) T.hK hw F sc_Book_inner fun cdv A outer s H E hr=>
 (mss_one (ms_ret (me_fld T.f_inner_names (me_var 0))))
theorem ok_Book_layers (hw:w=G.w) (T:Txt K mg G) {f:Addr} {fd:FuncData} (F:Fun K "layers" "Book.layers" s_Book_layers f fd) :
  M3.FnOk Pg w K mg base (CXq Pg w) 1 f fd ["self"] (spM G 1 mf_Book_layers):=
 fn_ok (k:=0) (N:=n_Book_layers) (mb:=mb_Book_layers) T.hK hw F sc_Book_layers fun cdv A outer s H E hr=>
 (mss_one (ms_ret (me_fld T.f_layer_names (me_var 0))))
theorem ok_Book_methods (hw:w=G.w) (T:Txt K mg G) {f:Addr} {fd:FuncData} (F:Fun K "methods" "Book.methods" s_Book_methods f fd) :
  M3.FnOk Pg w K mg base (CXq Pg w) 1 f fd ["self"] (spM G 1 mf_Book_methods):=
 fn_ok (k:=0) (N:=n_Book_methods) (mb:=mb_Book_methods) T.hK hw F sc_Book_methods fun cdv A outer s H E hr=>
 (mss_one (ms_ret (me_fld T.f_method_names (me_var 0))))
theorem ok_Book_classes (hw:w=G.w) (T:Txt K mg G) {f:Addr} {fd:FuncData} (F:Fun K "classes" "Book.classes" s_Book_classes f fd) :
  M3.FnOk Pg w K mg base (CXq Pg w) 1 f fd ["self"] (spM G 1 mf_Book_classes):=
 fn_ok (k:=0) (N:=n_Book_classes) (mb:=mb_Book_classes) T.hK hw F sc_Book_classes fun cdv A outer s H E hr=>
 (mss_one (ms_ret (me_fld T.f_class_pairs (me_var 0))))
theorem ok_w_parts (hw:w=G.w) (T:Txt K mg G) (P_Book_Book_bodies:PropOk Pg w K mg base G 1 "bodies" "Book" mf_Book_bodies) (P_Book_Book_stored:PropOk Pg w K mg base G 1 "stored" "Book" mf_Book_stored) (P_Book_Book_running:PropOk Pg w K mg base G 1 "running" "Book" mf_Book_running) (P_Book_Book_shown:PropOk Pg w K mg base G 1 "shown" "Book" mf_Book_shown) (P_Book_Book_inner:PropOk Pg w K mg base G 1 "inner" "Book" mf_Book_inner) (P_Book_Book_layers:PropOk Pg w K mg base G 1 "layers" "Book" mf_Book_layers) (P_Book_Book_methods:PropOk Pg w K mg base G 1 "methods" "Book" mf_Book_methods) (P_Book_Book_classes:PropOk Pg w K mg base G 1 "classes" "Book" mf_Book_classes) {f:Addr} {fd:FuncData} (F:Fun K "_law_parts" "_law_parts" s_w_parts f fd) :
  M3.FnOk Pg w K mg base (CXq Pg w) 3 f fd ["_law_book"] (spM G 1 mf_w_parts):=
 fn_ok (k:=2) (N:=n_w_parts) (mb:=mb_w_parts) T.hK hw F sc_w_parts fun cdv A outer s H E hr=>
 (mss_cons (ms_set 1 sc_w_parts.nd (me_f (mf_lst (ma_cons (me_prop P_Book_Book_inner hr (by decide) (me_var 0)) (ma_cons (me_prop P_Book_Book_shown hr (by decide) (me_var 0)) (ma_cons (me_prop P_Book_Book_running hr (by decide) (me_var 0)) (ma_cons (me_prop P_Book_Book_stored hr (by decide) (me_var 0)) (ma_cons (me_prop P_Book_Book_bodies hr (by decide) (me_var 0)) ma_nil))))))))
 (mss_one (ms_ret (me_bin om_add (me_f (mf_lst (ma_cons (me_prop P_Book_Book_classes hr (by decide) (me_var 0)) (ma_cons (me_prop P_Book_Book_methods hr (by decide) (me_var 0)) (ma_cons (me_prop P_Book_Book_layers hr (by decide) (me_var 0)) ma_nil))))) (me_var 1)))))
theorem ok_Book_bodies_s (hw:w=G.w) (T:Txt K mg G) {f:Addr} {fd:FuncData} (F:Fun K "bodies" "Book.bodies" s_Book_bodies_s f fd) :
  M3.FnOk Pg w K mg base (CXq Pg w) 1 f fd ["self"] (spM G 1 mf_Book_bodies_s):=
 fn_ok (k:=0) (N:=n_Book_bodies_s) (mb:=mb_Book_bodies_s) T.hK hw F sc_Book_bodies_s fun cdv A outer s H E hr=>
 (mss_one (ms_ret (me_dcN (units65 hr) (own:=[("key",1)]) hr.cool sc_Book_bodies_s.nd (mi_keysDD (me_fld T.f_texts (me_var 0))) (blkOk_by (N:=n_Book_bodies_s) (sc:=defScope s_Book_bodies_s) (by decide +kernel)) (fun _ _ _ _ _ _=>(mg_name 1 sc_Book_bodies_s.nd)) (fun _ _ _ _ _ _=>mifs_nil) (fun _ _ _ _ _ _=>(me_var 1)) (fun _ _ _ _ _ co109=>(me_getDD (units65 (hr.blk co109)) (me_fld T.f_texts (me_var 0)) (me_var 1))))))
theorem ok_law (hw:w=G.w) (T:Txt K mg G) (C_w_digits:Cal Pg w K mg base G 1 "_law_digits" 3 mf_w_digits) (C_w_cell_at:Cal Pg w K mg base G 1 "_law_cell_at" 2 mf_w_cell_at) (C_w_spelled:Cal Pg w K mg base G 1 "_law_spelled" 2 mf_w_spelled) (C_w_class_list:Cal Pg w K mg base G 2 "_law_class_list" 2 mf_w_class_list) (N_Book_4_inner_running_stored_s:MkOkK Pg w K mg base G 5 "Book" "Book" 4 ["inner","running","stored"] arr_Book_4_inner_running_stored_s 7 mf_Book_initX_s) (N_Book_4:MkOk3 Pg w K mg base G 5 "Book" "Book" 4 [.ctup [],.str "keep",.str "maker"] mf_Book_initX) (C_w_parts:Cal Pg w K mg base G 3 "_law_parts" 1 mf_w_parts) (P_Book_Book_bodies_s:PropOk Pg w K mg base G 1 "bodies" "Book" mf_Book_bodies_s) {f:Addr} {fd:FuncData} (F:Fun K "law" "law" s_law f fd) :
  M3.FnOk Pg w K mg base (CXq Pg w) 7 f fd ["_law_script"] (spM G 1 mf_law):=
 fn_ok (k:=6) (N:=n_law) (mb:=mb_law) T.hK hw F sc_law fun cdv A outer s H E hr=>
 (mss_cons (ms_set 1 sc_law.nd (me_call C_w_digits hr (by decide) (M3.takes_of rfl rfl rfl rfl) rfl (ma_cons (me_call C_w_cell_at hr (by decide) (M3.takes_of rfl rfl rfl rfl) rfl (ma_cons (me_var 0) (ma_cons me_int ma_nil))) (ma_cons me_int (ma_cons me_int ma_nil)))))
 (mss_cons (ms_set 2 sc_law.nd (me_sl (me_call C_w_spelled hr (by decide) (M3.takes_of rfl rfl rfl rfl) rfl (ma_cons (me_ix (me_var 1) me_int) (ma_cons me_int ma_nil))) mp_none (mp_some (me_bin om_mod (me_callTy cm_int rfl T.z_int (by decide +kernel) (ma_cons (me_ix (me_var 1) me_int) ma_nil)) me_int))))
 (mss_cons (ms_set 3 sc_law.nd (me_sl (me_call C_w_spelled hr (by decide) (M3.takes_of rfl rfl rfl rfl) rfl (ma_cons (me_ix (me_var 1) me_int) (ma_cons me_int ma_nil))) mp_none (mp_some (me_bin om_add me_int (me_bin om_mod (me_callTy cm_int rfl T.z_int (by decide +kernel) (ma_cons (me_ix (me_var 1) me_int) ma_nil)) me_int)))))
 (mss_cons (ms_set 4 sc_law.nd (me_call C_w_class_list hr (by decide) (M3.takes_of rfl rfl rfl rfl) rfl (ma_cons (me_sl (me_var 1) (mp_some me_int) (mp_some me_int)) (ma_cons (me_sl (me_call C_w_spelled hr (by decide) (M3.takes_of rfl rfl rfl rfl) rfl (ma_cons (me_ix (me_var 1) me_int) (ma_cons me_int ma_nil))) mp_none (mp_some (me_bin om_add me_int (me_bin om_mod (me_callTy cm_int rfl T.z_int (by decide +kernel) (ma_cons (me_ix (me_var 1) me_int) ma_nil)) me_int)))) ma_nil))))
 (mss_cons (ms_set 5 sc_law.nd (me_f (mf_lc (own:=[("_law_k",17)]) hr.cool sc_law.nd (mi_range1 rfl T.z_range (ma_cons (me_callB cm_len rfl T.z_len PySem.boot_len (ma_cons (me_var 2) ma_nil)) ma_nil)) (blkOk_by (N:=n_law) (sc:=defScope s_law) (by decide +kernel)) (fun _ _ _ _ _ _=>(mg_name 17 sc_law.nd)) (fun _ _ _ _ _ co35=>(mifs_one (mt_cmp (om_eqs (units80 (hr.blk co35))) (me_bin om_mod (me_callTy cm_int rfl T.z_int (by decide +kernel) (ma_cons (me_bin om_div (me_ix (me_var 1) me_int) (me_ix (me_f (mf_lst (ma_cons me_int (ma_cons me_int (ma_cons me_int (ma_cons me_int ma_nil)))))) (me_var 17))) ma_nil)) me_int) me_int (nomark _)))) (fun _ _ _ _ _ _=>(me_ix (me_var 2) (me_var 17))))))
 (mss_cons (ms_set 6 sc_law.nd (me_f (mf_lst (ma_cons (me_ix (me_f (mf_lst (ma_cons me_str (ma_cons me_str ma_nil)))) (me_bin om_mod (me_callTy cm_int rfl T.z_int (by decide +kernel) (ma_cons (me_ix (me_var 1) me_int) ma_nil)) me_int)) (ma_cons (me_ix (me_f (mf_lst (ma_cons me_str (ma_cons me_str ma_nil)))) (me_bin om_mod (me_callTy cm_int rfl T.z_int (by decide +kernel) (ma_cons (me_ix (me_var 1) me_int) ma_nil)) me_int)) ma_nil)))))
 (mss_cons (ms_ownDsD 7 (units65 hr) sc_law.nd (mq_cons (me_tup (ma_cons me_str (ma_cons (me_ix (me_ix (me_var 4) me_int) me_int) (ma_cons (me_ix (me_var 3) me_int) ma_nil)))) (me_tup (ma_cons (me_bin om_add me_str (me_ix (me_var 3) me_int)) ma_nil)) mq_nil))
 (mss_cons (ms_for (passes_of rfl) hr.cool (mi_seq (me_var 2)) (mg_name 8 sc_law.nd) (mss_one (ms_setDD 7 (units65 hr) (me_tup (ma_cons (me_var 8) (ma_cons (me_ix (me_ix (me_var 4) (me_neg me_int)) me_int) (ma_cons (me_ix (me_var 3) (me_neg me_int)) ma_nil)))) (me_sl (me_tup (ma_cons (me_bin om_add me_str (me_var 8)) (ma_cons me_str (ma_cons me_str ma_nil)))) mp_none (mp_some (me_bin om_mul me_int (me_bin om_mod (me_callTy cm_int rfl T.z_int (by decide +kernel) (ma_cons (me_ix (me_var 1) me_int) ma_nil)) me_int)))))))
 (mss_cons (ms_ownDD 9 sc_law.nd)
 (mss_cons (ms_shareDD 7 (ms_lockS _ T.nz (ms_for (passes_of rfl) hr.cool (mi_keysS (me_var 7)) (mg_name 10 sc_law.nd) (mss_one (ms_setDD 9 (units65 hr) (me_var 10) (me_getDD (units65 hr) (me_var 7) (me_var 10)))))))
 (mss_cons (ms_set 11 sc_law.nd (me_f (mf_lst (ma_cons (me_newL (mf_callTy cf_list rfl T.z_list (by decide +kernel) (ma_cons (me_var 4) ma_nil))) (ma_cons (me_newL (mf_callTy cf_list rfl T.z_list (by decide +kernel) (ma_cons (me_var 3) ma_nil))) (ma_cons (me_newL (mf_callTy cf_list rfl T.z_list (by decide +kernel) (ma_cons (me_var 2) ma_nil))) ma_nil))))))
 (mss_cons (ms_set 12 sc_law.nd (me_lend1 0 11 T.nz (me_lend1 1 11 T.nz (me_lend1 2 11 T.nz (me_mkK N_Book_4_inner_running_stored_s hr (by decide) (M3.takes_of rfl rfl rfl rfl) rfl (ma_cons (me_ix (me_var 11) me_int) (ma_cons (me_ix (me_var 11) me_int) (ma_cons (me_ix (me_var 11) me_int) (ma_cons (me_var 7) ma_nil)))) (mk_cons (me_callTy cm_tuple rfl T.z_tuple (by decide +kernel) (ma_cons (me_f (mf_rev (me_var 5))) ma_nil)) (mk_cons (me_ix (me_var 6) me_int) (mk_cons (me_ix (me_var 6) me_int) mk_nil))))))))
 (mss_cons (ms_set 13 sc_law.nd (me_mk3 N_Book_4 hr (by decide) (M3.takes_of rfl rfl rfl rfl) rfl (ma_cons (me_f (mf_callTy cf_list rfl T.z_list (by decide +kernel) (ma_cons (me_var 4) ma_nil))) (ma_cons (me_f (mf_callTy cf_list rfl T.z_list (by decide +kernel) (ma_cons (me_var 3) ma_nil))) (ma_cons (me_f (mf_callTy cf_list rfl T.z_list (by decide +kernel) (ma_cons (me_var 2) ma_nil))) (ma_cons me_dd0 ma_nil))))))
 (mss_cons (ms_drop (me_appS (me_ix (me_var 11) me_int) (me_tup (ma_cons me_str (ma_cons (me_tup ma_nil) ma_nil)))))
 (mss_cons (ms_drop (me_appS (me_ix (me_var 11) me_int) me_str))
 (mss_cons (ms_drop (me_appS (me_ix (me_var 11) me_int) me_str))
 (mss_cons (ms_setDS (units65 hr) (me_var 7) (me_tup (ma_cons me_str (ma_cons (me_ix (me_ix (me_var 4) me_int) me_int) (ma_cons (me_ix (me_var 3) me_int) ma_nil)))) (me_tup (ma_cons me_str ma_nil)))
 (mss_cons (ms_set 14 sc_law.nd (me_callTy cm_tuple rfl T.z_tuple (by decide +kernel) (ma_cons (me_f (mf_lc (own:=[("_law_name",8)]) hr.cool sc_law.nd (mi_seq (me_var 2)) (blkOk_by (N:=n_law) (sc:=defScope s_law) (by decide +kernel)) (fun _ _ _ _ _ _=>(mg_name 8 sc_law.nd)) (fun _ _ _ _ _ co97=>(mifs_one (mt_cmp (om_notin (units65 (hr.blk co97))) (me_var 8) (me_var 5) (by with_unfolding_all rfl)))) (fun _ _ _ _ _ _=>(me_var 8)))) ma_nil)))
 (mss_cons (ms_frzDD 9 (ms_set 15 sc_law.nd (me_f (mf_lst (ma_cons (me_callTy cm_tuple rfl T.z_tuple (by decide +kernel) (ma_cons (me_var 4) ma_nil)) (ma_cons (me_callTy cm_tuple rfl T.z_tuple (by decide +kernel) (ma_cons (me_var 3) ma_nil)) (ma_cons (me_callTy cm_tuple rfl T.z_tuple (by decide +kernel) (ma_cons (me_var 2) ma_nil)) (ma_cons (me_callTy cm_tuple rfl T.z_tuple (by decide +kernel) (ma_cons (me_var 5) ma_nil)) (ma_cons (me_var 14) (ma_cons (me_ix (me_var 6) me_int) (ma_cons (me_ix (me_var 6) me_int) (ma_cons (me_var 9) ma_nil))))))))))))
 (mss_cons (ms_if (mt_cmp (om_nes (units80 hr)) (me_call C_w_parts hr (by decide) (M3.takes_of rfl rfl rfl rfl) rfl (ma_cons (me_var 12) ma_nil)) (me_var 15) (nomark _)) (mss_one (ms_ret me_bl)) mss_nil)
 (mss_cons (ms_set 16 sc_law.nd (me_prop P_Book_Book_bodies_s hr (by decide) (me_var 12)))
 (mss_cons (ms_drop (me_clrDD (me_var 16)))
 (mss_cons (ms_if (mt_cmp (om_nes (units80 hr)) (me_call C_w_parts hr (by decide) (M3.takes_of rfl rfl rfl rfl) rfl (ma_cons (me_var 12) ma_nil)) (me_var 15) (nomark _)) (mss_one (ms_ret me_bl)) mss_nil)
 (mss_one (ms_ret (me_cmp (om_eqs (units80 hr)) (me_call C_w_parts hr (by decide) (M3.takes_of rfl rfl rfl rfl) rfl (ma_cons (me_var 13) ma_nil)) (me_bin om_add (me_sl (me_var 15) mp_none (mp_some me_int)) (me_f (mf_lst (ma_cons (me_tup ma_nil) (ma_cons (me_callTy cm_tuple rfl T.z_tuple (by decide +kernel) (ma_cons (me_var 2) ma_nil)) (ma_cons me_str (ma_cons me_str (ma_cons me_dd0 ma_nil)))))))) (nomark _)))))))))))))))))))))))))))
end
set_option maxHeartbeats 0 in
theorem all_mk {l:PySem.W.OpenLaw} {w:World} {K:PySem.W.Frag} {h:Heap} {mg:Str→Option Value} {fa f0 f1 f2 f3 f4 f5 f6 f7 f8 f9 f10 f11 f12 f13 f14 f15 f16 f17 f18 f19 f20 f21 f22 f23 f24 f25 f26 f27 f28 f29 f30:Addr} (X:K.In h) (G0:h.Ns mainGlobals mg) (hfa:mg "law" = some (.ref fa))
  {CL_BadBook:Addr}
  {CL_NoOrder:Addr}
  {CL_Book:Addr}
  {od0 an0:Option Addr}
  {sl0:Array (Option Value)}
  {oc0 kV0 dc0 pm0 cd0 ct0:Value}
  {od1 an1:Option Addr}
  {sl1:Array (Option Value)}
  {oc1 kV1 dc1 pm1 cd1 ct1:Value}
  {od2 an2:Option Addr}
  {sl2:Array (Option Value)}
  {oc2 kV2 dc2 pm2 cd2 ct2:Value}
  {od3 an3:Option Addr}
  {sl3:Array (Option Value)}
  {oc3 kV3 dc3 pm3 cd3 ct3:Value}
  {od4 an4:Option Addr}
  {sl4:Array (Option Value)}
  {oc4 kV4 dc4 pm4 cd4 ct4:Value}
  {od5 an5:Option Addr}
  {sl5:Array (Option Value)}
  {oc5 kV5 dc5 pm5 cd5 ct5:Value}
  {od6 an6:Option Addr}
  {sl6:Array (Option Value)}
  {oc6 kV6 dc6 pm6 cd6 ct6:Value}
  {od7 an7:Option Addr}
  {sl7:Array (Option Value)}
  {oc7 kV7 dc7 pm7 cd7 ct7:Value}
  {od8 an8:Option Addr}
  {sl8:Array (Option Value)}
  {oc8 kV8 dc8 pm8 cd8 ct8:Value}
  {od9 an9:Option Addr}
  {sl9:Array (Option Value)}
  {oc9 kV9 dc9 pm9 cd9 ct9:Value}
  {od10 an10:Option Addr}
  {sl10:Array (Option Value)}
  {oc10 kV10 dc10 pm10 cd10 ct10:Value}
  {od11 an11:Option Addr}
  {sl11:Array (Option Value)}
  {oc11 kV11 dc11 pm11 cd11 ct11:Value}
  {od12 an12:Option Addr}
  {sl12:Array (Option Value)}
  {oc12 kV12 dc12 pm12 cd12 ct12:Value}
  {od13 an13:Option Addr}
  {sl13:Array (Option Value)}
  {oc13 kV13 dc13 pm13 cd13 ct13:Value}
  {od14 an14:Option Addr}
  {sl14:Array (Option Value)}
  {oc14 kV14 dc14 pm14 cd14 ct14:Value}
  {od15 an15:Option Addr}
  {sl15:Array (Option Value)}
  {oc15 kV15 dc15 pm15 cd15 ct15:Value}
  {od16 an16:Option Addr}
  {sl16:Array (Option Value)}
  {oc16 kV16 dc16 pm16 cd16 ct16:Value}
  {od17 an17:Option Addr}
  {sl17:Array (Option Value)}
  {oc17 kV17 dc17 pm17 cd17 ct17:Value}
  {od18 an18:Option Addr}
  {sl18:Array (Option Value)}
  {oc18 kV18 dc18 pm18 cd18 ct18:Value}
  {od19 an19:Option Addr}
  {sl19:Array (Option Value)}
  {oc19 kV19 dc19 pm19 cd19 ct19:Value}
  {od20 an20:Option Addr}
  {sl20:Array (Option Value)}
  {oc20 kV20 dc20 pm20 cd20 ct20:Value}
  {od21 an21:Option Addr}
  {sl21:Array (Option Value)}
  {oc21 kV21 dc21 pm21 cd21 ct21:Value}
  {od22 an22:Option Addr}
  {sl22:Array (Option Value)}
  {oc22 kV22 dc22 pm22 cd22 ct22:Value}
  {od23 an23:Option Addr}
  {sl23:Array (Option Value)}
  {oc23 kV23 dc23 pm23 cd23 ct23:Value}
  {od24 an24:Option Addr}
  {sl24:Array (Option Value)}
  {oc24 kV24 dc24 pm24 cd24 ct24:Value}
  {od25 an25:Option Addr}
  {sl25:Array (Option Value)}
  {oc25 kV25 dc25 pm25 cd25 ct25:Value}
  {od26 an26:Option Addr}
  {sl26:Array (Option Value)}
  {oc26 kV26 dc26 pm26 cd26 ct26:Value}
  {od27 an27:Option Addr}
  {sl27:Array (Option Value)}
  {oc27 kV27 dc27 pm27 cd27 ct27:Value}
  {od28 an28:Option Addr}
  {sl28:Array (Option Value)}
  {oc28 kV28 dc28 pm28 cd28 ct28:Value}
  {od29 an29:Option Addr}
  {sl29:Array (Option Value)}
  {oc29 kV29 dc29 pm29 cd29 ct29:Value}
  {od30 an30:Option Addr}
  {sl30:Array (Option Value)}
  {oc30 kV30 dc30 pm30 cd30 ct30:Value}
  (n_BadBook:PySem.W.nsIn K mainGlobals "BadBook" = some (some (.ref CL_BadBook)))
  (n_NoOrder:PySem.W.nsIn K mainGlobals "NoOrder" = some (some (.ref CL_NoOrder)))
  (n_Book:PySem.W.nsIn K mainGlobals "Book" = some (some (.ref CL_Book)))
  (cg_Book:PySem.W.plainGet K CL_Book Str.empty=true)
  (ch_Book:PySem.W.hasDictIn K CL_Book=true)
  (cp_Book:PySem.W.plainOver K CL_Book=true)
  (cs_Book:PySem.W.findIn K (.ref CL_Book) "__setattr__" = some (some (.builtin "object.__setattr__")))
  (cm_Book:PySem.W.makesIn K CL_Book=true)
  (ck_Book:PySem.W.keepIn K (.ref CL_Book)=true)
  (na_Book_orders:PySem.W.findIn K (.ref CL_Book) "orders" = some none)
  (na_Book_class_pairs:PySem.W.findIn K (.ref CL_Book) "class_pairs" = some none)
  (na_Book_method_names:PySem.W.findIn K (.ref CL_Book) "method_names" = some none)
  (na_Book_layer_names:PySem.W.findIn K (.ref CL_Book) "layer_names" = some none)
  (na_Book_inner_names:PySem.W.findIn K (.ref CL_Book) "inner_names" = some none)
  (na_Book_rules:PySem.W.findIn K (.ref CL_Book) "rules" = some none)
  (na_Book_known:PySem.W.findIn K (.ref CL_Book) "known" = some none)
  (na_Book_texts:PySem.W.findIn K (.ref CL_Book) "texts" = some none)
  (in_Book_s:PySem.W.findIn K (.ref CL_Book) "__init__" = some (some (.ref f18)))
  (in_Book:PySem.W.findIn K (.ref CL_Book) "__init__" = some (some (.ref f19)))
  {pp_Book_bodies:Addr}
  {pr_Book_bodies:List Value}
  (pa_Book_bodies:PySem.W.findIn K (.ref CL_Book) "bodies" = some (some (.ref pp_Book_bodies)))
  (pg_Book_bodies:PySem.W.specialIn K (.ref pp_Book_bodies) "__get__" = some (some (.builtin "property.__get__")))
  (pt_Book_bodies:PySem.W.takesIn K (.ref pp_Book_bodies)=some true)
  (pc_Book_bodies:PySem.W.recIn K pp_Book_bodies "property" = some (.ref f20 :: pr_Book_bodies))
  {pp_Book_stored:Addr}
  {pr_Book_stored:List Value}
  (pa_Book_stored:PySem.W.findIn K (.ref CL_Book) "stored" = some (some (.ref pp_Book_stored)))
  (pg_Book_stored:PySem.W.specialIn K (.ref pp_Book_stored) "__get__" = some (some (.builtin "property.__get__")))
  (pt_Book_stored:PySem.W.takesIn K (.ref pp_Book_stored)=some true)
  (pc_Book_stored:PySem.W.recIn K pp_Book_stored "property" = some (.ref f21 :: pr_Book_stored))
  {pp_Book_running:Addr}
  {pr_Book_running:List Value}
  (pa_Book_running:PySem.W.findIn K (.ref CL_Book) "running" = some (some (.ref pp_Book_running)))
  (pg_Book_running:PySem.W.specialIn K (.ref pp_Book_running) "__get__" = some (some (.builtin "property.__get__")))
  (pt_Book_running:PySem.W.takesIn K (.ref pp_Book_running)=some true)
  (pc_Book_running:PySem.W.recIn K pp_Book_running "property" = some (.ref f22 :: pr_Book_running))
  {pp_Book_shown:Addr}
  {pr_Book_shown:List Value}
  (pa_Book_shown:PySem.W.findIn K (.ref CL_Book) "shown" = some (some (.ref pp_Book_shown)))
  (pg_Book_shown:PySem.W.specialIn K (.ref pp_Book_shown) "__get__" = some (some (.builtin "property.__get__")))
  (pt_Book_shown:PySem.W.takesIn K (.ref pp_Book_shown)=some true)
  (pc_Book_shown:PySem.W.recIn K pp_Book_shown "property" = some (.ref f23 :: pr_Book_shown))
  {pp_Book_inner:Addr}
  {pr_Book_inner:List Value}
  (pa_Book_inner:PySem.W.findIn K (.ref CL_Book) "inner" = some (some (.ref pp_Book_inner)))
  (pg_Book_inner:PySem.W.specialIn K (.ref pp_Book_inner) "__get__" = some (some (.builtin "property.__get__")))
  (pt_Book_inner:PySem.W.takesIn K (.ref pp_Book_inner)=some true)
  (pc_Book_inner:PySem.W.recIn K pp_Book_inner "property" = some (.ref f24 :: pr_Book_inner))
  {pp_Book_layers:Addr}
  {pr_Book_layers:List Value}
  (pa_Book_layers:PySem.W.findIn K (.ref CL_Book) "layers" = some (some (.ref pp_Book_layers)))
  (pg_Book_layers:PySem.W.specialIn K (.ref pp_Book_layers) "__get__" = some (some (.builtin "property.__get__")))
  (pt_Book_layers:PySem.W.takesIn K (.ref pp_Book_layers)=some true)
  (pc_Book_layers:PySem.W.recIn K pp_Book_layers "property" = some (.ref f25 :: pr_Book_layers))
  {pp_Book_methods:Addr}
  {pr_Book_methods:List Value}
  (pa_Book_methods:PySem.W.findIn K (.ref CL_Book) "methods" = some (some (.ref pp_Book_methods)))
  (pg_Book_methods:PySem.W.specialIn K (.ref pp_Book_methods) "__get__" = some (some (.builtin "property.__get__")))
  (pt_Book_methods:PySem.W.takesIn K (.ref pp_Book_methods)=some true)
  (pc_Book_methods:PySem.W.recIn K pp_Book_methods "property" = some (.ref f26 :: pr_Book_methods))
  {pp_Book_classes:Addr}
  {pr_Book_classes:List Value}
  (pa_Book_classes:PySem.W.findIn K (.ref CL_Book) "classes" = some (some (.ref pp_Book_classes)))
  (pg_Book_classes:PySem.W.specialIn K (.ref pp_Book_classes) "__get__" = some (some (.builtin "property.__get__")))
  (pt_Book_classes:PySem.W.takesIn K (.ref pp_Book_classes)=some true)
  (pc_Book_classes:PySem.W.recIn K pp_Book_classes "property" = some (.ref f27 :: pr_Book_classes))
  {pp_Book_bodies_s:Addr}
  {pr_Book_bodies_s:List Value}
  (pa_Book_bodies_s:PySem.W.findIn K (.ref CL_Book) "bodies" = some (some (.ref pp_Book_bodies_s)))
  (pg_Book_bodies_s:PySem.W.specialIn K (.ref pp_Book_bodies_s) "__get__" = some (some (.builtin "property.__get__")))
  (pt_Book_bodies_s:PySem.W.takesIn K (.ref pp_Book_bodies_s)=some true)
  (pc_Book_bodies_s:PySem.W.recIn K pp_Book_bodies_s "property" = some (.ref f29 :: pr_Book_bodies_s))
  (a0:PySem.W.nsIn K mainGlobals "_law_digits" = some (some (.ref f0)))
  (l0:K.lookup f0=some ⟨oc0,od0,.func (PySem.W.fnOf "_law_digits" "_law_digits" (defArgs s_w_digits) (defBody s_w_digits) (defScope s_w_digits) .none kV0 dc0 pm0 an0 cd0 ct0),sl0⟩)
  (c0:PySem.W.codeIn K cd0 "_law_digits" = true)
  (k0:PySem.W.keepIn K (.ref f0)=true)
  (a1:PySem.W.nsIn K mainGlobals "_law_cell_at" = some (some (.ref f1)))
  (l1:K.lookup f1=some ⟨oc1,od1,.func (PySem.W.fnOf "_law_cell_at" "_law_cell_at" (defArgs s_w_cell_at) (defBody s_w_cell_at) (defScope s_w_cell_at) .none kV1 dc1 pm1 an1 cd1 ct1),sl1⟩)
  (c1:PySem.W.codeIn K cd1 "_law_cell_at" = true)
  (k1:PySem.W.keepIn K (.ref f1)=true)
  (a2:PySem.W.nsIn K mainGlobals "_law_spelled" = some (some (.ref f2)))
  (l2:K.lookup f2=some ⟨oc2,od2,.func (PySem.W.fnOf "_law_spelled" "_law_spelled" (defArgs s_w_spelled) (defBody s_w_spelled) (defScope s_w_spelled) .none kV2 dc2 pm2 an2 cd2 ct2),sl2⟩)
  (c2:PySem.W.codeIn K cd2 "_law_spelled" = true)
  (k2:PySem.W.keepIn K (.ref f2)=true)
  (a3:PySem.W.nsIn K mainGlobals "_law_ordered" = some (some (.ref f3)))
  (l3:K.lookup f3=some ⟨oc3,od3,.func (PySem.W.fnOf "_law_ordered" "_law_ordered" (defArgs s_w_ordered) (defBody s_w_ordered) (defScope s_w_ordered) .none kV3 dc3 pm3 an3 cd3 ct3),sl3⟩)
  (c3:PySem.W.codeIn K cd3 "_law_ordered" = true)
  (k3:PySem.W.keepIn K (.ref f3)=true)
  (a4:PySem.W.nsIn K mainGlobals "_law_class_list" = some (some (.ref f4)))
  (l4:K.lookup f4=some ⟨oc4,od4,.func (PySem.W.fnOf "_law_class_list" "_law_class_list" (defArgs s_w_class_list) (defBody s_w_class_list) (defScope s_w_class_list) .none kV4 dc4 pm4 an4 cd4 ct4),sl4⟩)
  (c4:PySem.W.codeIn K cd4 "_law_class_list" = true)
  (k4:PySem.W.keepIn K (.ref f4)=true)
  (a5:PySem.W.nsIn K mainGlobals "is_word" = some (some (.ref f5)))
  (l5:K.lookup f5=some ⟨oc5,od5,.func (PySem.W.fnOf "is_word" "is_word" (defArgs s_is_word) (defBody s_is_word) (defScope s_is_word) .none kV5 dc5 pm5 an5 cd5 ct5),sl5⟩)
  (c5:PySem.W.codeIn K cd5 "is_word" = true)
  (k5:PySem.W.keepIn K (.ref f5)=true)
  (a6:PySem.W.nsIn K mainGlobals "good_names" = some (some (.ref f6)))
  (l6:K.lookup f6=some ⟨oc6,od6,.func (PySem.W.fnOf "good_names" "good_names" (defArgs s_good_names) (defBody s_good_names) (defScope s_good_names) .none kV6 dc6 pm6 an6 cd6 ct6),sl6⟩)
  (c6:PySem.W.codeIn K cd6 "good_names" = true)
  (k6:PySem.W.keepIn K (.ref f6)=true)
  (a7:PySem.W.nsIn K mainGlobals "are_chosen" = some (some (.ref f7)))
  (l7:K.lookup f7=some ⟨oc7,od7,.func (PySem.W.fnOf "are_chosen" "are_chosen" (defArgs s_are_chosen) (defBody s_are_chosen) (defScope s_are_chosen) .none kV7 dc7 pm7 an7 cd7 ct7),sl7⟩)
  (c7:PySem.W.codeIn K cd7 "are_chosen" = true)
  (k7:PySem.W.keepIn K (.ref f7)=true)
  (a8:PySem.W.nsIn K mainGlobals "good_classes" = some (some (.ref f8)))
  (l8:K.lookup f8=some ⟨oc8,od8,.func (PySem.W.fnOf "good_classes" "good_classes" (defArgs s_good_classes) (defBody s_good_classes) (defScope s_good_classes) .none kV8 dc8 pm8 an8 cd8 ct8),sl8⟩)
  (c8:PySem.W.codeIn K cd8 "good_classes" = true)
  (k8:PySem.W.keepIn K (.ref f8)=true)
  (a9:PySem.W.nsIn K mainGlobals "free_name" = some (some (.ref f9)))
  (l9:K.lookup f9=some ⟨oc9,od9,.func (PySem.W.fnOf "free_name" "free_name" (defArgs s_free_name) (defBody s_free_name) (defScope s_free_name) .none kV9 dc9 pm9 an9 cd9 ct9),sl9⟩)
  (c9:PySem.W.codeIn K cd9 "free_name" = true)
  (k9:PySem.W.keepIn K (.ref f9)=true)
  (a10:PySem.W.nsIn K mainGlobals "merge_orders" = some (some (.ref f10)))
  (l10:K.lookup f10=some ⟨oc10,od10,.func (PySem.W.fnOf "merge_orders" "merge_orders" (defArgs s_merge_orders) (defBody s_merge_orders) (defScope s_merge_orders) .none kV10 dc10 pm10 an10 cd10 ct10),sl10⟩)
  (c10:PySem.W.codeIn K cd10 "merge_orders" = true)
  (k10:PySem.W.keepIn K (.ref f10)=true)
  (a11:PySem.W.nsIn K mainGlobals "class_orders" = some (some (.ref f11)))
  (l11:K.lookup f11=some ⟨oc11,od11,.func (PySem.W.fnOf "class_orders" "class_orders" (defArgs s_class_orders) (defBody s_class_orders) (defScope s_class_orders) .none kV11 dc11 pm11 an11 cd11 ct11),sl11⟩)
  (c11:PySem.W.codeIn K cd11 "class_orders" = true)
  (k11:PySem.W.keepIn K (.ref f11)=true)
  (a12:PySem.W.nsIn K mainGlobals "bad_part" = some (some (.ref f12)))
  (l12:K.lookup f12=some ⟨oc12,od12,.func (PySem.W.fnOf "bad_part" "bad_part" (defArgs s_bad_part) (defBody s_bad_part) (defScope s_bad_part) .none kV12 dc12 pm12 an12 cd12 ct12),sl12⟩)
  (c12:PySem.W.codeIn K cd12 "bad_part" = true)
  (k12:PySem.W.keepIn K (.ref f12)=true)
  (a13:PySem.W.nsIn K mainGlobals "good_row" = some (some (.ref f13)))
  (l13:K.lookup f13=some ⟨oc13,od13,.func (PySem.W.fnOf "good_row" "good_row" (defArgs s_good_row) (defBody s_good_row) (defScope s_good_row) .none kV13 dc13 pm13 an13 cd13 ct13),sl13⟩)
  (c13:PySem.W.codeIn K cd13 "good_row" = true)
  (k13:PySem.W.keepIn K (.ref f13)=true)
  (a14:PySem.W.nsIn K mainGlobals "switches" = some (some (.ref f14)))
  (l14:K.lookup f14=some ⟨oc14,od14,.func (PySem.W.fnOf "switches" "switches" (defArgs s_switches) (defBody s_switches) (defScope s_switches) .none kV14 dc14 pm14 an14 cd14 ct14),sl14⟩)
  (c14:PySem.W.codeIn K cd14 "switches" = true)
  (k14:PySem.W.keepIn K (.ref f14)=true)
  (a15:PySem.W.nsIn K mainGlobals "well_nested" = some (some (.ref f15)))
  (l15:K.lookup f15=some ⟨oc15,od15,.func (PySem.W.fnOf "well_nested" "well_nested" (defArgs s_well_nested) (defBody s_well_nested) (defScope s_well_nested) .none kV15 dc15 pm15 an15 cd15 ct15),sl15⟩)
  (c15:PySem.W.codeIn K cd15 "well_nested" = true)
  (k15:PySem.W.keepIn K (.ref f15)=true)
  (a16:PySem.W.nsIn K mainGlobals "good_body" = some (some (.ref f16)))
  (l16:K.lookup f16=some ⟨oc16,od16,.func (PySem.W.fnOf "good_body" "good_body" (defArgs s_good_body) (defBody s_good_body) (defScope s_good_body) .none kV16 dc16 pm16 an16 cd16 ct16),sl16⟩)
  (c16:PySem.W.codeIn K cd16 "good_body" = true)
  (k16:PySem.W.keepIn K (.ref f16)=true)
  (a17:PySem.W.nsIn K mainGlobals "good_bodies" = some (some (.ref f17)))
  (l17:K.lookup f17=some ⟨oc17,od17,.func (PySem.W.fnOf "good_bodies" "good_bodies" (defArgs s_good_bodies) (defBody s_good_bodies) (defScope s_good_bodies) .none kV17 dc17 pm17 an17 cd17 ct17),sl17⟩)
  (c17:PySem.W.codeIn K cd17 "good_bodies" = true)
  (k17:PySem.W.keepIn K (.ref f17)=true)
  (l18:K.lookup f18=some ⟨oc18,od18,.func (PySem.W.fnOf "__init__" "Book.__init__" (defArgs s_Book_initX_s) (defBody s_Book_initX_s) (defScope s_Book_initX_s) .none kV18 dc18 pm18 an18 cd18 ct18),sl18⟩)
  (c18:PySem.W.codeIn K cd18 "Book.__init__" = true)
  (k18:PySem.W.keepIn K (.ref f18)=true)
  (fn18:PySem.W.isFn K (.ref f18)=true)
  {kD18:Addr}
  (kk18:kV18=.ref kD18)
  {kp18_inner:Addr}
  {kd18_inner:Option Addr}
  {kn18_inner:Nat}
  {ks18_inner:Array (Option Value)}
  (kx18_inner:PySem.W.nsIn K kD18 "inner" = some (some (.ref kp18_inner)))
  (kl18_inner:K.lookup kp18_inner=some ⟨.type "tuple",kd18_inner,.seq #[] kn18_inner,ks18_inner⟩)
  {kt18_running:Tok}
  (kx18_running:PySem.W.nsIn K kD18 "running" = some (some (.str "keep" kt18_running)))
  {kt18_stored:Tok}
  (kx18_stored:PySem.W.nsIn K kD18 "stored" = some (some (.str "maker" kt18_stored)))
  (l19:K.lookup f19=some ⟨oc19,od19,.func (PySem.W.fnOf "__init__" "Book.__init__" (defArgs s_Book_initX) (defBody s_Book_initX) (defScope s_Book_initX) .none kV19 dc19 pm19 an19 cd19 ct19),sl19⟩)
  (c19:PySem.W.codeIn K cd19 "Book.__init__" = true)
  (k19:PySem.W.keepIn K (.ref f19)=true)
  (fn19:PySem.W.isFn K (.ref f19)=true)
  {kD19:Addr}
  (kk19:kV19=.ref kD19)
  {kp19_inner:Addr}
  {kd19_inner:Option Addr}
  {kn19_inner:Nat}
  {ks19_inner:Array (Option Value)}
  (kx19_inner:PySem.W.nsIn K kD19 "inner" = some (some (.ref kp19_inner)))
  (kl19_inner:K.lookup kp19_inner=some ⟨.type "tuple",kd19_inner,.seq #[] kn19_inner,ks19_inner⟩)
  {kt19_running:Tok}
  (kx19_running:PySem.W.nsIn K kD19 "running" = some (some (.str "keep" kt19_running)))
  {kt19_stored:Tok}
  (kx19_stored:PySem.W.nsIn K kD19 "stored" = some (some (.str "maker" kt19_stored)))
  (l20:K.lookup f20=some ⟨oc20,od20,.func (PySem.W.fnOf "bodies" "Book.bodies" (defArgs s_Book_bodies) (defBody s_Book_bodies) (defScope s_Book_bodies) .none kV20 dc20 pm20 an20 cd20 ct20),sl20⟩)
  (c20:PySem.W.codeIn K cd20 "Book.bodies" = true)
  (k20:PySem.W.keepIn K (.ref f20)=true)
  (l21:K.lookup f21=some ⟨oc21,od21,.func (PySem.W.fnOf "stored" "Book.stored" (defArgs s_Book_stored) (defBody s_Book_stored) (defScope s_Book_stored) .none kV21 dc21 pm21 an21 cd21 ct21),sl21⟩)
  (c21:PySem.W.codeIn K cd21 "Book.stored" = true)
  (k21:PySem.W.keepIn K (.ref f21)=true)
  (l22:K.lookup f22=some ⟨oc22,od22,.func (PySem.W.fnOf "running" "Book.running" (defArgs s_Book_running) (defBody s_Book_running) (defScope s_Book_running) .none kV22 dc22 pm22 an22 cd22 ct22),sl22⟩)
  (c22:PySem.W.codeIn K cd22 "Book.running" = true)
  (k22:PySem.W.keepIn K (.ref f22)=true)
  (l23:K.lookup f23=some ⟨oc23,od23,.func (PySem.W.fnOf "shown" "Book.shown" (defArgs s_Book_shown) (defBody s_Book_shown) (defScope s_Book_shown) .none kV23 dc23 pm23 an23 cd23 ct23),sl23⟩)
  (c23:PySem.W.codeIn K cd23 "Book.shown" = true)
  (k23:PySem.W.keepIn K (.ref f23)=true)
  (l24:K.lookup f24=some ⟨oc24,od24,.func (PySem.W.fnOf "inner" "Book.inner" (defArgs s_Book_inner) (defBody s_Book_inner) (defScope s_Book_inner) .none kV24 dc24 pm24 an24 cd24 ct24),sl24⟩)
  (c24:PySem.W.codeIn K cd24 "Book.inner" = true)
  (k24:PySem.W.keepIn K (.ref f24)=true)
  (l25:K.lookup f25=some ⟨oc25,od25,.func (PySem.W.fnOf "layers" "Book.layers" (defArgs s_Book_layers) (defBody s_Book_layers) (defScope s_Book_layers) .none kV25 dc25 pm25 an25 cd25 ct25),sl25⟩)
  (c25:PySem.W.codeIn K cd25 "Book.layers" = true)
  (k25:PySem.W.keepIn K (.ref f25)=true)
  (l26:K.lookup f26=some ⟨oc26,od26,.func (PySem.W.fnOf "methods" "Book.methods" (defArgs s_Book_methods) (defBody s_Book_methods) (defScope s_Book_methods) .none kV26 dc26 pm26 an26 cd26 ct26),sl26⟩)
  (c26:PySem.W.codeIn K cd26 "Book.methods" = true)
  (k26:PySem.W.keepIn K (.ref f26)=true)
  (l27:K.lookup f27=some ⟨oc27,od27,.func (PySem.W.fnOf "classes" "Book.classes" (defArgs s_Book_classes) (defBody s_Book_classes) (defScope s_Book_classes) .none kV27 dc27 pm27 an27 cd27 ct27),sl27⟩)
  (c27:PySem.W.codeIn K cd27 "Book.classes" = true)
  (k27:PySem.W.keepIn K (.ref f27)=true)
  (a28:PySem.W.nsIn K mainGlobals "_law_parts" = some (some (.ref f28)))
  (l28:K.lookup f28=some ⟨oc28,od28,.func (PySem.W.fnOf "_law_parts" "_law_parts" (defArgs s_w_parts) (defBody s_w_parts) (defScope s_w_parts) .none kV28 dc28 pm28 an28 cd28 ct28),sl28⟩)
  (c28:PySem.W.codeIn K cd28 "_law_parts" = true)
  (k28:PySem.W.keepIn K (.ref f28)=true)
  (l29:K.lookup f29=some ⟨oc29,od29,.func (PySem.W.fnOf "bodies" "Book.bodies" (defArgs s_Book_bodies_s) (defBody s_Book_bodies_s) (defScope s_Book_bodies_s) .none kV29 dc29 pm29 an29 cd29 ct29),sl29⟩)
  (c29:PySem.W.codeIn K cd29 "Book.bodies" = true)
  (k29:PySem.W.keepIn K (.ref f29)=true)
  (a30:PySem.W.nsIn K mainGlobals "law" = some (some (.ref f30)))
  (l30:K.lookup f30=some ⟨oc30,od30,.func (PySem.W.fnOf "law" "law" (defArgs s_law) (defBody s_law) (defScope s_law) .none kV30 dc30 pm30 an30 cd30 ct30),sl30⟩)
  (c30:PySem.W.codeIn K cd30 "law" = true)
  (k30:PySem.W.keepIn K (.ref f30)=true)
  (z_all:PySem.W.nsIn K mainGlobals "all" = some none)
  (z_any:PySem.W.nsIn K mainGlobals "any" = some none)
  (z_dict:PySem.W.nsIn K mainGlobals "dict" = some none)
  (z_int:PySem.W.nsIn K mainGlobals "int" = some none)
  (z_isinstance:PySem.W.nsIn K mainGlobals "isinstance" = some none)
  (z_len:PySem.W.nsIn K mainGlobals "len" = some none)
  (z_list:PySem.W.nsIn K mainGlobals "list" = some none)
  (z_range:PySem.W.nsIn K mainGlobals "range" = some none)
  (z_set:PySem.W.nsIn K mainGlobals "set" = some none)
  (z_str:PySem.W.nsIn K mainGlobals "str" = some none)
  (z_tuple:PySem.W.nsIn K mainGlobals "tuple" = some none)
  {tp_BARE_ROWS:Addr}
  {td_BARE_ROWS:Option Addr}
  {tn_BARE_ROWS:Nat}
  {ts_BARE_ROWS:Array (Option Value)}
  {tt0_BARE_ROWS tt1_BARE_ROWS tt2_BARE_ROWS tt3_BARE_ROWS tt4_BARE_ROWS tt5_BARE_ROWS tt6_BARE_ROWS tt7_BARE_ROWS:Tok}
  (v_BARE_ROWS:PySem.W.nsIn K mainGlobals "BARE_ROWS" = some (some (.ref tp_BARE_ROWS)))
  (w_BARE_ROWS:K.lookup tp_BARE_ROWS=some ⟨.type "tuple",td_BARE_ROWS,.seq #[.str "set 0" tt0_BARE_ROWS,.str "set 1" tt1_BARE_ROWS,.str "if" tt2_BARE_ROWS,.str "else" tt3_BARE_ROWS,.str "end" tt4_BARE_ROWS,.str "proceed" tt5_BARE_ROWS,.str "run" tt6_BARE_ROWS,.str "yield" tt7_BARE_ROWS] tn_BARE_ROWS,ts_BARE_ROWS⟩)
  {tk_LETTERS:Tok}
  (v_LETTERS:PySem.W.nsIn K mainGlobals "LETTERS" = some (some (.str "abcdefghijklmnopqrstuvwxyz" tk_LETTERS)))
  {tk_MOST_BLOCKS:Tok}
  (v_MOST_BLOCKS:PySem.W.nsIn K mainGlobals "MOST_BLOCKS" = some (some (.int 3 tk_MOST_BLOCKS)))
  {tk_MOST_ROWS:Tok}
  (v_MOST_ROWS:PySem.W.nsIn K mainGlobals "MOST_ROWS" = some (some (.int 10 tk_MOST_ROWS)))
  (rx_NoOrder:PySem.W.excIn K CL_NoOrder [.type "ValueError",.type "Exception",.type "BaseException",.type "object"] "ValueError.__new__" = true)
  (rk_NoOrder:PySem.W.keepIn K (.ref CL_NoOrder)=true)
  (rs_NoOrder:PySem.W.subIn K (.ref CL_NoOrder) (.type "BaseException")=some true)
  (rt_NoOrder:PySem.W.typeIn K (.ref CL_NoOrder)=some (.type "type"))
  {fx_BadBook qc_BadBook qd_BadBook:Addr}
  {qoc_BadBook qdc_BadBook qpm_BadBook qct_BadBook qcl_BadBook qel_BadBook:Value}
  {qod_BadBook qcd_BadBook qed_BadBook:Option Addr}
  {qsl_BadBook qcs_BadBook qes_BadBook:Array (Option Value)}
  {qv_BadBook:Array Value}
  {qfi_BadBook:Str}
  {qft_BadBook:Tok}
  (qI_BadBook:PySem.W.excInitIn K CL_BadBook [.type "ValueError",.type "Exception",.type "BaseException",.type "object"] "ValueError.__new__" = true)
  (qa_BadBook:PySem.W.hasDictIn K CL_BadBook=true)
  (qb_BadBook:PySem.W.findIn K (.ref CL_BadBook) "__setattr__" = some (some (.builtin "object.__setattr__")))
  (qg_BadBook:PySem.W.subIn K (.ref CL_BadBook) (.type "BaseException")=some true)
  (qh_BadBook:PySem.W.typeIn K (.ref CL_BadBook)=some (.type "type"))
  (qj_BadBook:PySem.W.keepIn K (.ref CL_BadBook)=true)
  (ql_BadBook:PySem.W.mroIn K CL_BadBook (.ref CL_BadBook)=some true)
  (qp_BadBook:PySem.W.mroIn K CL_BadBook (.type "ValueError")=some true)
  (qS_BadBook:PySem.W.ks_superIn K CL_BadBook CL_BadBook "__init__" = some (some (.builtin "ValueError.__init__")))
  (qq_BadBook:PySem.W.findIn K (.ref CL_BadBook) "part" = some none)
  (qr_BadBook:PySem.W.findIn K (.ref CL_BadBook) "__init__" = some (some (.ref fx_BadBook)))
  (qt_BadBook:PySem.W.typeIn K (.ref fx_BadBook)=some (.type "function"))
  (qf_BadBook:K.lookup fx_BadBook=some ⟨qoc_BadBook,qod_BadBook,.func (PySem.W.fnX "__init__" "BadBook.__init__" (defArgs s_BadBook_init) (defBody s_BadBook_init) (defScope s_BadBook_init) [("__class__",qc_BadBook)] .none .none qdc_BadBook qpm_BadBook none (.ref qd_BadBook) qct_BadBook),qsl_BadBook⟩)
  (qk_BadBook:PySem.W.codeIn K (.ref qd_BadBook) "BadBook.__init__" = true)
  (qm_BadBook:K.lookup qd_BadBook=some ⟨qcl_BadBook,qcd_BadBook,.fields qv_BadBook,qcs_BadBook⟩)
  (qN_BadBook:qv_BadBook[2]?=some (.str qfi_BadBook qft_BadBook))
  (qO_BadBook:((l.prog.main.file:Str) == qfi_BadBook)=true)
  (qe_BadBook:K.lookup qc_BadBook=some ⟨qel_BadBook,qed_BadBook,.cell (some (.ref CL_BadBook)),qes_BadBook⟩)
  (zq_super:PySem.W.nsIn K mainGlobals "super" = some none)
  (zq_any:PySem.W.nsIn K cStatics "thirdparty.any" = some none)
  (qO_top:(l.prog.main.scope.names.lookup ("super" : Str)).isSome=false)
  : ∃(G:G3) (fd:FuncData),G.K=K∧G.tabs=[]∧(∀(s:Shared) (v:Value),BindsTo s fd ⟨[v],[]⟩ [("_law_script",v)])∧∀base:Heap,K.In base→base.Ns mainGlobals mg→L2.FnOk l.prog w K mg base (L2.CX l.prog w) 7 fa fd ["_law_script"] (spM G 1 mf_law):=by
 have e:=hfa.symm.trans (PySem.W.mg_of X G0 a30)
 cases e
 have T:Txt K mg ⟨K,w,fun c=>List.lookup c [("BadBook",CL_BadBook),("NoOrder",CL_NoOrder),("Book",CL_Book)],fun c=>List.lookup c [("BadBook","part")],fun _ _=>False,[],h,fun _=>none⟩:=⟨rfl,fun _ _ h=>h.elim,PySem.W.mg_none_of X G0 z_all,PySem.W.mg_none_of X G0 z_any,PySem.W.mg_none_of X G0 z_dict,PySem.W.mg_none_of X G0 z_int,PySem.W.mg_none_of X G0 z_isinstance,PySem.W.mg_none_of X G0 z_len,PySem.W.mg_none_of X G0 z_list,PySem.W.mg_none_of X G0 z_range,PySem.W.mg_none_of X G0 z_set,PySem.W.mg_none_of X G0 z_str,PySem.W.mg_none_of X G0 z_tuple,⟨_,_,_,_,PySem.W.mg_of X G0 v_BARE_ROWS,w_BARE_ROWS,rfl,rfl,szL (by simp),(.cons ⟨_,rfl⟩ (.cons ⟨_,rfl⟩ (.cons ⟨_,rfl⟩ (.cons ⟨_,rfl⟩ (.cons ⟨_,rfl⟩ (.cons ⟨_,rfl⟩ (.cons ⟨_,rfl⟩ (.cons ⟨_,rfl⟩ .nil))))))))⟩,⟨_,PySem.W.mg_of X G0 v_LETTERS⟩,⟨_,PySem.W.mg_of X G0 v_MOST_BLOCKS⟩,⟨_,PySem.W.mg_of X G0 v_MOST_ROWS⟩,(cons_all ⟨CL_Book,rfl,⟨cg_Book,ch_Book,cp_Book,cs_Book⟩,na_Book_orders⟩ nil_all),(cons_all ⟨CL_Book,rfl,⟨cg_Book,ch_Book,cp_Book,cs_Book⟩,na_Book_class_pairs⟩ nil_all),(cons_all ⟨CL_Book,rfl,⟨cg_Book,ch_Book,cp_Book,cs_Book⟩,na_Book_method_names⟩ nil_all),(cons_all ⟨CL_Book,rfl,⟨cg_Book,ch_Book,cp_Book,cs_Book⟩,na_Book_layer_names⟩ nil_all),(cons_all ⟨CL_Book,rfl,⟨cg_Book,ch_Book,cp_Book,cs_Book⟩,na_Book_inner_names⟩ nil_all),(cons_all ⟨CL_Book,rfl,⟨cg_Book,ch_Book,cp_Book,cs_Book⟩,na_Book_rules⟩ nil_all),(cons_all ⟨CL_Book,rfl,⟨cg_Book,ch_Book,cp_Book,cs_Book⟩,na_Book_known⟩ nil_all),(cons_all ⟨CL_Book,rfl,⟨cg_Book,ch_Book,cp_Book,cs_Book⟩,na_Book_texts⟩ nil_all),⟨CL_NoOrder,_,_,_,_,PySem.F.excBase_ValueError,rx_NoOrder,PySem.W.mg_of X G0 n_NoOrder,rk_NoOrder,rs_NoOrder,rt_NoOrder,rfl,rfl⟩⟩
 revert T
 generalize hG:(⟨K,w,fun c=>List.lookup c [("BadBook",CL_BadBook),("NoOrder",CL_NoOrder),("Book",CL_Book)],fun c=>List.lookup c [("BadBook","part")],fun _ _=>False,[],h,fun _=>none⟩:G3)=G
 intro T
 have GK:G.K=K:=by rw[←hG]
 have Gw:w=G.w:=by rw[←hG]
 have G_BadBook:G.cls "BadBook" = some CL_BadBook:=by rw[←hG];rfl
 have G_NoOrder:G.cls "NoOrder" = some CL_NoOrder:=by rw[←hG];rfl
 have G_Book:G.cls "Book" = some CL_Book:=by rw[←hG];rfl
 refine⟨G,PySem.W.fnOf "law" "law" (defArgs s_law) (defBody s_law) (defScope s_law) .none kV30 dc30 pm30 an30 cd30 ct30,GK,by rw[←hG],fun s v=>.of_eq rfl,fun base _ _=>?_⟩
 have SF_BadBook:SupF K mg l.prog fx_BadBook CL_BadBook qc_BadBook (⟨"__init__","BadBook.__init__",defArgs s_BadBook_init,defBody s_BadBook_init,defScope s_BadBook_init,[("__class__",qc_BadBook)],qd_BadBook⟩:NdefX.NF) ["self","part"] ["self","part","__class__"]:=⟨⟨_,_,_,_,_,_,qf_BadBook⟩,qk_BadBook,⟨_,_,_,_,_,_,qm_BadBook,qN_BadBook,qO_BadBook⟩,rfl,⟨_,_,_,qe_BadBook⟩,cls_at qI_BadBook,PySem.W.mg_none_of X G0 zq_super,qO_top,zq_any,rfl,rfl,⟨_,rfl,rfl,rfl⟩,NdefX.nscope_by (show NdefX.nscB ["self","part","__class__"] ["self","part"] ["__class__"] (defScope s_BadBook_init)=true by decide +kernel)⟩
 have SB_BadBook:SupB (⟨"__init__","BadBook.__init__",defArgs s_BadBook_init,defBody s_BadBook_init,defScope s_BadBook_init,[("__class__",qc_BadBook)],qd_BadBook⟩:NdefX.NF) ["self","part"] ["self","part","__class__"] "part" "part":=⟨rfl,rfl,rfl,rfl,rfl,by decide,by decide,⟨_,_,_,_,_,_,_,_,_,_,_,_,fun env=>⟨_,rfl⟩,rfl⟩⟩
 have XC_BadBook:XcOk l.prog w K mg base G 1 "BadBook" "BadBook":=⟨CL_BadBook,CL_BadBook,fx_BadBook,_,_,"part",G_BadBook,by rw[←hG];rfl,PySem.W.mg_of X G0 n_BadBook,⟨oexC_of qI_BadBook qa_BadBook qb_BadBook qg_BadBook qh_BadBook qj_BadBook,ql_BadBook,qp_BadBook,qS_BadBook⟩,qq_BadBook,qr_BadBook,qt_BadBook,Binds.all fun us hl=>match us,hl with | [_,_],_=>rfl,fnX_ok (k:=0) SF_BadBook SB_BadBook qf_BadBook rfl⟩
 have F0:=fun_mk (st:=s_w_digits) l0 c0 k0
 have O0:=ok_w_digits (Pg:=l.prog) (base:=base) Gw T  F0
 have B0:=F0.binds (ps:=["_law_cell","_law_salt","_law_many"]) fun _ _ _ _ _ _ us hl=>match us,hl with | [_,_,_],_=>rfl
 have C_w_digits:Cal l.prog w K mg base G 1 "_law_digits" 3 mf_w_digits:=⟨_,_,_,PySem.W.mg_of X G0 a0,k0,B0,rfl,O0⟩
 have F1:=fun_mk (st:=s_w_cell_at) l1 c1 k1
 have O1:=ok_w_cell_at (Pg:=l.prog) (base:=base) Gw T  F1
 have B1:=F1.binds (ps:=["_law_script","_law_k"]) fun _ _ _ _ _ _ us hl=>match us,hl with | [_,_],_=>rfl
 have C_w_cell_at:Cal l.prog w K mg base G 1 "_law_cell_at" 2 mf_w_cell_at:=⟨_,_,_,PySem.W.mg_of X G0 a1,k1,B1,rfl,O1⟩
 have F2:=fun_mk (st:=s_w_spelled) l2 c2 k2
 have O2:=ok_w_spelled (Pg:=l.prog) (base:=base) Gw T  F2
 have B2:=F2.binds (ps:=["_law_draw","_law_many"]) fun _ _ _ _ _ _ us hl=>match us,hl with | [_,_],_=>rfl
 have C_w_spelled:Cal l.prog w K mg base G 1 "_law_spelled" 2 mf_w_spelled:=⟨_,_,_,PySem.W.mg_of X G0 a2,k2,B2,rfl,O2⟩
 have F3:=fun_mk (st:=s_w_ordered) l3 c3 k3
 have O3:=ok_w_ordered (Pg:=l.prog) (base:=base) Gw T  F3
 have B3:=F3.binds (ps:=["_law_classes","_law_bases"]) fun _ _ _ _ _ _ us hl=>match us,hl with | [_,_],_=>rfl
 have C_w_ordered:CalW l.prog w K mg base G 1 "_law_ordered" 2 mf_w_ordered:=⟨_,_,_,PySem.W.mg_of X G0 a3,k3,B3,rfl,O3⟩
 have F4:=fun_mk (st:=s_w_class_list) l4 c4 k4
 have O4:=ok_w_class_list (Pg:=l.prog) (base:=base) Gw T C_w_ordered F4
 have B4:=F4.binds (ps:=["_law_draws","_law_names"]) fun _ _ _ _ _ _ us hl=>match us,hl with | [_,_],_=>rfl
 have C_w_class_list:Cal l.prog w K mg base G 2 "_law_class_list" 2 mf_w_class_list:=⟨_,_,_,PySem.W.mg_of X G0 a4,k4,B4,rfl,O4⟩
 have F5:=fun_mk (st:=s_is_word) l5 c5 k5
 have O5:=ok_is_word (Pg:=l.prog) (base:=base) Gw T  F5
 have B5:=F5.binds (ps:=["text"]) fun _ _ _ _ _ _ us hl=>match us,hl with | [_],_=>rfl
 have C_is_word:Cal l.prog w K mg base G 1 "is_word" 1 mf_is_word:=⟨_,_,_,PySem.W.mg_of X G0 a5,k5,B5,rfl,O5⟩
 have F6:=fun_mk (st:=s_good_names) l6 c6 k6
 have O6:=ok_good_names (Pg:=l.prog) (base:=base) Gw T C_is_word F6
 have B6:=F6.binds (ps:=["names","least","most"]) fun _ _ _ _ _ _ us hl=>match us,hl with | [_,_,_],_=>rfl
 have C_good_names:Cal l.prog w K mg base G 2 "good_names" 3 mf_good_names:=⟨_,_,_,PySem.W.mg_of X G0 a6,k6,B6,rfl,O6⟩
 have F7:=fun_mk (st:=s_are_chosen) l7 c7 k7
 have O7:=ok_are_chosen (Pg:=l.prog) (base:=base) Gw T  F7
 have B7:=F7.binds (ps:=["chosen","names"]) fun _ _ _ _ _ _ us hl=>match us,hl with | [_,_],_=>rfl
 have C_are_chosen:Cal l.prog w K mg base G 1 "are_chosen" 2 mf_are_chosen:=⟨_,_,_,PySem.W.mg_of X G0 a7,k7,B7,rfl,O7⟩
 have F8:=fun_mk (st:=s_good_classes) l8 c8 k8
 have O8:=ok_good_classes (Pg:=l.prog) (base:=base) Gw T C_good_names C_are_chosen F8
 have B8:=F8.binds (ps:=["classes"]) fun _ _ _ _ _ _ us hl=>match us,hl with | [_],_=>rfl
 have C_good_classes:Cal l.prog w K mg base G 3 "good_classes" 1 mf_good_classes:=⟨_,_,_,PySem.W.mg_of X G0 a8,k8,B8,rfl,O8⟩
 have F9:=fun_mk (st:=s_free_name) l9 c9 k9
 have O9:=ok_free_name (Pg:=l.prog) (base:=base) Gw T  F9
 have B9:=F9.binds (ps:=["orders"]) fun _ _ _ _ _ _ us hl=>match us,hl with | [_],_=>rfl
 have C_free_name:Cal l.prog w K mg base G 1 "free_name" 1 mf_free_name:=⟨_,_,_,PySem.W.mg_of X G0 a9,k9,B9,rfl,O9⟩
 have F10:=fun_mk (st:=s_merge_orders) l10 c10 k10
 have O10:=ok_merge_orders (Pg:=l.prog) (base:=base) Gw T C_free_name F10
 have B10:=F10.binds (ps:=["orders"]) fun _ _ _ _ _ _ us hl=>match us,hl with | [_],_=>rfl
 have C_merge_orders:Cal l.prog w K mg base G 2 "merge_orders" 1 mf_merge_orders:=⟨_,_,_,PySem.W.mg_of X G0 a10,k10,B10,rfl,O10⟩
 have F11:=fun_mk (st:=s_class_orders) l11 c11 k11
 have O11:=ok_class_orders (Pg:=l.prog) (base:=base) Gw T C_merge_orders F11
 have B11:=F11.binds (ps:=["classes"]) fun _ _ _ _ _ _ us hl=>match us,hl with | [_],_=>rfl
 have C_class_orders:Cal l.prog w K mg base G 3 "class_orders" 1 mf_class_orders:=⟨_,_,_,PySem.W.mg_of X G0 a11,k11,B11,rfl,O11⟩
 have F12:=fun_mk (st:=s_bad_part) l12 c12 k12
 have O12:=ok_bad_part (Pg:=l.prog) (base:=base) Gw T C_good_names C_are_chosen F12
 have B12:=F12.binds (ps:=["methods","layers","inner","running","stored"]) fun _ _ _ _ _ _ us hl=>match us,hl with | [_,_,_,_,_],_=>rfl
 have C_bad_part:Cal l.prog w K mg base G 3 "bad_part" 5 mf_bad_part:=⟨_,_,_,PySem.W.mg_of X G0 a12,k12,B12,rfl,O12⟩
 have F13:=fun_mk (st:=s_good_row) l13 c13 k13
 have O13:=ok_good_row (Pg:=l.prog) (base:=base) Gw T C_is_word F13
 have B13:=F13.binds (ps:=["row","layers","methods"]) fun _ _ _ _ _ _ us hl=>match us,hl with | [_,_,_],_=>rfl
 have C_good_row:Cal l.prog w K mg base G 2 "good_row" 3 mf_good_row:=⟨_,_,_,PySem.W.mg_of X G0 a13,k13,B13,rfl,O13⟩
 have F14:=fun_mk (st:=s_switches) l14 c14 k14
 have O14:=ok_switches (Pg:=l.prog) (base:=base) Gw T  F14
 have B14:=F14.binds (ps:=["row"]) fun _ _ _ _ _ _ us hl=>match us,hl with | [_],_=>rfl
 have C_switches:Cal l.prog w K mg base G 1 "switches" 1 mf_switches:=⟨_,_,_,PySem.W.mg_of X G0 a14,k14,B14,rfl,O14⟩
 have F15:=fun_mk (st:=s_well_nested) l15 c15 k15
 have O15:=ok_well_nested (Pg:=l.prog) (base:=base) Gw T C_switches F15
 have B15:=F15.binds (ps:=["rows"]) fun _ _ _ _ _ _ us hl=>match us,hl with | [_],_=>rfl
 have C_well_nested:Cal l.prog w K mg base G 2 "well_nested" 1 mf_well_nested:=⟨_,_,_,PySem.W.mg_of X G0 a15,k15,B15,rfl,O15⟩
 have F16:=fun_mk (st:=s_good_body) l16 c16 k16
 have O16:=ok_good_body (Pg:=l.prog) (base:=base) Gw T C_good_row C_well_nested F16
 have B16:=F16.binds (ps:=["rows","layers","methods"]) fun _ _ _ _ _ _ us hl=>match us,hl with | [_,_,_],_=>rfl
 have C_good_body:Cal l.prog w K mg base G 3 "good_body" 3 mf_good_body:=⟨_,_,_,PySem.W.mg_of X G0 a16,k16,B16,rfl,O16⟩
 have F17:=fun_mk (st:=s_good_bodies) l17 c17 k17
 have O17:=ok_good_bodies (Pg:=l.prog) (base:=base) Gw T C_good_body F17
 have B17:=F17.binds (ps:=["bodies","names","layers","methods"]) fun _ _ _ _ _ _ us hl=>match us,hl with | [_,_,_,_],_=>rfl
 have C_good_bodies:Cal l.prog w K mg base G 4 "good_bodies" 4 mf_good_bodies:=⟨_,_,_,PySem.W.mg_of X G0 a17,k17,B17,rfl,O17⟩
 have F18:FunD K "__init__" "Book.__init__" (defArgs s_Book_initX_s) (defBody s_Book_initX_s) (defScope s_Book_initX_s) [] [("inner",V.ref kp18_inner),("running",V.str "keep"),("stored",V.str "maker")] f18 _:=⟨⟨_,_,_,_,_,_,_,_,_,_,rfl,l18,c18,.inl ⟨rfl,rfl⟩,.inr ⟨kD18,kk18,(cons_all ⟨_,kx18_inner,rfl⟩ (cons_all ⟨_,kx18_running,⟨_,rfl⟩⟩ (cons_all ⟨_,kx18_stored,⟨_,rfl⟩⟩ nil_all)))⟩⟩,k18⟩
 have O18:=ok_Book_initX_s (Pg:=l.prog) (base:=base) Gw T C_good_classes XC_BadBook C_class_orders C_bad_part C_good_bodies F18
 obtain⟨mv_Book_4_inner_running_stored_s,kb_Book_4_inner_running_stored_s⟩:=F18.kbinds0 (ps:=["self","classes","methods","layers","bodies","inner","running","stored"]) 5 ["inner","running","stored"] [] (fun us _ ws=>us++ws) (by simp) (fun q hq=>by cases hq) (fun a _ c=>a.append c) (fun _ _ _ _ _ _ us mv ws hl hm hk=>match us,hl,mv,hm,ws,hk with | [_,_,_,_,_],_,[],_,[_,_,_],_=>rfl)
 have N_Book_4_inner_running_stored_s:MkOkK l.prog w K mg base G 5 "Book" "Book" 4 ["inner","running","stored"] arr_Book_4_inner_running_stored_s 7 mf_Book_initX_s:=⟨_,_,_,_,_,_,fun vs zs=>vs++zs,PySem.W.mg_of X G0 n_Book,G_Book,⟨cm_Book,in_Book_s,fn18,ck_Book⟩,kb_Book_4_inner_running_stored_s,fun _ _ _=>rfl,fun F io vs zs ds es a b _ _=>a.append b,fun ds es a b=>by rw[show arr_Book_4_inner_running_stored_s ds es=ds++es from rfl,List.length_append,a,b];rfl,O18⟩
 have F19:FunD K "__init__" "Book.__init__" (defArgs s_Book_initX) (defBody s_Book_initX) (defScope s_Book_initX) [] [("inner",V.ref kp19_inner),("running",V.str "keep"),("stored",V.str "maker")] f19 _:=⟨⟨_,_,_,_,_,_,_,_,_,_,rfl,l19,c19,.inl ⟨rfl,rfl⟩,.inr ⟨kD19,kk19,(cons_all ⟨_,kx19_inner,rfl⟩ (cons_all ⟨_,kx19_running,⟨_,rfl⟩⟩ (cons_all ⟨_,kx19_stored,⟨_,rfl⟩⟩ nil_all)))⟩⟩,k19⟩
 have O19:=ok_Book_initX (Pg:=l.prog) (base:=base) Gw T C_good_classes XC_BadBook C_class_orders C_bad_part C_good_bodies F19
 obtain⟨ds_Book_4,dv_Book_4,db_Book_4⟩:=F19.binds0 (ps:=["self","classes","methods","layers","bodies","inner","running","stored"]) 5 (by simp) rfl (fun _ _ _ _ _ _ us ks hl hk=>match us,hl,ks,hk with | [_,_,_,_,_],_,[_,_,_],_=>⟨_,_,_,_,_,_,rfl,rfl,⟨_,_,_,_,_,_,rfl,rfl,⟨_,_,_,_,_,_,rfl,rfl,rfl⟩⟩⟩)
 have N_Book_4:MkOk3 l.prog w K mg base G 5 "Book" "Book" 4 [.ctup [],.str "keep",.str "maker"] mf_Book_initX:=⟨_,_,_,_,_,ds_Book_4,PySem.W.mg_of X G0 n_Book,G_Book,⟨cm_Book,in_Book,fn19,ck_Book⟩,db_Book_4,dv_Book_4,fun F io=>.cons (.ctup (.inr ⟨_,#[],_,by show G.K.lookup _=_;rw[GK];exact kl19_inner,rfl,rfl,Nat.zero_le _,.nil⟩) .nil) (.cons .str (.cons .str (.nil))),O19⟩
 have F20:=fun_mk (st:=s_Book_bodies) l20 c20 k20
 have O20:=ok_Book_bodies (Pg:=l.prog) (base:=base) Gw T  F20
 have B20:=F20.binds (ps:=["self"]) fun _ _ _ _ _ _ us hl=>match us,hl with | [_],_=>rfl
 have P_Book_Book_bodies:PropOk l.prog w K mg base G 1 "bodies" "Book" mf_Book_bodies:=⟨_,_,_,_,_,G_Book,⟨cg_Book,ch_Book,cp_Book,cs_Book⟩,⟨pa_Book_bodies,pg_Book_bodies,pt_Book_bodies,⟨_,pc_Book_bodies⟩⟩,B20,O20⟩
 have F21:=fun_mk (st:=s_Book_stored) l21 c21 k21
 have O21:=ok_Book_stored (Pg:=l.prog) (base:=base) Gw T  F21
 have B21:=F21.binds (ps:=["self"]) fun _ _ _ _ _ _ us hl=>match us,hl with | [_],_=>rfl
 have P_Book_Book_stored:PropOk l.prog w K mg base G 1 "stored" "Book" mf_Book_stored:=⟨_,_,_,_,_,G_Book,⟨cg_Book,ch_Book,cp_Book,cs_Book⟩,⟨pa_Book_stored,pg_Book_stored,pt_Book_stored,⟨_,pc_Book_stored⟩⟩,B21,O21⟩
 have F22:=fun_mk (st:=s_Book_running) l22 c22 k22
 have O22:=ok_Book_running (Pg:=l.prog) (base:=base) Gw T  F22
 have B22:=F22.binds (ps:=["self"]) fun _ _ _ _ _ _ us hl=>match us,hl with | [_],_=>rfl
 have P_Book_Book_running:PropOk l.prog w K mg base G 1 "running" "Book" mf_Book_running:=⟨_,_,_,_,_,G_Book,⟨cg_Book,ch_Book,cp_Book,cs_Book⟩,⟨pa_Book_running,pg_Book_running,pt_Book_running,⟨_,pc_Book_running⟩⟩,B22,O22⟩
 have F23:=fun_mk (st:=s_Book_shown) l23 c23 k23
 have O23:=ok_Book_shown (Pg:=l.prog) (base:=base) Gw T  F23
 have B23:=F23.binds (ps:=["self"]) fun _ _ _ _ _ _ us hl=>match us,hl with | [_],_=>rfl
 have P_Book_Book_shown:PropOk l.prog w K mg base G 1 "shown" "Book" mf_Book_shown:=⟨_,_,_,_,_,G_Book,⟨cg_Book,ch_Book,cp_Book,cs_Book⟩,⟨pa_Book_shown,pg_Book_shown,pt_Book_shown,⟨_,pc_Book_shown⟩⟩,B23,O23⟩
 have F24:=fun_mk (st:=s_Book_inner) l24 c24 k24
 have O24:=ok_Book_inner (Pg:=l.prog) (base:=base) Gw T  F24
 have B24:=F24.binds (ps:=["self"]) fun _ _ _ _ _ _ us hl=>match us,hl with | [_],_=>rfl
 have P_Book_Book_inner:PropOk l.prog w K mg base G 1 "inner" "Book" mf_Book_inner:=⟨_,_,_,_,_,G_Book,⟨cg_Book,ch_Book,cp_Book,cs_Book⟩,⟨pa_Book_inner,pg_Book_inner,pt_Book_inner,⟨_,pc_Book_inner⟩⟩,B24,O24⟩
 have F25:=fun_mk (st:=s_Book_layers) l25 c25 k25
 have O25:=ok_Book_layers (Pg:=l.prog) (base:=base) Gw T  F25
 have B25:=F25.binds (ps:=["self"]) fun _ _ _ _ _ _ us hl=>match us,hl with | [_],_=>rfl
 have P_Book_Book_layers:PropOk l.prog w K mg base G 1 "layers" "Book" mf_Book_layers:=⟨_,_,_,_,_,G_Book,⟨cg_Book,ch_Book,cp_Book,cs_Book⟩,⟨pa_Book_layers,pg_Book_layers,pt_Book_layers,⟨_,pc_Book_layers⟩⟩,B25,O25⟩
 have F26:=fun_mk (st:=s_Book_methods) l26 c26 k26
 have O26:=ok_Book_methods (Pg:=l.prog) (base:=base) Gw T  F26
 have B26:=F26.binds (ps:=["self"]) fun _ _ _ _ _ _ us hl=>match us,hl with | [_],_=>rfl
 have P_Book_Book_methods:PropOk l.prog w K mg base G 1 "methods" "Book" mf_Book_methods:=⟨_,_,_,_,_,G_Book,⟨cg_Book,ch_Book,cp_Book,cs_Book⟩,⟨pa_Book_methods,pg_Book_methods,pt_Book_methods,⟨_,pc_Book_methods⟩⟩,B26,O26⟩
 have F27:=fun_mk (st:=s_Book_classes) l27 c27 k27
 have O27:=ok_Book_classes (Pg:=l.prog) (base:=base) Gw T  F27
 have B27:=F27.binds (ps:=["self"]) fun _ _ _ _ _ _ us hl=>match us,hl with | [_],_=>rfl
 have P_Book_Book_classes:PropOk l.prog w K mg base G 1 "classes" "Book" mf_Book_classes:=⟨_,_,_,_,_,G_Book,⟨cg_Book,ch_Book,cp_Book,cs_Book⟩,⟨pa_Book_classes,pg_Book_classes,pt_Book_classes,⟨_,pc_Book_classes⟩⟩,B27,O27⟩
 have F28:=fun_mk (st:=s_w_parts) l28 c28 k28
 have O28:=ok_w_parts (Pg:=l.prog) (base:=base) Gw T P_Book_Book_bodies P_Book_Book_stored P_Book_Book_running P_Book_Book_shown P_Book_Book_inner P_Book_Book_layers P_Book_Book_methods P_Book_Book_classes F28
 have B28:=F28.binds (ps:=["_law_book"]) fun _ _ _ _ _ _ us hl=>match us,hl with | [_],_=>rfl
 have C_w_parts:Cal l.prog w K mg base G 3 "_law_parts" 1 mf_w_parts:=⟨_,_,_,PySem.W.mg_of X G0 a28,k28,B28,rfl,O28⟩
 have F29:=fun_mk (st:=s_Book_bodies_s) l29 c29 k29
 have O29:=ok_Book_bodies_s (Pg:=l.prog) (base:=base) Gw T  F29
 have B29:=F29.binds (ps:=["self"]) fun _ _ _ _ _ _ us hl=>match us,hl with | [_],_=>rfl
 have P_Book_Book_bodies_s:PropOk l.prog w K mg base G 1 "bodies" "Book" mf_Book_bodies_s:=⟨_,_,_,_,_,G_Book,⟨cg_Book,ch_Book,cp_Book,cs_Book⟩,⟨pa_Book_bodies_s,pg_Book_bodies_s,pt_Book_bodies_s,⟨_,pc_Book_bodies_s⟩⟩,B29,O29⟩
 have F30:=fun_mk (st:=s_law) l30 c30 k30
 exact(ok_law Gw T C_w_digits C_w_cell_at C_w_spelled C_w_class_list N_Book_4_inner_running_stored_s N_Book_4 C_w_parts P_Book_Book_bodies_s F30).low
end My
open PySem PySem.W PyProof.Rows in
set_option maxRecDepth 100000 in
set_option maxHeartbeats 0 in
theorem PySem.Challenge.cw_switchedlayers_k12_parts_of_a_book_holds : PySem.Challenge.rw_switchedlayers_k12_parts_of_a_book.Holds := by
 w_on;o_law
 refine My.Top.top (by kernel_rfl) (by first | assumption | decide +kernel) ?hw ?hc
 case hw=>w_witness2
 k_fill
 refine M3.walk3 (l:=PySem.Challenge.rw_switchedlayers_k12_parts_of_a_book) (n:=63) (k:=7) (x:="_law_script") (m:=My.mf_law) rfl (by decide) (by kernel_rfl) ⟨rfl,by decide,by decide⟩ (fun w h Y=>PySem.W.kIn_of Y) ?F My.law_true
 case F=>
  intro w mg fa h KX G hmg0
  have hmg:mg ("law" : PySem.Str)=some (.ref fa):=by
   have e:(HeadRun.topDef My.Top.R.prog My.Top.at_).name=("law" : PySem.Str):=by kernel_rfl
   rw[←e]
   exact hmg0
  refine' My.all_mk KX G hmg ?n_BadBook ?n_NoOrder ?n_Book ?cg_Book ?ch_Book ?cp_Book ?cs_Book ?cm_Book ?ck_Book ?na_Book_orders ?na_Book_class_pairs ?na_Book_method_names ?na_Book_layer_names ?na_Book_inner_names ?na_Book_rules ?na_Book_known ?na_Book_texts ?in_Book_s ?in_Book ?pa_Book_bodies ?pg_Book_bodies ?pt_Book_bodies ?pc_Book_bodies ?pa_Book_stored ?pg_Book_stored ?pt_Book_stored ?pc_Book_stored ?pa_Book_running ?pg_Book_running ?pt_Book_running ?pc_Book_running ?pa_Book_shown ?pg_Book_shown ?pt_Book_shown ?pc_Book_shown ?pa_Book_inner ?pg_Book_inner ?pt_Book_inner ?pc_Book_inner ?pa_Book_layers ?pg_Book_layers ?pt_Book_layers ?pc_Book_layers ?pa_Book_methods ?pg_Book_methods ?pt_Book_methods ?pc_Book_methods ?pa_Book_classes ?pg_Book_classes ?pt_Book_classes ?pc_Book_classes ?pa_Book_bodies_s ?pg_Book_bodies_s ?pt_Book_bodies_s ?pc_Book_bodies_s ?a0 ?l0 ?c0 ?k0 ?a1 ?l1 ?c1 ?k1 ?a2 ?l2 ?c2 ?k2 ?a3 ?l3 ?c3 ?k3 ?a4 ?l4 ?c4 ?k4 ?a5 ?l5 ?c5 ?k5 ?a6 ?l6 ?c6 ?k6 ?a7 ?l7 ?c7 ?k7 ?a8 ?l8 ?c8 ?k8 ?a9 ?l9 ?c9 ?k9 ?a10 ?l10 ?c10 ?k10 ?a11 ?l11 ?c11 ?k11 ?a12 ?l12 ?c12 ?k12 ?a13 ?l13 ?c13 ?k13 ?a14 ?l14 ?c14 ?k14 ?a15 ?l15 ?c15 ?k15 ?a16 ?l16 ?c16 ?k16 ?a17 ?l17 ?c17 ?k17 ?l18 ?c18 ?k18 ?fn18 ?kk18 ?kx18_inner ?kl18_inner ?kx18_running ?kx18_stored ?l19 ?c19 ?k19 ?fn19 ?kk19 ?kx19_inner ?kl19_inner ?kx19_running ?kx19_stored ?l20 ?c20 ?k20 ?l21 ?c21 ?k21 ?l22 ?c22 ?k22 ?l23 ?c23 ?k23 ?l24 ?c24 ?k24 ?l25 ?c25 ?k25 ?l26 ?c26 ?k26 ?l27 ?c27 ?k27 ?a28 ?l28 ?c28 ?k28 ?l29 ?c29 ?k29 ?a30 ?l30 ?c30 ?k30 ?z_all ?z_any ?z_dict ?z_int ?z_isinstance ?z_len ?z_list ?z_range ?z_set ?z_str ?z_tuple ?v_BARE_ROWS ?w_BARE_ROWS ?v_LETTERS ?v_MOST_BLOCKS ?v_MOST_ROWS ?rx_NoOrder ?rk_NoOrder ?rs_NoOrder ?rt_NoOrder ?qI_BadBook ?qa_BadBook ?qb_BadBook ?qg_BadBook ?qh_BadBook ?qj_BadBook ?ql_BadBook ?qp_BadBook ?qS_BadBook ?qq_BadBook ?qr_BadBook ?qt_BadBook ?qf_BadBook ?qk_BadBook ?qm_BadBook ?qN_BadBook ?qO_BadBook ?qe_BadBook ?zq_super ?zq_any ?qO_top
  (case n_BadBook=>k_is)
  (case n_NoOrder=>k_is)
  (case n_Book=>k_is)
  (case cg_Book=>k_is)
  (case ch_Book=>k_is)
  (case cp_Book=>k_is)
  (case cs_Book=>k_is)
  (case cm_Book=>k_is)
  (case ck_Book=>k_is)
  (case na_Book_orders=>k_is)
  (case na_Book_class_pairs=>k_is)
  (case na_Book_method_names=>k_is)
  (case na_Book_layer_names=>k_is)
  (case na_Book_inner_names=>k_is)
  (case na_Book_rules=>k_is)
  (case na_Book_known=>k_is)
  (case na_Book_texts=>k_is)
  (case in_Book_s=>k_is)
  (case in_Book=>k_is)
  (case pa_Book_bodies=>k_is)
  (case pg_Book_bodies=>k_is)
  (case pt_Book_bodies=>k_is)
  (case pc_Book_bodies=>k_is)
  (case pa_Book_stored=>k_is)
  (case pg_Book_stored=>k_is)
  (case pt_Book_stored=>k_is)
  (case pc_Book_stored=>k_is)
  (case pa_Book_running=>k_is)
  (case pg_Book_running=>k_is)
  (case pt_Book_running=>k_is)
  (case pc_Book_running=>k_is)
  (case pa_Book_shown=>k_is)
  (case pg_Book_shown=>k_is)
  (case pt_Book_shown=>k_is)
  (case pc_Book_shown=>k_is)
  (case pa_Book_inner=>k_is)
  (case pg_Book_inner=>k_is)
  (case pt_Book_inner=>k_is)
  (case pc_Book_inner=>k_is)
  (case pa_Book_layers=>k_is)
  (case pg_Book_layers=>k_is)
  (case pt_Book_layers=>k_is)
  (case pc_Book_layers=>k_is)
  (case pa_Book_methods=>k_is)
  (case pg_Book_methods=>k_is)
  (case pt_Book_methods=>k_is)
  (case pc_Book_methods=>k_is)
  (case pa_Book_classes=>k_is)
  (case pg_Book_classes=>k_is)
  (case pt_Book_classes=>k_is)
  (case pc_Book_classes=>k_is)
  (case pa_Book_bodies_s=>k_is)
  (case pg_Book_bodies_s=>k_is)
  (case pt_Book_bodies_s=>k_is)
  (case pc_Book_bodies_s=>k_is)
  (case a0=>k_is)
  (case l0=>k_is)
  (case c0=>k_is)
  (case k0=>k_is)
  (case a1=>k_is)
  (case l1=>k_is)
  (case c1=>k_is)
  (case k1=>k_is)
  (case a2=>k_is)
  (case l2=>k_is)
  (case c2=>k_is)
  (case k2=>k_is)
  (case a3=>k_is)
  (case l3=>k_is)
  (case c3=>k_is)
  (case k3=>k_is)
  (case a4=>k_is)
  (case l4=>k_is)
  (case c4=>k_is)
  (case k4=>k_is)
  (case a5=>k_is)
  (case l5=>k_is)
  (case c5=>k_is)
  (case k5=>k_is)
  (case a6=>k_is)
  (case l6=>k_is)
  (case c6=>k_is)
  (case k6=>k_is)
  (case a7=>k_is)
  (case l7=>k_is)
  (case c7=>k_is)
  (case k7=>k_is)
  (case a8=>k_is)
  (case l8=>k_is)
  (case c8=>k_is)
  (case k8=>k_is)
  (case a9=>k_is)
  (case l9=>k_is)
  (case c9=>k_is)
  (case k9=>k_is)
  (case a10=>k_is)
  (case l10=>k_is)
  (case c10=>k_is)
  (case k10=>k_is)
  (case a11=>k_is)
  (case l11=>k_is)
  (case c11=>k_is)
  (case k11=>k_is)
  (case a12=>k_is)
  (case l12=>k_is)
  (case c12=>k_is)
  (case k12=>k_is)
  (case a13=>k_is)
  (case l13=>k_is)
  (case c13=>k_is)
  (case k13=>k_is)
  (case a14=>k_is)
  (case l14=>k_is)
  (case c14=>k_is)
  (case k14=>k_is)
  (case a15=>k_is)
  (case l15=>k_is)
  (case c15=>k_is)
  (case k15=>k_is)
  (case a16=>k_is)
  (case l16=>k_is)
  (case c16=>k_is)
  (case k16=>k_is)
  (case a17=>k_is)
  (case l17=>k_is)
  (case c17=>k_is)
  (case k17=>k_is)
  (case l18=>k_is)
  (case c18=>k_is)
  (case k18=>k_is)
  (case fn18=>k_is)
  (case kk18=>rfl)
  (case kx18_inner=>k_is)
  (case kl18_inner=>k_is)
  (case kx18_running=>k_is)
  (case kx18_stored=>k_is)
  (case l19=>k_is)
  (case c19=>k_is)
  (case k19=>k_is)
  (case fn19=>k_is)
  (case kk19=>rfl)
  (case kx19_inner=>k_is)
  (case kl19_inner=>k_is)
  (case kx19_running=>k_is)
  (case kx19_stored=>k_is)
  (case l20=>k_is)
  (case c20=>k_is)
  (case k20=>k_is)
  (case l21=>k_is)
  (case c21=>k_is)
  (case k21=>k_is)
  (case l22=>k_is)
  (case c22=>k_is)
  (case k22=>k_is)
  (case l23=>k_is)
  (case c23=>k_is)
  (case k23=>k_is)
  (case l24=>k_is)
  (case c24=>k_is)
  (case k24=>k_is)
  (case l25=>k_is)
  (case c25=>k_is)
  (case k25=>k_is)
  (case l26=>k_is)
  (case c26=>k_is)
  (case k26=>k_is)
  (case l27=>k_is)
  (case c27=>k_is)
  (case k27=>k_is)
  (case a28=>k_is)
  (case l28=>k_is)
  (case c28=>k_is)
  (case k28=>k_is)
  (case l29=>k_is)
  (case c29=>k_is)
  (case k29=>k_is)
  (case a30=>k_is)
  (case l30=>k_is)
  (case c30=>k_is)
  (case k30=>k_is)
  (case z_all=>k_is)
  (case z_any=>k_is)
  (case z_dict=>k_is)
  (case z_int=>k_is)
  (case z_isinstance=>k_is)
  (case z_len=>k_is)
  (case z_list=>k_is)
  (case z_range=>k_is)
  (case z_set=>k_is)
  (case z_str=>k_is)
  (case z_tuple=>k_is)
  (case v_BARE_ROWS=>k_is)
  (case w_BARE_ROWS=>k_is)
  (case v_LETTERS=>k_is)
  (case v_MOST_BLOCKS=>k_is)
  (case v_MOST_ROWS=>k_is)
  (case rx_NoOrder=>k_exc)
  (case rk_NoOrder=>k_is)
  (case rs_NoOrder=>k_is)
  (case rt_NoOrder=>k_is)
  (case qI_BadBook=>kx_is)
  (case qa_BadBook=>k_is)
  (case qb_BadBook=>k_is)
  (case qg_BadBook=>k_is)
  (case qh_BadBook=>k_is)
  (case qj_BadBook=>k_is)
  (case ql_BadBook=>k_is)
  (case qp_BadBook=>k_is)
  (case qS_BadBook=>ks_is)
  (case qq_BadBook=>k_is)
  (case qr_BadBook=>k_is)
  (case qt_BadBook=>k_is)
  (case qf_BadBook=>k_is)
  (case qk_BadBook=>k_is)
  (case qm_BadBook=>k_is)
  (case qN_BadBook=>rfl)
  (case qO_BadBook=>decide +kernel)
  (case qe_BadBook=>k_is)
  (case zq_super=>k_is)
  (case zq_any=>k_is)
  (case qO_top=>decide +kernel)
