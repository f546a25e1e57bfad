import PyProof.Rows.All
import Wide.All
import OpenK.AllK
import Wide.FinOn
import KE.HD2
import KE.OsRunLaw
import PySem.Challenge.RW_switchedlayers_k57_blocks_end_after_any
import HandS.ForMost
import HandS.TupAny
import HandS.List
import HandS.Exc
import HandS.ExcOwn
import KE.KeyNested
import KE.KDictKeyed
import HandS.Nested
import HandS.Wide
import HandS.Flow
import HandS.Conv
import HandS.Deep
import HandS.IsInst
import HandS.CallSlots
import HandS.Iter
import HandS.WordsExc
import KE.KIntText
import HandS.Text
import HandS.Dict
import HandS.Small
import KE.DataFind
import HandS.ClsMeth
import HandS.Property
import HandS.MakeKwOnly
import HandS.TryOnly
import HandS.ExcIs
import HandS.ExcField
import KE.KExcIs
import HandS.DictComp
import HandS.Defaults
import PyProof.SumAny
import HandS.Strs
import HandS.Ends
import KE.KDictDisplayH
import PyProof.DictTable
import HandS.Style
import HandS.ExcInit
import HandS.ExcInitHot
import HandS.RaiseFrom
import HandS.SuiteRaise
import KE.KSuper
import KE.KExcSuper
import HandS.TupMul
import HandS.MethStar
import HandS.Star
import KE.KUnpackStar
import HandS.HotCalls
import HandS.Finally
import KE.KWithOwn
import HandS.EndTab
import HandS.TryMany
import KE.KTryMore
import HandS.RaiseOp
import PyProof.AutoIntOps
import KE.KExcLine
import KE.KNestM
set_option Elab.async false
set_option linter.all false
set_option maxRecDepth 100000
/-! M3Head: the head by kernel runs of the top, one for each of the looks; nothing of the way is written out -/
namespace M3
open PySem PySem.W PySem.Calls PyProof.Rows
/-- the top's run, by the library's twins -/
noncomputable abbrev endQ (M : Nat) (p : Program) (w : World) (os : OsState) : Option SharedT := HeadRun.endF (HeadRun.stepQ (HeadRun.denQ HeadRun.tabQ) p w) M p w os
/-- what the written part is: taken from the Hook that the library's word makes -/
def Tag (K : Params → Frag) (as : List Addr) : Prop := True
theorem cap {p : Prop} {K : Params → Frag} {as : List Addr} {ek : ∀ P, as = (K P).map (·.1)} {H : Hook} (z : Tag K as) (h : p) (e : H = kHook K as ek) : p := h
structure Wr (p : Prop) where
  K : Params → Frag
  as : List Addr
  ok : Tag K as → p → p
theorem head3 {r : OpenRow} {q : Program} {K : Params → Frag} {as : List Addr} {M : Nat} {loose : List PySem.Str} {d : DefRec} {kwd : List (PySem.Str × PySem.Expr)} (ek : ∀ P, as = (K P).map (·.1))
    (e : opening r.prog = plainProg r.prog.main.scope.names) (f : ∀ s, fenceModules? r.prog s = some s)
    (run1 : ∀ (w : World) (os : OsState), (endQ M r.prog w os).map (fun s => HeadRun.looksF r.prog (boot_heap w.params) s.abs) = some true)
    (run2 : ∀ (w : World) (os : OsState), (endQ M r.prog w os).map (fun s => HeadRun.seenQ q loose (importedModules r.prog.main.body) (fun s => xlAt q [] s && recOk r.toRowW.records s) s.abs) = some (openGood q loose))
    (run3 : ∀ (w : World) (os : OsState), (endQ M r.prog w os).map (fun s => as.map (HeadRun.getT s)) = some ((K w.params).map fun p => some p.2))
    (isDef : defOf q r.name = some (d, kwd))
    (inText : r.prog.theDef r.name = some (d.params, d.body, d.scope))
    (named : kwWritten? d.params.kwonlyargs d.params.kw_defaults = some kwd)
    (noWrites : (!r.writes || r.records.isEmpty) = true)
    (said : r.wellSaid = true)
    (chained : (chainsOk q && opensWell r.prog && (frees r.toRowW && r.within.isEmpty)) = true)
    (isBare : r.prog.bare) (kept : r.toRowW.promised)
    (call : WalkO q loose (XL q []) (kHook K as ek).says r.toRowW d kwd fun f vs => PySem.call f vs) : r.Holds := by
  refine HeadRun.head_any (H := kHook K as ek) (ob := fun s => as.map (HeadRun.getT s)) (M := M) (fun s => List.map_congr_left fun a _ => HeadRun.getT_eq s a) e f (fun w os => ?_) isDef inText named noWrites said chained isBare kept call
  obtain ⟨s, hs, h1⟩ := Option.map_eq_some_iff.mp (run1 w os)
  obtain ⟨s2, hs2, h2⟩ := Option.map_eq_some_iff.mp (run2 w os)
  obtain ⟨s3, hs3, h3⟩ := Option.map_eq_some_iff.mp (run3 w os)
  obtain rfl : s = s2 := Option.some.inj (hs.symm.trans hs2)
  obtain rfl : s = s3 := Option.some.inj (hs.symm.trans hs3)
  show (endQ M r.prog w os).map _ = _
  rw [hs]
  show some (_, _, _) = some (_, _, _)
  exact congrArg some (Prod.ext h1 (Prod.ext h2 h3))
end M3
set_option maxHeartbeats 0
namespace My.Top
open PySem PySem.W PySem.Calls PyProof.Rows
abbrev R : OpenRow := OpenLaw.row PySem.Challenge.rw_switchedlayers_k57_blocks_end_after_any
section
local macro_rules | `(tactic| o_headL $H) => `(tactic| exact M3.cap (H := $H) (by assumption) (by assumption) rfl)
noncomputable def wr : M3.Wr R.Holds := by
  refine' M3.Wr.mk _ _ (fun z h => _)
  rotate_left 2
  k_headL
end
noncomputable def as : List Addr := wr.as
theorem ek (P : Params) : as = (wr.heap_1 P).map (·.1) := by kernel_rfl
def loose0 : List PySem.Str := ["switch_layer", "Entering", "Block", "Switchboard", "_law_cell_at", "_law_digits", "_law_spelled", "_law_blocks", "_law_after", "_law_within", "_law_failing"]
def loose : List PySem.Str := loose0
abbrev at_ : Nat := 15
noncomputable abbrev q : Program := view R.prog [14, 15]
theorem run1 (w : World) (os : OsState) : (M3.endQ 30000 R.prog w os).map (fun s => HeadRun.looksF R.prog (boot_heap w.params) s.abs) = some true := by kernel_rfl
theorem run2 (w : World) (os : OsState) : (M3.endQ 30000 R.prog w os).map (fun s => HeadRun.seenQ q loose (importedModules R.prog.main.body) (fun s => xlAt q [] s && recOk R.toRowW.records s) s.abs) = some (openGood q loose) := by kernel_rfl
theorem run3 (w : World) (os : OsState) : (M3.endQ 30000 R.prog w os).map (fun s => as.map (HeadRun.getT s)) = some ((wr.heap_1 w.params).map fun p => some p.2) := by kernel_rfl
theorem top (hk : kwWritten? (HeadRun.topDef R.prog 15).params.kwonlyargs (HeadRun.topDef R.prog 15).params.kw_defaults = some []) (k1 : R.wellSaid = true) (hw : R.toRowW.promised)
    (call : WalkO q loose (XL q []) (kHook wr.heap_1 as ek).says R.toRowW (HeadRun.topDef R.prog 15) [] fun f vs => PySem.call f vs) : R.Holds :=
  M3.head3 (d := HeadRun.topDef R.prog 15) ek (by kernel_rfl) (fun s => by kernel_rfl) run1 run2 run3 (by kernel_rfl) (by kernel_rfl) hk (by rfl) k1 (by decide +kernel) ⟨rfl, rfl, rfl, rfl, rfl, by decide +kernel⟩ hw call
end My.Top
/-! tuples that are made here, with what is known of their object: it has no dict -/
namespace M3
open PySem PySem.Spec PyProof.Rows L2
/-- what stands at a new tuple -/
def NewT (xs : List V) (H : Hp) (Q : VK) : Prop := ∀ (p : Addr) (o : Obj), H p = none → o.dict = none → Q (.ref p) (upd H p (.frz o (.tup xs)))
section
variable {X : Cx} {pos : Pos} {es : List Expr} {t : TA}
theorem laidT {pins : List (Addr × Obj)} {σ : L2.St} {H : Hp} {s : Shared} {h' : Heap} {k : Nat} {Q : VK} {xs : List V} {us : List Value} {n : Nat} (I : Inv X pins σ H { s with heap := h' }) (r : Vals xs us) (z : xs.length ≤ sizeLine) (q : NewT xs H Q) :
    EP X pins σ Q (.ref h'.objs.size) { s with heap := h'.push { cls := .type "tuple", data := .seq us.toArray n }, toks := k } := by
  have hf : H h'.objs.size = none := I.hok.fresh (Nat.le_refl _)
  refine ⟨.ref h'.objs.size, _, I.laid (t' := k) (o := .frz { cls := .type "tuple", data := .seq us.toArray n } (.tup xs)) (fun b u e => Heap.get?_push_of_some _ e) (Nat.le_refl _) ?_, rfl, q _ _ hf rfl⟩
  exact ⟨Heap.get?_push_size _ rfl, z, us, r, ⟨_, Heap.get?_push_size _ rfl, rfl, _, rfl⟩⟩
theorem pe_tupZ {x1} (h : PA X es t) : PE X (.Tuple es x1 pos) (fun σ H Q => t σ H fun xs H1 => xs.length ≤ sizeLine ∧ NewT xs H1 Q) :=
  ⟨fun pins now σ H Q inv wish => wpAny_Tuple_spliced <| thn (h.run pos pins now σ H _ inv wish) fun _ later ⟨_, _, J, r, z, q⟩ => ⟨r.length ▸ z, laidT (s := later) J r z q⟩⟩
def rCatZ (K : PySem.W.Frag) : R2 := fun x y H Q => ∃ a b xs ys, x = .ref a ∧ y = .ref b ∧ SqT K H a xs ∧ SqT K H b ys ∧ xs.length + ys.length ≤ sizeLine ∧
  (xs = [] → Q (.ref b) H) ∧ (xs ≠ [] → ys = [] → Q (.ref a) H) ∧ (xs ≠ [] → ys ≠ [] → NewT (xs ++ ys) H Q)
theorem op_catZ : OpR X (binaryOp .Add) (rCatZ X.K) := by
  rintro pins now σ H _ _ v u Q inv rx ry ⟨a, b, xs, ys, rfl, rfl, ta, tb, z, left, keep, new⟩
  obtain rfl : v = .ref a := rx
  obtain rfl : u = .ref b := ry
  obtain ⟨as, va, pa, -⟩ := inv.tuple ta
  obtain ⟨bs, vb, pb, -⟩ := inv.tuple tb
  rcases eq_or_ne xs [] with e | e
  · subst e
    cases va
    exact cat_tup0 pa pb ⟨V.ref b, H, inv, rfl, left rfl⟩
  · have room : as.length + bs.length ≤ sizeLine := va.length ▸ vb.length ▸ z
    exact HT.cat_tup pa pb (mt va.nil_iff.mp e) (fun q => ⟨V.ref a, H, inv, rfl, keep e (vb.nil_iff.mp q)⟩) (fun q => laidT (s := now) inv (va.append vb) (by simpa using z) (new e (mt vb.nil_iff.mpr q))) room
where
  eq_or_ne (l m : List V) : l = m ∨ l ≠ m := Classical.em _
def rSlZ (K : PySem.W.Frag) : V → Option Int → Option Int → Hp → VK → Prop := fun x lo hi H Q => ∃ a xs, x = .ref a ∧ SqT K H a xs ∧
  (HT.sIx xs.length 0 lo = 0 ∧ HT.sIx xs.length xs.length hi = xs.length → Q (.ref a) H) ∧ (¬ (HT.sIx xs.length 0 lo = 0 ∧ HT.sIx xs.length xs.length hi = xs.length) → NewT (cutV xs lo hi) H Q)
theorem sl_tupZ : SlR X (rSlZ X.K) := by
  rintro pins now σ H _ v vl vu lo hi sl Q inv rx cut plo phi ⟨a, xs, rfl, at_, whole, part⟩
  obtain rfl : v = .ref a := rx
  obtain ⟨its, vals, tup, z⟩ := inv.tuple at_
  have same : its.toArray.size = xs.length := (List.size_toArray ..).trans vals.length.symm
  refine ⟨"tuple", _, PyProof.Rows.slot_tuple_getitem.lookup, tup.typeIs, ?_⟩
  rcases Classical.em (HT.sIx xs.length 0 lo = 0 ∧ HT.sIx xs.length xs.length hi = xs.length) with all | less
  · exact getItem_tuple_whole tup cut plo phi (same.symm ▸ all) ⟨V.ref a, H, inv, rfl, whole all⟩
  · refine HT.getItem_tuple_cut tup cut plo phi (same.symm ▸ less) ?_ (same.symm ▸ z)
    rw [same]
    exact laidT (s := now) inv ((vals.drop _).take _) (Nat.le_trans (cutV_length ..) z) (part less)
theorem call_tupleZ : CallR X (.type "tuple") (fun xs H Q => ∃ p ys, xs = [.ref p] ∧ ((SqL X.K H p ys ∧ NewT ys H Q) ∨ (SqT X.K H p ys ∧ Q (.ref p) H))) := by
  rintro pins now σ H _ us Q inv vals ⟨p, ys, rfl, h⟩
  obtain rfl := Vals.ref1 vals
  cases h with
  | inl h =>
    obtain ⟨its, w, lst, z⟩ := inv.list h.1
    have len := w.length
    have room := line63
    exact call_tuple_list lst.isList (fun later kept => laidT (s := now) (inv.kept (t' := now.toks) kept) w z h.2) (by simp only [List.size_toArray]; omega)
  | inr h =>
    obtain ⟨its, w, tup, z⟩ := inv.tuple h.1
    exact call_tuple_same tup ⟨V.ref p, H, inv, rfl, h.2⟩
end
/-- a tuple that is known to have no dict -/
def FTup (F : Hp) (p : Addr) (vs : List V) : Prop := ∃ o, F p = some (.frz o (.tup vs)) ∧ o.dict = none
theorem FTup.sq {K : PySem.W.Frag} {F : Hp} {p : Addr} {vs : List V} (h : FTup F p vs) : SqT K F p vs := by obtain ⟨o, e, _⟩ := h; exact .inl (.inr ⟨o, e⟩)
theorem FTup.mono {F F' : Hp} {p : Addr} {vs : List V} (s : Same F F') (h : FTup F p vs) : FTup F' p vs := by obtain ⟨o, e, d⟩ := h; exact ⟨o, s _ _ e, d⟩
end M3
namespace M3
open PySem PySem.Spec PyProof.Rows L2
/-! data -/
inductive D where
  | non | bl (b : Bool) | int (i : Int) | str (x : Str) | ty (n : String)
  | tup (xs : List D) | ctup (xs : List D) | lst (xs : List D) | ro (xs : List D) | dict (ks : List Key) (vs : List D) | dd (ks : List D) (vs : List D) | ref (k : Nat) | fn (c : String) (ks : List Nat)
/-- what a slot or an expression holds: data; a list of one's own (it may grow); a caught exception -/
inductive W where
  | val (d : D) | bor (xs : List D) | bod (ks : List Key) (vs : List D) | bdd (ks : List D) (vs : List D) | exn (c : String) (x : D) | len (xs : List D)
/-- a thing of one's own -/
def W.own : W → Bool
  | .bor _ => true
  | .bod _ _ => true
  | .bdd _ _ => true
  | _ => false
/-- objects that are shared -/
inductive MO where
  | lst (xs : List D) | dic (ks : List Key) (vs : List D) | ddi (ks : List D) (vs : List D)
  | ins (c : String) (fs : List (Str × D))
  | cell (d : D)
  | kc (d : D) | slp (i : Nat) | dead
/-- what the abstract heap tells of -/
def MO.tr : MO → Bool
  | .kc _ => false
  | .slp _ => false
  | .dead => false
  | _ => true
abbrev Store := List MO
inductive Res (α : Type) where
  | ok (a : α) (st : Store)
  | err (c : String) (x : D) (st : Store)
  | bad
abbrev M (α : Type) := Store → Res α
def M.pure {α : Type} (a : α) : M α := fun st => .ok a st
def M.bind {α β : Type} (m : M α) (f : α → M β) : M β := fun st => match m st with
  | .ok a st' => f a st'
  | .err c x st' => .err c x st'
  | .bad => .bad
def M.bad {α : Type} : M α := fun _ => .bad
/-- what may not raise -/
def M.quiet {α : Type} (m : M α) : M α := fun st => match m st with
  | .ok a st' => .ok a st'
  | _ => .bad
def M.of {α : Type} : Option α → M α
  | some a => M.pure a
  | none => M.bad
/-- go on if c -/
def M.chk (c : Prop) [Decidable c] : M Unit := fun st => if c then .ok () st else .bad
abbrev Sl3 := List (Option W)
/-! keys that are tuples -/
mutual
def D.nk : D → Option NestedKey
  | .non => some .none
  | .bl b => some (.num (if b then 1 else 0))
  | .int i => some (.num i)
  | .str x => some (.text x)
  | .tup xs => (D.nks xs).map .tup
  | _ => none
def D.nks : List D → Option (List NestedKey)
  | [] => some []
  | x :: xs => match D.nk x, D.nks xs with
    | some k, some ks => some (k :: ks)
    | _, _ => none
end
/-- a tuple that may be a key -/
def D.tk : D → Option NestedKey
  | .tup xs => match D.nks xs with
    | some ks => if (NestedKey.tup ks).depth ≤ 8 then some (.tup ks) else none
    | none => none
  | _ => none
abbrev DkX := List (NestedKey × Addr × Value)
/-- a dict whose keys are tuples: the key, where it stands, the value -/
def DkO (w : World) (p : Addr) (xs : DkX) : HO := .ext fun h => (p == sysModules) = false ∧ (xs.map (·.1)).Nodup ∧ xs.length ≤ sizeLine ∧ ∃ o es ep, h.get? p = some o ∧ o.ExactDict ∧ o.data = .dict es ep ∧ es.toList = xs.map fun x => ⟨x.1.hash w, .ref x.2.1, x.2.2⟩
/-- a made function: its object, its code object, its name, the cells that it captured -/
structure FV where
  ob : Addr → HO
  c : Addr
  qual : Str
  cl : List (Str × Addr)
structure KW where
  K : PySem.W.Frag
  w : World
  nf : String → FV → Prop
/-- a cell and what it holds -/
def CellO (a : Addr) (v : V) : HO := .ext fun h => ∃ u, RelV v u ∧ h.IsCell a (some u)
/-! what stands for what -/
mutual
inductive Rep (K : KW) (F : Hp) (io : Nat → Option Addr) : D → V → Prop where
  | non : Rep K F io .non .non
  | bl {b} : Rep K F io (.bl b) (.bl b)
  | int {i} : Rep K F io (.int i) (.int i)
  | str {x} : Rep K F io (.str x) (.str x)
  | ty {n} : Rep K F io (.ty n) (.ty n)
  | tup {xs vs p} : FTup F p vs → RepL K F io xs vs → Rep K F io (.tup xs) (.ref p)
  | ctup {xs vs p} : SqT K.K F p vs → RepL K F io xs vs → Rep K F io (.ctup xs) (.ref p)
  | lst {xs vs p} : F p = some (.lst vs) → RepL K F io xs vs → Rep K F io (.lst xs) (.ref p)
  | ro {xs vs p} : SqL K.K F p vs → RepL K F io xs vs → Rep K F io (.ro xs) (.ref p)
  | dict {ks us p od} {kvs : List (Key × V)} : F p = some (.frz od (.dK kvs)) → kvs.map (·.1) = ks → RepL K F io us (kvs.map (·.2)) → Rep K F io (.dict ks us) (.ref p)
  | dd {ks us p od} {xs : DkX} {vs : List V} : F p = some (.frz od (DkO K.w p xs)) → RepL K F io ks (xs.map fun x => .ref x.2.1) → ks.map D.tk = xs.map (fun x => some x.1) → Vals vs (xs.map (·.2.2)) → RepL K F io us vs → Rep K F io (.dd ks us) (.ref p)
  | ref {k a} : io k = some a → Rep K F io (.ref k) (.ref a)
  | fn {c ks p} {Fn : FV} : F p = some (Fn.ob p) → K.nf c Fn → F Fn.c = some (LamX.CodeO Fn.c Fn.qual) → ks.map io = Fn.cl.map (fun y => some y.2) → (Fn.cl.map (·.2)).Nodup → Rep K F io (.fn c ks) (.ref p)
inductive RepL (K : KW) (F : Hp) (io : Nat → Option Addr) : List D → List V → Prop where
  | nil : RepL K F io [] []
  | cons {x xs v vs} : Rep K F io x v → RepL K F io xs vs → RepL K F io (x :: xs) (v :: vs)
end
abbrev Io := Nat → Option Addr
def IoLe (io io' : Io) : Prop := ∀ k a, io k = some a → io' k = some a
theorem IoLe.refl (io : Io) : IoLe io io := fun _ _ h => h
theorem IoLe.trans {a b c : Io} (h : IoLe a b) (h' : IoLe b c) : IoLe a c := fun k x e => h' k x (h k x e)
theorem szL {n : Nat} (h : n ≤ 1000000) : n ≤ sizeLine := Nat.le_trans h (by rw [sizeLine_eq]; decide)
theorem szl {n : Nat} (h : n < 1000000) : n < sizeLine := Nat.lt_of_lt_of_le h (by rw [sizeLine_eq]; decide)
theorem same_sqT {K : PySem.W.Frag} {F F' : Hp} {p : Addr} {vs : List V} (h : Same F F') (s : SqT K F p vs) : SqT K F' p vs := by
  rcases s with (h1 | ⟨o, h1⟩) | h1
  · exact .inl (.inl (h _ _ h1))
  · exact .inl (.inr ⟨o, h _ _ h1⟩)
  · exact .inr h1
theorem same_sqL {K : PySem.W.Frag} {F F' : Hp} {p : Addr} {vs : List V} (h : Same F F') (s : SqL K F p vs) : SqL K F' p vs := h.seq s
theorem io_map {io io' : Io} (hi : IoLe io io') : ∀ {ks : List Nat} {cl : List (Str × Addr)}, ks.map io = cl.map (fun y => some y.2) → ks.map io' = cl.map (fun y => some y.2)
  | [], [], _ => rfl
  | [], _ :: _, h => by cases h
  | _ :: _, [], h => by cases h
  | k :: ks, y :: cl, h => by
    rw [List.map_cons, List.map_cons, List.cons.injEq] at h ⊢
    exact ⟨hi _ _ h.1, io_map hi h.2⟩
section
variable {K : KW} {F F' : Hp} {io io' : Io}
mutual
theorem Rep.mono (hF : Same F F') (hi : IoLe io io') : ∀ {d : D} {v : V}, Rep K F io d v → Rep K F' io' d v
  | _, _, .non => .non
  | _, _, .bl => .bl
  | _, _, .int => .int
  | _, _, .str => .str
  | _, _, .ty => .ty
  | _, _, .tup s r => .tup (FTup.mono hF s) (RepL.mono hF hi r)
  | _, _, .ctup s r => .ctup (same_sqT hF s) (RepL.mono hF hi r)
  | _, _, .dict s e r => .dict (hF _ _ s) e (RepL.mono hF hi r)
  | _, _, .dd s k e v r => .dd (hF _ _ s) (RepL.mono hF hi k) e v (RepL.mono hF hi r)
  | _, _, .lst s r => .lst (hF _ _ s) (RepL.mono hF hi r)
  | _, _, .ro s r => .ro (same_sqL hF s) (RepL.mono hF hi r)
  | _, _, .ref e => .ref (hi _ _ e)
  | _, _, .fn e n q l d => .fn (hF _ _ e) n (hF _ _ q) (io_map hi l) d
theorem RepL.mono (hF : Same F F') (hi : IoLe io io') : ∀ {d : List D} {v : List V}, RepL K F io d v → RepL K F' io' d v
  | _, _, .nil => .nil
  | _, _, .cons r t => .cons (Rep.mono hF hi r) (RepL.mono hF hi t)
end
theorem RepL.length : ∀ {xs : List D} {vs : List V}, RepL K F io xs vs → xs.length = vs.length
  | _, _, .nil => rfl
  | _, _, .cons _ t => congrArg Nat.succ (RepL.length t)
theorem RepL.append : ∀ {xs ys : List D} {vs us : List V}, RepL K F io xs vs → RepL K F io ys us → RepL K F io (xs ++ ys) (vs ++ us)
  | _, _, _, _, .nil, s => s
  | _, _, _, _, .cons r t, s => .cons r (RepL.append t s)
theorem RepL.get : ∀ {xs : List D} {vs : List V} {i : Nat} {d : D}, RepL K F io xs vs → xs[i]? = some d → ∃ v, vs[i]? = some v ∧ Rep K F io d v
  | _, _, _, _, .nil, e => by simp at e
  | _, _, 0, _, .cons r _, e => by simp at e; subst e; exact ⟨_, rfl, r⟩
  | _, _, i + 1, _, .cons _ t, e => by
    obtain ⟨v, h1, h2⟩ := RepL.get (i := i) t (by simpa using e)
    exact ⟨v, by simpa using h1, h2⟩
theorem RepL.get' : ∀ {xs : List D} {vs : List V} {i : Nat} {v : V}, RepL K F io xs vs → vs[i]? = some v → ∃ d, xs[i]? = some d ∧ Rep K F io d v
  | _, _, _, _, .nil, e => by simp at e
  | _, _, 0, _, .cons r _, e => by simp at e; subst e; exact ⟨_, rfl, r⟩
  | _, _, i + 1, _, .cons _ t, e => by
    obtain ⟨v, h1, h2⟩ := RepL.get' (i := i) t (by simpa using e)
    exact ⟨v, by simpa using h1, h2⟩
theorem RepL.take : ∀ {xs : List D} {vs : List V} (n : Nat), RepL K F io xs vs → RepL K F io (xs.take n) (vs.take n)
  | _, _, 0, _ => .nil
  | _, _, _ + 1, .nil => .nil
  | _, _, n + 1, .cons r t => .cons r (RepL.take n t)
theorem RepL.drop : ∀ {xs : List D} {vs : List V} (n : Nat), RepL K F io xs vs → RepL K F io (xs.drop n) (vs.drop n)
  | _, _, 0, r => r
  | _, _, _ + 1, .nil => .nil
  | _, _, n + 1, .cons _ t => RepL.drop n t
theorem RepL.set {d : D} {v : V} (r : Rep K F io d v) : ∀ {xs : List D} {vs : List V} (i : Nat), RepL K F io xs vs → RepL K F io (xs.set i d) (vs.set i v)
  | _, _, _, .nil => .nil
  | _, _, 0, .cons _ t => .cons r t
  | _, _, i + 1, .cons q t => .cons q (RepL.set r i t)
end
/-! ### the state -/
/-- what is fixed through a law: own classes by name, the field of an own exception class -/
structure G3 where
  K : PySem.W.Frag
  w : World
  cls : String → Option Addr
  fld : String → Option Str
  nf : String → FV → Prop
  tabs : List NdefX.NTab
  base : Heap
  own : Nat → Option Addr
abbrev G3.R (G : G3) : KW := ⟨G.K, G.w, G.nf⟩
/-- addresses of shared objects; what never changes; the heap -/
structure S3 where
  io : Io
  F : Hp
  H : Hp
structure Le (B : Addr → Prop) (s s' : S3) : Prop where
  io : IoLe s.io s'.io
  fr : Same s.F s'.F
  hid : ∀ a, B a → s'.H a = s.H a
theorem Le.refl {B : Addr → Prop} (s : S3) : Le B s s := ⟨IoLe.refl _, Same.refl _, fun _ _ => rfl⟩
theorem Le.trans {B : Addr → Prop} {a b c : S3} (x : Le B a b) (y : Le B b c) : Le B a c := ⟨x.io.trans y.io, x.fr.trans y.fr, fun p h => (y.hid p h).trans (x.hid p h)⟩
theorem Le.less {B B0 : Addr → Prop} (h : ∀ a, B0 a → B a) {s s' : S3} (x : Le B s s') : Le B0 s s' := ⟨x.io, x.fr, fun a q => x.hid a (h a q)⟩
inductive FsR (K : KW) (F : Hp) (io : Io) : List (Str × D) → List (Str × V) → Prop where
  | nil : FsR K F io [] []
  | cons {f d v fs gs} : Rep K F io d v → FsR K F io fs gs → FsR K F io ((f, d) :: fs) ((f, v) :: gs)
theorem FsR.mono {K : KW} {F F' : Hp} {io io' : Io} (hF : Same F F') (hi : IoLe io io') : ∀ {fs gs}, FsR K F io fs gs → FsR K F' io' fs gs
  | _, _, .nil => .nil
  | _, _, .cons r t => .cons (r.mono hF hi) (FsR.mono hF hi t)
theorem FsR.look {K : KW} {F : Hp} {io : Io} {f : Str} : ∀ {fs gs}, FsR K F io fs gs → (∀ d, fs.lookup f = some d → ∃ v, gs.lookup f = some v ∧ Rep K F io d v) ∧ (fs.lookup f = none → gs.lookup f = none)
  | _, _, .nil => ⟨fun d h => by simp at h, fun _ => rfl⟩
  | _, _, .cons (f := g) r t => by
    have ih := FsR.look (f := f) t
    rw [List.lookup_cons, List.lookup_cons]
    cases h : f == g with
    | true => exact ⟨fun d e => ⟨_, rfl, by cases e; exact r⟩, fun e => by cases e⟩
    | false => exact ih
theorem FsR.length {K : KW} {F : Hp} {io : Io} : ∀ {fs gs}, FsR K F io fs gs → fs.length = gs.length
  | _, _, .nil => rfl
  | _, _, .cons _ t => congrArg Nat.succ (FsR.length t)
/-- a dict with tuple keys: its keys and values as data -/
structure DkR (K : KW) (F : Hp) (io : Io) (ks us : List D) (xs : DkX) : Prop where
  keys : RepL K F io ks (xs.map fun x => .ref x.2.1)
  tk : ks.map D.tk = xs.map (fun x => some x.1)
  vals : ∃ vs, Vals vs (xs.map (·.2.2)) ∧ RepL K F io us vs
theorem DkR.mono {K : KW} {F F' : Hp} {io io' : Io} (hF : Same F F') (hi : IoLe io io') {ks us : List D} {xs : DkX} (h : DkR K F io ks us xs) : DkR K F' io' ks us xs :=
  ⟨h.keys.mono hF hi, h.tk, let ⟨vs, v, r⟩ := h.vals; ⟨vs, v, r.mono hF hi⟩⟩
def ObjR (G : G3) (s : S3) (a : Addr) : MO → Prop
  | .lst xs => ∃ vs, s.H a = some (.lst vs) ∧ RepL G.R s.F s.io xs vs
  | .dic ks us => ∃ kvs : List (Key × V), s.H a = some (.dK kvs) ∧ kvs.map (·.1) = ks ∧ RepL G.R s.F s.io us (kvs.map (·.2))
  | .ddi ks us => ∃ xs, s.H a = some (DkO G.w a xs) ∧ DkR G.R s.F s.io ks us xs
  | .ins c fs => ∃ C dx gs, G.cls c = some C ∧ s.H a = some (.ins C dx gs) ∧ FsR G.R s.F s.io fs gs
  | .cell d => ∃ v, s.H a = some (CellO a v) ∧ Rep G.R s.F s.io d v
  | _ => False
/-- cells that the abstract heap does not tell of: known ones, the running frame's own, those of frames that are gone -/
def UntR (G : G3) (s : S3) (a : Addr) : MO → Prop
  | .kc d => ∃ v u, L2.RelV v u ∧ G.base.IsCell a (some u) ∧ Rep G.R s.F s.io d v
  | .slp i => G.own i = some a
  | .dead => True
  | _ => False
/-- not a code object's table -/
def NoTbl (o : HO) : Prop := ∀ ps, o ≠ .tbl ps
theorem code_wit (c : Addr) (q : Str) : ∃ h : Heap, (∃ (oc : Obj) (vs : Array Value) (t : Tok), h.get? c = some oc ∧ oc.data = .fields vs ∧ vs[1]? = some (.str q t)) ∧ ∀ a o, h.get? a = some o → ∃ vs, o.data = .fields vs := by
  refine ⟨{ objs := Array.replicate (c + 1) { cls := .none, data := .fields #[.none, .str q 0] } }, ⟨{ cls := .none, data := .fields #[.none, .str q 0] }, _, 0, ?_, rfl, rfl⟩, fun a o e => ?_⟩
  · unfold Heap.get?
    simp
  · unfold Heap.get? at e
    simp only [Array.getElem?_replicate] at e
    split at e
    · cases e
    · split at e
      · cases e; exact ⟨_, rfl⟩
      · cases e
theorem code_ext {c : Addr} {q : Str} {φ : Heap → Prop} (e : HO.ext φ = LamX.CodeO c q) (k : ∀ h, φ h → ∃ a o, h.get? a = some o ∧ ∀ vs, o.data ≠ .fields vs) : False := by
  obtain ⟨h, h1, h2⟩ := code_wit c q
  unfold LamX.CodeO at e
  injection e with e
  have : φ h := by rw [e]; exact h1
  obtain ⟨a, o, e1, e2⟩ := k h this
  obtain ⟨vs, e3⟩ := h2 a o e1
  exact e2 vs e3
theorem dkO_code {w : World} {p : Addr} {xs : DkX} {c : Addr} {q : Str} (e : DkO w p xs = LamX.CodeO c q) : False :=
  code_ext e fun h ⟨_, _, _, o, es, ep, e1, _, e2, _⟩ => ⟨p, o, e1, fun vs z => by rw [e2] at z; cases z⟩
theorem cellO_code {a : Addr} {v : V} {c : Addr} {q : Str} (e : CellO a v = LamX.CodeO c q) : False :=
  code_ext e fun h ⟨_, _, o, e1, e2⟩ => ⟨a, o, e1, fun vs z => by rw [e2] at z; cases z⟩
/-- a thing that one owns -/
structure OwnH (o : HO) : Prop where
  tbl : NoTbl o
  code : ∀ c q, o ≠ LamX.CodeO c q
/-- a table of code objects: those that it tells never change, each has the name of its place -/
def TabR (s : S3) (p : NdefX.NTab) : Prop := ∃ ps : Array Value, s.H p.1 = some (.tbl ps) ∧ TriplesOk ps.toList ∧ ∀ (pos : Pos) (cv : Value), codeAmong pos ps.toList = some cv → ∃ c, cv = .ref c ∧ s.F c = some (LamX.CodeO c (p.2 pos.line pos.col))
theorem TabR.mono {s s' : S3} {p : NdefX.NTab} (hf : Same s.F s'.F) (hh : ∀ ps, s.H p.1 = some (.tbl ps) → s'.H p.1 = some (.tbl ps)) (x : TabR s p) : TabR s' p :=
  let ⟨ps, e, t, r⟩ := x
  ⟨ps, hh ps e, t, fun pos cv q => let ⟨c, e1, e2⟩ := r pos cv q; ⟨c, e1, hf _ _ e2⟩⟩
structure Wd (G : G3) (B : Addr → Prop) (st : Store) (s : S3) : Prop where
  sub : Same s.F s.H
  hid : ∀ a, B a → s.F a = none ∧ ∃ o, s.H a = some o ∧ OwnH o
  ftb : ∀ a o, s.F a = some o → NoTbl o
  dom : ∀ k a, s.io k = some a → k < st.length
  inj : ∀ j k a oj ok, s.io j = some a → s.io k = some a → st[j]? = some oj → oj.tr = true → st[k]? = some ok → ok.tr = true → j = k
  obj : ∀ k o, st[k]? = some o → o.tr = true → ∃ a, s.io k = some a ∧ ¬ B a ∧ s.F a = none ∧ ObjR G s a o
  unt : ∀ k o, st[k]? = some o → o.tr = false → ∃ a, s.io k = some a ∧ UntR G s a o
  tabs : ∀ p ∈ G.tabs, TabR s p
theorem Wd.freshF {G : G3} {B : Addr → Prop} {st : Store} {s : S3} (w : Wd G B st s) {p : Addr} (h : s.H p = none) : s.F p = none := by
  cases q : s.F p with
  | none => rfl
  | some o => rw [w.sub p o q] at h; cases h
theorem Wd.freshB {G : G3} {B : Addr → Prop} {st : Store} {s : S3} (w : Wd G B st s) {p : Addr} (h : s.H p = none) : ¬ B p := fun b => by
  obtain ⟨_, o, e, _⟩ := w.hid p b
  rw [e] at h; cases h
theorem ObjR.there {G : G3} {s : S3} {a : Addr} {o : MO} (x : ObjR G s a o) : ∃ u, s.H a = some u := by
  cases o with
  | lst xs => obtain ⟨vs, q, _⟩ := x; exact ⟨_, q⟩
  | dic ks us => obtain ⟨vs, q, _⟩ := x; exact ⟨_, q⟩
  | ddi ks us => obtain ⟨vs, q, _⟩ := x; exact ⟨_, q⟩
  | ins c fs => obtain ⟨_, _, _, _, q, _⟩ := x; exact ⟨_, q⟩
  | cell d => obtain ⟨_, q, _⟩ := x; exact ⟨_, q⟩
  | _ => exact False.elim x
theorem Wd.tabM {G : G3} {B : Addr → Prop} {st : Store} {s s' : S3} (w : Wd G B st s) (hf : Same s.F s'.F) (hh : ∀ P ps, s.H P = some (.tbl ps) → s'.H P = some (.tbl ps)) : ∀ p ∈ G.tabs, TabR s' p := fun p hp =>
  (w.tabs p hp).mono hf (hh p.1)
theorem upd_tbl {H : Hp} {p : Addr} {o : HO} (h : ∀ ps, H p ≠ some (.tbl ps)) : ∀ P ps, H P = some (.tbl ps) → upd H p o P = some (.tbl ps) := fun P ps e => by
  rw [upd_ne (fun z => by subst z; exact h ps e)]; exact e
theorem ObjR.ntbl {G : G3} {s : S3} {a : Addr} {o : MO} (x : ObjR G s a o) : ∀ ps, s.H a ≠ some (.tbl ps) := fun ps z => by
  cases o with
  | lst xs => obtain ⟨vs, q, _⟩ := x; rw [z] at q; cases q
  | dic ks us => obtain ⟨vs, q, _⟩ := x; rw [z] at q; cases q
  | ddi ks us => obtain ⟨vs, q, _⟩ := x; rw [z] at q; cases q
  | ins c fs => obtain ⟨_, _, _, _, q, _⟩ := x; rw [z] at q; cases q
  | cell d => obtain ⟨_, q, _⟩ := x; rw [z] at q; cases q
  | _ => exact False.elim x
theorem Wd.ntbl {G : G3} {B : Addr → Prop} {st : Store} {s : S3} (w : Wd G B st s) {p : Addr} (b : B p) : ∀ ps, s.H p ≠ some (.tbl ps) := fun ps z => by
  obtain ⟨_, o, e, n⟩ := w.hid p b
  rw [z] at e; cases e
  exact n.tbl ps rfl
theorem ntbl_none {H : Hp} {p : Addr} (h : H p = none) : ∀ ps, H p ≠ some (.tbl ps) := fun ps z => by rw [h] at z; cases z
theorem ObjR.tr {G : G3} {s : S3} {a : Addr} {o : MO} (x : ObjR G s a o) : o.tr = true := by
  cases o <;> first | rfl | exact False.elim x
theorem Wd.freshI {G : G3} {B : Addr → Prop} {st : Store} {s : S3} (w : Wd G B st s) {p : Addr} (h : s.H p = none) {k : Nat} {o : MO} (eo : st[k]? = some o) (t : o.tr = true) : s.io k ≠ some p := fun e => by
  obtain ⟨a, e', _, _, x⟩ := w.obj k o eo t
  rw [e] at e'; cases e'
  obtain ⟨u, q⟩ := x.there
  rw [h] at q; cases q
theorem UntR.mono {G : G3} {s s' : S3} {a : Addr} {o : MO} (hi : IoLe s.io s'.io) (hf : Same s.F s'.F) (x : UntR G s a o) : UntR G s' a o := by
  cases o with
  | kc d => obtain ⟨v, u, r, b, q⟩ := x; exact ⟨v, u, r, b, q.mono hf hi⟩
  | slp i => exact x
  | dead => exact x
  | _ => exact False.elim x
theorem Wd.untM {G : G3} {B : Addr → Prop} {st : Store} {s s' : S3} (w : Wd G B st s) (hi : IoLe s.io s'.io) (hf : Same s.F s'.F) : ∀ k o, st[k]? = some o → o.tr = false → ∃ a, s'.io k = some a ∧ UntR G s' a o := fun k o e t =>
  let ⟨a, e1, x⟩ := w.unt k o e t
  ⟨a, hi k a e1, x.mono hi hf⟩
theorem ObjR.mono {G : G3} {s s' : S3} {a : Addr} {o : MO} (hi : IoLe s.io s'.io) (hf : Same s.F s'.F) (hh : s'.H a = s.H a) (x : ObjR G s a o) : ObjR G s' a o := by
  cases o with
  | lst xs => obtain ⟨vs, e, r⟩ := x; exact ⟨vs, hh.trans e, r.mono hf hi⟩
  | dic ks us => obtain ⟨vs, e, e2, r⟩ := x; exact ⟨vs, hh.trans e, e2, r.mono hf hi⟩
  | ddi ks us => obtain ⟨vs, e, r⟩ := x; exact ⟨vs, hh.trans e, r.mono hf hi⟩
  | ins c fs => obtain ⟨C, dx, gs, e0, e, r⟩ := x; exact ⟨C, dx, gs, e0, hh.trans e, r.mono hf hi⟩
  | cell d => obtain ⟨v, e, r⟩ := x; exact ⟨v, hh.trans e, r.mono hf hi⟩
  | _ => exact False.elim x
/-- a new thing that never changes -/
def S3.froz (s : S3) (p : Addr) (o : HO) : S3 := ⟨s.io, upd s.F p o, upd s.H p o⟩
theorem same_upd {H : Hp} {p : Addr} {o : HO} (h : H p = none) : Same H (upd H p o) := fun b u e => by
  rw [upd_ne (ne_of_none e h)]; exact e
theorem Wd.froz {G : G3} {B : Addr → Prop} {st : Store} {s : S3} (w : Wd G B st s) {p : Addr} (h : s.H p = none) (o : HO) (nt : NoTbl o := by intro _ q; cases q) : Wd G B st (s.froz p o) ∧ Le B s (s.froz p o) := by
  have hF := w.freshF h
  have nB : ∀ a, B a → a ≠ p := fun a b e => w.freshB h (e ▸ b)
  refine ⟨⟨fun b u e => ?_, fun a b => ?_, fun a u e => ?_, w.dom, w.inj, fun k u e t => ?_, w.untM (IoLe.refl _) (same_upd hF), w.tabM (same_upd hF) (upd_tbl (ntbl_none h))⟩, IoLe.refl _, same_upd hF, fun a b => upd_ne (nB a b)⟩
  · show upd s.H p o b = some u
    have e : upd s.F p o b = some u := e
    by_cases hb : b = p
    · subst hb; rw [upd_same] at e ⊢; exact e
    · rw [upd_ne hb] at e ⊢; exact w.sub b u e
  · obtain ⟨h1, u, h2, h3⟩ := w.hid a b
    exact ⟨by show upd s.F p o a = none; rw [upd_ne (nB a b)]; exact h1, u, by show upd s.H p o a = some u; rw [upd_ne (nB a b)]; exact h2, h3⟩
  · have e : upd s.F p o a = some u := e
    by_cases hb : a = p
    · subst hb; rw [upd_same] at e; cases e; exact nt
    · rw [upd_ne hb] at e; exact w.ftb a u e
  · obtain ⟨a, e1, b1, f1, o1⟩ := w.obj k u e t
    have na : a ≠ p := fun z => w.freshI h e t (z ▸ e1)
    exact ⟨a, e1, b1, by show upd s.F p o a = none; rw [upd_ne na]; exact f1, ObjR.mono (s := s) (s' := s.froz p o) (IoLe.refl _) (same_upd hF) (upd_ne na) o1⟩
theorem Wd.newT {G : G3} {B : Addr → Prop} {st : Store} {s : S3} {xs : List D} {vs : List V} {Q : VK} (w : Wd G B st s) (r : RepL G.R s.F s.io xs vs)
    (k : ∀ (s' : S3) (v : V), Le B s s' → Wd G B st s' → Rep G.R s'.F s'.io (.tup xs) v → Q v s'.H) : NewT vs s.H Q := fun p o hp hd =>
  let ⟨w2, l2⟩ := w.froz hp (.frz o (.tup vs))
  k (s.froz p (.frz o (.tup vs))) (.ref p) l2 w2 (.tup ⟨o, upd_same, hd⟩ (r.mono l2.fr l2.io))
/-- an exception's class and dict -/
def ExR (G : G3) (s : S3) (c : String) (x : D) (cv : Value) (dd : Option Addr) : Prop :=
  match G.cls c with
  | none => cv = .type c
  | some C => cv = .ref C ∧ (match G.fld c with
    | none => dd = none
    | some f => ∃ d fs v, dd = some d ∧ s.F d = some (.xd fs) ∧ fs.lookup f = some v ∧ Rep G.R s.F s.io x v)
/-- the handled exception: where, its class' name, its field -/
abbrev Hex := Option (Addr × String × D × Option Addr)
/-- the field of an exception whose dict is dd -/
def XFld (G : G3) (s : S3) (c : String) (x : D) (dd : Option Addr) : Prop := ∀ C f, G.cls c = some C → G.fld c = some f → ∃ d fs v, dd = some d ∧ s.F d = some (.xd fs) ∧ fs.lookup f = some v ∧ Rep G.R s.F s.io x v
theorem XFld.mono {G : G3} {s s' : S3} {c : String} {x : D} {dd : Option Addr} (hi : IoLe s.io s'.io) (hf : Same s.F s'.F) (h : XFld G s c x dd) : XFld G s' c x dd := fun C f h1 h2 =>
  let ⟨d, fs, v, q1, q2, q3, q4⟩ := h C f h1 h2
  ⟨d, fs, v, q1, hf _ _ q2, q3, q4.mono hf hi⟩
def RepW (G : G3) (X : Hex) (B : Addr → Prop) (s : S3) : W → V → Prop
  | .val d, v => Rep G.R s.F s.io d v
  | .bor xs, v => ∃ p vs, v = .ref p ∧ B p ∧ s.H p = some (.lst vs) ∧ RepL G.R s.F s.io xs vs
  | .bod ks us, v => ∃ (p : Addr) (kvs : List (Key × V)), v = .ref p ∧ B p ∧ s.H p = some (.dK kvs) ∧ kvs.map (·.1) = ks ∧ RepL G.R s.F s.io us (kvs.map (·.2))
  | .bdd ks us, v => ∃ (p : Addr) (xs : DkX), v = .ref p ∧ B p ∧ s.H p = some (DkO G.w p xs) ∧ DkR G.R s.F s.io ks us xs
  | .exn c x, v => ∃ a dd, X = some (a, c, x, dd) ∧ v = .ref a ∧ XFld G s c x dd
  | .len xs, v => ∃ p vs o, v = .ref p ∧ B p ∧ s.H p = some (.frz o (.lst vs)) ∧ RepL G.R s.F s.io xs vs
theorem RepW.mono {G : G3} {X : Hex} {B : Addr → Prop} {s s' : S3} (l : Le B s s') {w : W} {v : V} (r : RepW G X B s w v) : RepW G X B s' w v := by
  cases w with
  | val d => exact Rep.mono l.fr l.io r
  | bor xs => obtain ⟨p, vs, e, b, h, r⟩ := r; exact ⟨p, vs, e, b, (l.hid p b).trans h, r.mono l.fr l.io⟩
  | bod ks us => obtain ⟨p, vs, e, b, h, e2, r⟩ := r; exact ⟨p, vs, e, b, (l.hid p b).trans h, e2, r.mono l.fr l.io⟩
  | bdd ks us => obtain ⟨p, vs, e, b, h, r⟩ := r; exact ⟨p, vs, e, b, (l.hid p b).trans h, r.mono l.fr l.io⟩
  | exn c x =>
    obtain ⟨a, dd, e1, e2, xf⟩ := r
    exact ⟨a, dd, e1, e2, xf.mono l.io l.fr⟩
  | len xs => obtain ⟨p, vs, o, e, b, h, r⟩ := r; exact ⟨p, vs, o, e, b, (l.hid p b).trans h, r.mono l.fr l.io⟩
/-- the slots -/
structure Slo (G : G3) (X : Hex) (B0 B : Addr → Prop) (s : S3) (u : Sl3) (z : L2.St) : Prop where
  len : u.length = z.length
  ex : ∃ ow : Nat → Addr, (∀ (i : Nat) (w : W), u[i]? = some (some w) → ∃ v, z[i]? = some (some v) ∧ RepW G X B s w v ∧ (w.own = true → v = .ref (ow i) ∧ ¬ B0 (ow i))) ∧
    ∀ (i j : Nat) (w w' : W), w.own = true → w'.own = true → u[i]? = some (some w) → u[j]? = some (some w') → ow i = ow j → i = j
theorem Slo.mono {G : G3} {X : Hex} {B0 B : Addr → Prop} {s s' : S3} {u : Sl3} {z : L2.St} (l : Le B s s') (h : Slo G X B0 B s u z) : Slo G X B0 B s' u z := by
  obtain ⟨hl, ow, h1, h2⟩ := h
  exact ⟨hl, ow, fun i w e => let ⟨v, e1, r, q⟩ := h1 i w e; ⟨v, e1, r.mono l, q⟩, h2⟩
theorem Slo.get {G : G3} {X : Hex} {B0 B : Addr → Prop} {s : S3} {u : Sl3} {z : L2.St} (h : Slo G X B0 B s u z) {i : Nat} {w : W} (e : u[i]? = some (some w)) : ∃ v, z[i]? = some (some v) ∧ RepW G X B s w v := by
  obtain ⟨hl, ow, h1, h2⟩ := h
  obtain ⟨v, e1, r, _⟩ := h1 i w e
  exact ⟨v, e1, r⟩
/-! ### what is wanted behind a part -/
def Post {α β : Type} (G : G3) (B : Addr → Prop) (R : S3 → α → β → Prop) (E : XK) (s : S3) (Q : β → Hp → Prop) : Res α → Prop
  | .ok a st' => ∀ (s' : S3) (b : β), Le B s s' → Wd G B st' s' → R s' a b → Q b s'.H
  | .err c x st' => ∀ (s' : S3) (cv : Value) (dd : Option Addr), Le B s s' → Wd G B st' s' → ExR G s' c x cv dd → E cv dd s'.H
  | .bad => False
theorem Post.mono {α β : Type} {G : G3} {B : Addr → Prop} {R : S3 → α → β → Prop} {E : XK} {s s1 : S3} {Q : β → Hp → Prop} {r : Res α} (l : Le B s s1) (h : Post G B R E s Q r) : Post G B R E s1 Q r := by
  cases r with
  | ok a st' => exact fun s' b l' w r => h s' b (l.trans l') w r
  | err c x st' => exact fun s' cv dd l' w r => h s' cv dd (l.trans l') w r
  | bad => exact h
theorem Post.bind {α β γ δ : Type} {G : G3} {B : Addr → Prop} {R : S3 → α → β → Prop} {R' : S3 → γ → δ → Prop} {E : XK} {s : S3} {Q : δ → Hp → Prop} {Q1 : β → Hp → Prop} {m : M α} {f : α → M γ} {st : Store} (h : Post G B R' E s Q (M.bind m f st))
    (k : ∀ a st' s' b, Le B s s' → Wd G B st' s' → R s' a b → Post G B R' E s' Q (f a st') → Q1 b s'.H) : Post G B R E s Q1 (m st) := by
  unfold M.bind at h
  cases e : m st with
  | ok a st' =>
    rw [e] at h
    exact fun s' b l w r => k a st' s' b l w r (Post.mono l h)
  | err c x st' => rw [e] at h; exact h
  | bad => rw [e] at h; exact h
theorem Post.pure {α β : Type} {G : G3} {B : Addr → Prop} {R : S3 → α → β → Prop} {E : XK} {s : S3} {Q : β → Hp → Prop} {a : α} {b : β} {st : Store} (h : Post G B R E s Q (.ok a st)) (w : Wd G B st s) (r : R s a b) : Q b s.H := h s b (Le.refl _) w r
/-! ### the judgements -/
abbrev EM := Sl3 → M W
abbrev TM := Sl3 → M Bool
abbrev AM := Sl3 → M (List W)
inductive RepWs (G : G3) (X : Hex) (B : Addr → Prop) (s : S3) : List W → List V → Prop where
  | nil : RepWs G X B s [] []
  | cons {w v ws vs} : RepW G X B s w v → RepWs G X B s ws vs → RepWs G X B s (w :: ws) (v :: vs)
theorem RepWs.mono {G : G3} {X : Hex} {B : Addr → Prop} {s s' : S3} (l : Le B s s') : ∀ {ws : List W} {vs : List V}, RepWs G X B s ws vs → RepWs G X B s' ws vs
  | _, _, .nil => .nil
  | _, _, .cons r t => .cons (r.mono l) (RepWs.mono l t)
theorem RepWs.length {G : G3} {X : Hex} {B : Addr → Prop} {s : S3} : ∀ {ws : List W} {vs : List V}, RepWs G X B s ws vs → ws.length = vs.length
  | _, _, .nil => rfl
  | _, _, .cons _ t => congrArg Nat.succ (RepWs.length t)
/-- where a part stands: the context, the law's names, the handled exception, the wish about exceptions -/
structure P3 where
  X : Cx
  G : G3
  hx : Hex
  wx : WX
  hK : X.K = G.K
  hw : X.w = G.w
/-- the readings that the mirrors give -/
def tE (G : G3) (hx : Hex) (wx : WX) (m : EM) : TE := fun z H Q => ∃ (B0 B : Addr → Prop) (s : S3) (st : Store) (u : Sl3), s.H = H ∧ Wd G B st s ∧ Slo G hx B0 B s u z ∧ Post G B (RepW G hx B) (fun c d H => wx c d z H) s Q (m u st)
def tT (G : G3) (hx : Hex) (wx : WX) (m : TM) : TT := fun z H Q => ∃ (B0 B : Addr → Prop) (s : S3) (st : Store) (u : Sl3), s.H = H ∧ Wd G B st s ∧ Slo G hx B0 B s u z ∧ Post G B (fun _ a b => a = b) (fun c d H => wx c d z H) s Q (m u st)
def tA (G : G3) (hx : Hex) (wx : WX) (m : AM) : TA := fun z H Q => ∃ (B0 B : Addr → Prop) (s : S3) (st : Store) (u : Sl3), s.H = H ∧ Wd G B st s ∧ Slo G hx B0 B s u z ∧ Post G B (RepWs G hx B) (fun c d H => wx c d z H) s Q (m u st)
structure ME (P : P3) (e : Expr) (m : EM) : Prop where
  pe : PE P.X e (tE P.G P.hx P.wx m)
structure MT (P : P3) (e : Expr) (m : TM) : Prop where
  pt : PT P.X e (tT P.G P.hx P.wx m)
structure MW (P : P3) (e : Expr) (m : TM) : Prop where
  pw : PW P.X e (tT P.G P.hx P.wx m)
structure MA (P : P3) (es : List Expr) (m : AM) : Prop where
  pa : PA P.X es (tA P.G P.hx P.wx m)
section
variable {P : P3} {e : Expr} {es : List Expr}
theorem ME.mk' {m : EM} {t : TE} (h : PE P.X e t) (k : ∀ (B0 B : Addr → Prop) (s : S3) (st : Store) (u : Sl3) (z : L2.St) (Q : VK), Wd P.G B st s → Slo P.G P.hx B0 B s u z →
    Post P.G B (RepW P.G P.hx B) (fun c d H => P.wx c d z H) s Q (m u st) → t z s.H Q) : ME P e m :=
  ⟨⟨fun pins s0 z H Q I ⟨B0, B, s, st, u, e, wd, sl, p⟩ => by subst e; exact h.run pins s0 z _ Q I (k B0 B s st u z Q wd sl p)⟩⟩
theorem MT.mk' {m : TM} {t : TT} (h : PT P.X e t) (k : ∀ (B0 B : Addr → Prop) (s : S3) (st : Store) (u : Sl3) (z : L2.St) (Q : Bool → Hp → Prop), Wd P.G B st s → Slo P.G P.hx B0 B s u z →
    Post P.G B (fun _ a b => a = b) (fun c d H => P.wx c d z H) s Q (m u st) → t z s.H Q) : MT P e m :=
  ⟨⟨fun pins s0 z H Q I ⟨B0, B, s, st, u, e, wd, sl, p⟩ => by subst e; exact h.run pins s0 z _ Q I (k B0 B s st u z Q wd sl p)⟩⟩
theorem MW.mk' {m : TM} {t : TT} (h : PW P.X e t) (k : ∀ (B0 B : Addr → Prop) (s : S3) (st : Store) (u : Sl3) (z : L2.St) (Q : Bool → Hp → Prop), Wd P.G B st s → Slo P.G P.hx B0 B s u z →
    Post P.G B (fun _ a b => a = b) (fun c d H => P.wx c d z H) s Q (m u st) → t z s.H Q) : MW P e m :=
  ⟨⟨fun whole pins s0 z H Q I ⟨B0, B, s, st, u, e, wd, sl, p⟩ => by subst e; exact h.run whole pins s0 z _ Q I (k B0 B s st u z Q wd sl p)⟩⟩
theorem MA.mk' {m : AM} {t : TA} (h : PA P.X es t) (k : ∀ (B0 B : Addr → Prop) (s : S3) (st : Store) (u : Sl3) (z : L2.St) (Q : List V → Hp → Prop), Wd P.G B st s → Slo P.G P.hx B0 B s u z →
    Post P.G B (RepWs P.G P.hx B) (fun c d H => P.wx c d z H) s Q (m u st) → t z s.H Q) : MA P es m :=
  ⟨⟨fun pos pins s0 z H Q I ⟨B0, B, s, st, u, e, wd, sl, p⟩ => by subst e; exact h.run pos pins s0 z _ Q I (k B0 B s st u z Q wd sl p)⟩⟩
theorem ME.out {m : EM} (h : ME P e m) : ∃ t, PE P.X e t ∧ ∀ (B0 B : Addr → Prop) (s : S3) (st : Store) (u : Sl3) (z : L2.St) (Q : VK), Wd P.G B st s → Slo P.G P.hx B0 B s u z →
    Post P.G B (RepW P.G P.hx B) (fun c d H => P.wx c d z H) s Q (m u st) → t z s.H Q := ⟨_, h.pe, fun B0 B s st u z Q wd sl p => ⟨B0, B, s, st, u, rfl, wd, sl, p⟩⟩
theorem MT.out {m : TM} (h : MT P e m) : ∃ t, PT P.X e t ∧ ∀ (B0 B : Addr → Prop) (s : S3) (st : Store) (u : Sl3) (z : L2.St) (Q : Bool → Hp → Prop), Wd P.G B st s → Slo P.G P.hx B0 B s u z →
    Post P.G B (fun _ a b => a = b) (fun c d H => P.wx c d z H) s Q (m u st) → t z s.H Q := ⟨_, h.pt, fun B0 B s st u z Q wd sl p => ⟨B0, B, s, st, u, rfl, wd, sl, p⟩⟩
theorem MW.out {m : TM} (h : MW P e m) : ∃ t, PW P.X e t ∧ ∀ (B0 B : Addr → Prop) (s : S3) (st : Store) (u : Sl3) (z : L2.St) (Q : Bool → Hp → Prop), Wd P.G B st s → Slo P.G P.hx B0 B s u z →
    Post P.G B (fun _ a b => a = b) (fun c d H => P.wx c d z H) s Q (m u st) → t z s.H Q := ⟨_, h.pw, fun B0 B s st u z Q wd sl p => ⟨B0, B, s, st, u, rfl, wd, sl, p⟩⟩
theorem MA.out {m : AM} (h : MA P es m) : ∃ t, PA P.X es t ∧ ∀ (B0 B : Addr → Prop) (s : S3) (st : Store) (u : Sl3) (z : L2.St) (Q : List V → Hp → Prop), Wd P.G B st s → Slo P.G P.hx B0 B s u z →
    Post P.G B (RepWs P.G P.hx B) (fun c d H => P.wx c d z H) s Q (m u st) → t z s.H Q := ⟨_, h.pa, fun B0 B s st u z Q wd sl p => ⟨B0, B, s, st, u, rfl, wd, sl, p⟩⟩
end
/-! ### a new list, for whoever takes it -/
abbrev FM := Sl3 → M (List D)
def plus (B : Addr → Prop) (p : Addr) : Addr → Prop := fun a => B a ∨ a = p
def PostF (G : G3) (B : Addr → Prop) (E : XK) (s : S3) (Q : VK) : Res (List D) → Prop
  | .ok xs st' => ∀ (s' : S3) (p : Addr) (vs : List V), Le B s s' → Wd G (plus B p) st' s' → ¬ B p → s'.H p = some (.lst vs) → RepL G.R s'.F s'.io xs vs → Q (.ref p) s'.H
  | .err c x st' => ∀ (s' : S3) (cv : Value) (dd : Option Addr), Le B s s' → Wd G B st' s' → ExR G s' c x cv dd → E cv dd s'.H
  | .bad => False
def tF (G : G3) (hx : Hex) (wx : WX) (m : FM) : TE := fun z H Q => ∃ (B0 B : Addr → Prop) (s : S3) (st : Store) (u : Sl3), s.H = H ∧ Wd G B st s ∧ Slo G hx B0 B s u z ∧ PostF G B (fun c d H => wx c d z H) s Q (m u st)
structure MF (P : P3) (e : Expr) (m : FM) : Prop where
  pe : PE P.X e (tF P.G P.hx P.wx m)
theorem MF.mk' {P : P3} {e : Expr} {m : FM} {t : TE} (h : PE P.X e t) (k : ∀ (B0 B : Addr → Prop) (s : S3) (st : Store) (u : Sl3) (z : L2.St) (Q : VK), Wd P.G B st s → Slo P.G P.hx B0 B s u z →
    PostF P.G B (fun c d H => P.wx c d z H) s Q (m u st) → t z s.H Q) : MF P e m :=
  ⟨⟨fun pins s0 z H Q I ⟨B0, B, s, st, u, e, wd, sl, p⟩ => by subst e; exact h.run pins s0 z _ Q I (k B0 B s st u z Q wd sl p)⟩⟩
theorem MF.out {P : P3} {e : Expr} {m : FM} (h : MF P e m) : ∃ t, PE P.X e t ∧ ∀ (B0 B : Addr → Prop) (s : S3) (st : Store) (u : Sl3) (z : L2.St) (Q : VK), Wd P.G B st s → Slo P.G P.hx B0 B s u z →
    PostF P.G B (fun c d H => P.wx c d z H) s Q (m u st) → t z s.H Q := ⟨_, h.pe, fun B0 B s st u z Q wd sl p => ⟨B0, B, s, st, u, rfl, wd, sl, p⟩⟩
section
variable {G : G3} {B : Addr → Prop} {E : XK} {s s1 : S3} {Q : VK}
theorem PostF.mono {r : Res (List D)} (l : Le B s s1) (h : PostF G B E s Q r) : PostF G B E s1 Q r := by
  cases r with
  | ok a st' => exact fun s' p vs l' w nb hp r => h s' p vs (l.trans l') w nb hp r
  | err c x st' => exact fun s' cv dd l' w r => h s' cv dd (l.trans l') w r
  | bad => exact h
theorem PostF.bind {α β : Type} {R : S3 → α → β → Prop} {Q1 : β → Hp → Prop} {m : M α} {f : α → M (List D)} {st : Store} (h : PostF G B E s Q (M.bind m f st))
    (k : ∀ a st' s' b, Le B s s' → Wd G B st' s' → R s' a b → PostF G B E s' Q (f a st') → Q1 b s'.H) : Post G B R E s Q1 (m st) := by
  unfold M.bind at h
  cases e : m st with
  | ok a st' =>
    rw [e] at h
    exact fun s' b l w r => k a st' s' b l w r (PostF.mono l h)
  | err c x st' => rw [e] at h; exact h
  | bad => rw [e] at h; exact h
theorem PostF.of_chk {c : Prop} [Decidable c] {f : M (List D)} {st : Store} (h : PostF G B E s Q (M.bind (M.chk c) (fun _ => f) st)) : c ∧ PostF G B E s Q (f st) := by
  by_cases hc : c
  · refine ⟨hc, ?_⟩
    have e : M.bind (M.chk c) (fun _ => f) st = f st := by unfold M.bind M.chk; rw [if_pos hc]
    rw [e] at h; exact h
  · have e : M.bind (M.chk c) (fun _ => f) st = .bad := by unfold M.bind M.chk; rw [if_neg hc]
    rw [e] at h; exact h.elim
theorem Wd.less {B' : Addr → Prop} {st : Store} (w : Wd G B' st s) (h : ∀ a, B a → B' a) : Wd G B st s :=
  ⟨w.sub, fun a b => w.hid a (h a b), w.ftb, w.dom, w.inj, fun k o e t => let ⟨a, e1, b, f, r⟩ := w.obj k o e t; ⟨a, e1, fun z => b (h a z), f, r⟩, w.unt, w.tabs⟩
/-- a list of one's own is let go: it never changes from here on -/
theorem freeze_le {p : Addr} {ho : HO} {st : Store} (w : Wd G (plus B p) st s) : Le B s ⟨s.io, upd s.F p ho, s.H⟩ :=
  ⟨IoLe.refl _, same_upd (w.hid p (.inr rfl)).1, fun _ _ => rfl⟩
theorem freeze_wd {p : Addr} {ho : HO} {st : Store} (w : Wd G (plus B p) st s) (nb : ¬ B p) (h : s.H p = some ho) : Wd G B st ⟨s.io, upd s.F p ho, s.H⟩ := by
  have hF := (w.hid p (.inr rfl)).1
  have nt : NoTbl ho := by
    obtain ⟨_, o, e, n⟩ := w.hid p (.inr rfl)
    rw [h] at e; cases e; exact n.tbl
  refine ⟨fun b o e => ?_, fun a b => ?_, fun a o e => ?_, w.dom, w.inj, fun k o e t => ?_, w.untM (IoLe.refl _) (same_upd hF), w.tabM (same_upd hF) fun _ _ e => e⟩
  · have e : upd s.F p ho b = some o := e
    by_cases hb : b = p
    · subst hb; rw [upd_same] at e; cases e; exact h
    · rw [upd_ne hb] at e; exact w.sub b o e
  · obtain ⟨h1, h2⟩ := w.hid a (.inl b)
    exact ⟨by show upd s.F p ho a = none; rw [upd_ne (show a ≠ p from fun z => by subst z; exact nb b)]; exact h1, h2⟩
  · have e : upd s.F p ho a = some o := e
    by_cases hb : a = p
    · subst hb; rw [upd_same] at e; cases e; exact nt
    · rw [upd_ne hb] at e; exact w.ftb a o e
  · obtain ⟨a, e1, b1, f1, o1⟩ := w.obj k o e t
    have na : a ≠ p := fun z => b1 (.inr z)
    exact ⟨a, e1, fun z => b1 (.inl z), by show upd s.F p ho a = none; rw [upd_ne na]; exact f1, ObjR.mono (s := s) (s' := ⟨s.io, upd s.F p ho, s.H⟩) (IoLe.refl _) (same_upd hF) rfl o1⟩
/-- a new list is laid -/
theorem own_wd {p : Addr} {ho : HO} {st : Store} (w : Wd G B st s) (hp : s.H p = none) (nt : OwnH ho := by exact ⟨fun _ q => (by cases q), fun _ _ q => (by first | exact dkO_code q | exact cellO_code q | (unfold LamX.CodeO at q; cases q))⟩) : Wd G (plus B p) st ⟨s.io, s.F, upd s.H p ho⟩ ∧ Le B s ⟨s.io, s.F, upd s.H p ho⟩ := by
  have nB : ∀ a, B a → a ≠ p := fun a b e => w.freshB hp (e ▸ b)
  have hF := w.freshF hp
  refine ⟨⟨fun b o e => ?_, fun a b => ?_, w.ftb, w.dom, w.inj, fun k o e t => ?_, w.untM (IoLe.refl _) (Same.refl _), w.tabM (Same.refl _) (upd_tbl (ntbl_none hp))⟩, IoLe.refl _, Same.refl _, fun a b => upd_ne (nB a b)⟩
  · show upd s.H p _ b = some o
    rw [upd_ne (fun z => by subst z; have e : s.F b = some o := e; rw [hF] at e; cases e)]; exact w.sub b o e
  · rcases b with b | b
    · obtain ⟨h1, o, h2, h3⟩ := w.hid a b
      exact ⟨h1, o, by show upd s.H p _ a = some o; rw [upd_ne (nB a b)]; exact h2, h3⟩
    · subst b
      exact ⟨hF, _, upd_same, nt⟩
  · obtain ⟨a, e1, b1, f1, o1⟩ := w.obj k o e t
    have na : a ≠ p := fun z => w.freshI hp e t (z ▸ e1)
    exact ⟨a, e1, fun z => z.elim b1 na, f1, ObjR.mono (s := s) (s' := ⟨s.io, s.F, upd s.H p ho⟩) (IoLe.refl _) (Same.refl _) (upd_ne na) o1⟩
theorem PostF.fresh {p : Addr} {xs : List D} {vs : List V} {st : Store} (h : PostF G B E s Q (.ok xs st)) (w : Wd G B st s) (r : RepL G.R s.F s.io xs vs) (hp : s.H p = none) : Q (.ref p) (upd s.H p (.lst vs)) :=
  let ⟨w2, l2⟩ := own_wd (ho := .lst vs) w hp
  h ⟨s.io, s.F, upd s.H p (.lst vs)⟩ p vs l2 w2 (w.freshB hp) upd_same r
end
/-! ### statements -/
inductive SRes where
  | nx (u : Sl3) (st : Store) | rt (w : W) (st : Store) | bk (u : Sl3) (st : Store) | ct (u : Sl3) (st : Store)
  | err (c : String) (x : D) (u : Sl3) (st : Store) | bad
abbrev SM := Sl3 → Store → SRes
def PostS (G : G3) (hx : Hex) (wx : WX) (B0 : Addr → Prop) (s : S3) (D : Ends) : SRes → Prop
  | .nx u' st' => ∀ (B' : Addr → Prop) (s' : S3) (z' : L2.St), (∀ a, B0 a → B' a) → Le B0 s s' → Wd G B' st' s' → Slo G hx B0 B' s' u' z' → D.nx z' s'.H
  | .bk u' st' => ∀ (B' : Addr → Prop) (s' : S3) (z' : L2.St), (∀ a, B0 a → B' a) → Le B0 s s' → Wd G B' st' s' → Slo G hx B0 B' s' u' z' → D.bk z' s'.H
  | .ct u' st' => ∀ (B' : Addr → Prop) (s' : S3) (z' : L2.St), (∀ a, B0 a → B' a) → Le B0 s s' → Wd G B' st' s' → Slo G hx B0 B' s' u' z' → D.ct z' s'.H
  | .rt w st' => ∀ (B' : Addr → Prop) (s' : S3) (v : V), (∀ a, B0 a → B' a) → Le B0 s s' → Wd G B' st' s' → RepR G B0 B' s' w v → D.rt v s'.H
  | .err c x u' st' => ∀ (B' : Addr → Prop) (s' : S3) (z' : L2.St) (cv : Value) (dd : Option Addr), (∀ a, B0 a → B' a) → Le B0 s s' → Wd G B' st' s' → Slo G hx B0 B' s' u' z' → ExR G s' c x cv dd → wx cv dd z' s'.H
  | .bad => False
where
  /-- what is handed back: data, or a list of one's own (let go) -/
  RepR (G : G3) (B0 B : Addr → Prop) (s : S3) : W → V → Prop
    | .val d, v => Rep G.R s.F s.io d v
    | .bor xs, v => ∃ p vs, v = .ref p ∧ B p ∧ ¬ B0 p ∧ s.H p = some (.lst vs) ∧ RepL G.R s.F s.io xs vs
    | .bod ks us, v => ∃ (p : Addr) (kvs : List (Key × V)), v = .ref p ∧ B p ∧ ¬ B0 p ∧ s.H p = some (.dK kvs) ∧ kvs.map (·.1) = ks ∧ RepL G.R s.F s.io us (kvs.map (·.2))
    | .bdd ks us, v => ∃ (p : Addr) (xs : DkX), v = .ref p ∧ B p ∧ ¬ B0 p ∧ s.H p = some (DkO G.w p xs) ∧ DkR G.R s.F s.io ks us xs
    | .exn _ _, _ => False
    | .len _, _ => False
def tS (G : G3) (hx : Hex) (wx : WX) (m : SM) : TS := fun D z H => ∃ (B0 B : Addr → Prop) (s : S3) (o : Store) (u : Sl3), s.H = H ∧ (∀ a, B0 a → B a) ∧ Wd G B o s ∧ Slo G hx B0 B s u z ∧ PostS G hx wx B0 s D (m u o)
structure MS (P : P3) (st : Stmt) (m : SM) : Prop where
  ps : PS P.X st (tS P.G P.hx P.wx m)
structure MSs (P : P3) (st : List Stmt) (m : SM) : Prop where
  pss : PSs P.X st (tS P.G P.hx P.wx m)
theorem MS.mk' {P : P3} {st : Stmt} {m : SM} {t : TS} (h : PS P.X st t) (k : ∀ (B0 B : Addr → Prop) (s : S3) (o : Store) (u : Sl3) (z : L2.St) (D : Ends), (∀ a, B0 a → B a) → Wd P.G B o s → Slo P.G P.hx B0 B s u z → PostS P.G P.hx P.wx B0 s D (m u o) → t D z s.H) : MS P st m :=
  ⟨⟨fun pins s0 z H D I ⟨B0, B, s, o, u, e, b, wd, sl, p⟩ => by subst e; exact h.run pins s0 z _ D I (k B0 B s o u z D b wd sl p)⟩⟩
theorem MSs.mk' {P : P3} {st : List Stmt} {m : SM} {t : TS} (h : PSs P.X st t) (k : ∀ (B0 B : Addr → Prop) (s : S3) (o : Store) (u : Sl3) (z : L2.St) (D : Ends), (∀ a, B0 a → B a) → Wd P.G B o s → Slo P.G P.hx B0 B s u z → PostS P.G P.hx P.wx B0 s D (m u o) → t D z s.H) : MSs P st m :=
  ⟨⟨fun pins s0 z H D I ⟨B0, B, s, o, u, e, b, wd, sl, p⟩ => by subst e; exact h.run pins s0 z _ D I (k B0 B s o u z D b wd sl p)⟩⟩
theorem MS.out {P : P3} {st : Stmt} {m : SM} (h : MS P st m) : ∃ t, PS P.X st t ∧ ∀ (B0 B : Addr → Prop) (s : S3) (o : Store) (u : Sl3) (z : L2.St) (D : Ends), (∀ a, B0 a → B a) → Wd P.G B o s → Slo P.G P.hx B0 B s u z → PostS P.G P.hx P.wx B0 s D (m u o) → t D z s.H :=
  ⟨_, h.ps, fun B0 B s o u z D b wd sl p => ⟨B0, B, s, o, u, rfl, b, wd, sl, p⟩⟩
theorem MSs.out {P : P3} {st : List Stmt} {m : SM} (h : MSs P st m) : ∃ t, PSs P.X st t ∧ ∀ (B0 B : Addr → Prop) (s : S3) (o : Store) (u : Sl3) (z : L2.St) (D : Ends), (∀ a, B0 a → B a) → Wd P.G B o s → Slo P.G P.hx B0 B s u z → PostS P.G P.hx P.wx B0 s D (m u o) → t D z s.H :=
  ⟨_, h.pss, fun B0 B s o u z D b wd sl p => ⟨B0, B, s, o, u, rfl, b, wd, sl, p⟩⟩
theorem PostS.mono {G : G3} {hx : Hex} {wx : WX} {B0 : Addr → Prop} {s s1 : S3} {D : Ends} {r : SRes} (l : Le B0 s s1) (h : PostS G hx wx B0 s D r) : PostS G hx wx B0 s1 D r := by
  cases r with
  | nx u' st' => exact fun B' s' z' b l' w r => h B' s' z' b (l.trans l') w r
  | bk u' st' => exact fun B' s' z' b l' w r => h B' s' z' b (l.trans l') w r
  | ct u' st' => exact fun B' s' z' b l' w r => h B' s' z' b (l.trans l') w r
  | rt w st' => exact fun B' s' v b l' w r => h B' s' v b (l.trans l') w r
  | err c x u' st' => exact fun B' s' z' cv dd b l' w r => h B' s' z' cv dd b (l.trans l') w r
  | bad => exact h
end M3
namespace M3
open PySem PySem.Spec PyProof.Rows L2
/-! ### parts of data -/
def W.d : W → Option D
  | .val d => some d
  | _ => none
/-- as it is read -/
def W.rd : W → Option D
  | .val d => some d
  | .bor xs => some (.lst xs)
  | .len xs => some (.ro xs)
  | _ => none
def asDs : List W → Option (List D)
  | [] => some []
  | .val d :: ws => (asDs ws).map (d :: ·)
  | _ :: _ => none
section
variable {G : G3} {X : Hex} {B : Addr → Prop} {s : S3}
theorem rd_ok {w : M3.W} {v : V} {d : D} {st : Store} (wd : Wd G B st s) (r : RepW G X B s w v) (e : w.rd = some d) : Rep G.R s.H s.io d v := by
  cases w with
  | val d' => cases e; exact Rep.mono wd.sub (IoLe.refl _) r
  | bor xs => cases e; obtain ⟨p, vs, rfl, b, h, r⟩ := r; exact .lst h (r.mono wd.sub (IoLe.refl _))
  | bod ks us => cases e
  | bdd ks us => cases e
  | exn c x => cases e
  | len xs => cases e; obtain ⟨p, vs, o, rfl, b, h, r⟩ := r; exact .ro (.inl (.inr ⟨o, h⟩)) (r.mono wd.sub (IoLe.refl _))
theorem asDs_ok : ∀ {ws : List W} {vs : List V} {ds : List D}, RepWs G X B s ws vs → asDs ws = some ds → RepL G.R s.F s.io ds vs
  | _, _, _, .nil, e => by cases e; exact .nil
  | w :: ws, _, ds, .cons r t, e => by
    cases w with
    | val d =>
      unfold asDs at e
      cases h : asDs ws with
      | none => rw [h] at e; cases e
      | some ds' => rw [h] at e; cases e; exact .cons r (asDs_ok t h)
    | _ => cases e
end
section
variable {α β γ δ : Type} {G : G3} {B : Addr → Prop} {R : S3 → α → β → Prop} {R' : S3 → γ → δ → Prop} {E : XK} {s : S3} {Q : δ → Hp → Prop}
theorem Post.of_chk {c : Prop} [Decidable c] {f : M γ} {st : Store} (h : Post G B R' E s Q (M.bind (M.chk c) (fun _ => f) st)) : c ∧ Post G B R' E s Q (f st) := by
  by_cases hc : c
  · refine ⟨hc, ?_⟩
    have e : M.bind (M.chk c) (fun _ => f) st = f st := by unfold M.bind M.chk; rw [if_pos hc]
    rw [e] at h; exact h
  · have e : M.bind (M.chk c) (fun _ => f) st = .bad := by unfold M.bind M.chk; rw [if_neg hc]
    rw [e] at h; exact h.elim
theorem Post.of_of {a : Option α} {f : α → M γ} {st : Store} (h : Post G B R' E s Q (M.bind (M.of a) f st)) : ∃ x, a = some x ∧ Post G B R' E s Q (f x st) := by
  cases a with
  | none => exact h.elim
  | some x => exact ⟨x, rfl, h⟩
end
section
variable {G : G3} {B : Addr → Prop} {E : XK} {s : S3} {Q : VK}
theorem PostF.of_of {α : Type} {a : Option α} {f : α → M (List D)} {st : Store} (h : PostF G B E s Q (M.bind (M.of a) f st)) : ∃ x, a = some x ∧ PostF G B E s Q (f x st) := by
  cases a with
  | none => exact h.elim
  | some x => exact ⟨x, rfl, h⟩
end
/-! ### names, constants -/
def eVar (i : Nat) : EM := fun u st => match u[i]? with
  | some (some w) => .ok w st
  | _ => .bad
def eC (d : D) : EM := fun _ => M.pure (.val d)
section
variable {P : P3} {pos p pos' : Pos}
theorem me_var (i : Nat) {x : Str} (hN : P.X.N[i]? = some x := by rfl) (hv : Vis P.X.env.scope x := by first | exact Or.inl rfl | exact Or.inr (Or.inl rfl) | exact Or.inr (Or.inr rfl)) (hd : (x == ("__debug__" : Str)) = false := by decide)
    (hcd : (x == ("__classdict__" : Str)) = false := by decide) : ME P (.Name x pos) (eVar i) := by
  refine ME.mk' (pe_var hN hv hd hcd) fun B0 B s st u z Q wd sl h => ?_
  unfold eVar at h
  cases e : u[i]? with
  | none => rw [e] at h; exact h.elim
  | some o =>
    cases o with
    | none => rw [e] at h; exact h.elim
    | some w =>
      rw [e] at h
      obtain ⟨v, e1, r⟩ := sl.get e
      exact ⟨v, e1, h.pure wd r⟩
theorem me_c {e : Expr} {d : D} {v : V} (h : PE P.X e (tC v)) (r : ∀ F io, Rep P.G.R F io d v) : ME P e (eC d) :=
  ME.mk' h fun B0 B s st u z Q wd sl h => h.pure wd (show Rep P.G.R s.F s.io d v from r _ _)
theorem me_int {i j} : ME P (.Constant (.int i) j pos) (eC (.int i)) := me_c pe_int fun _ _ => .int
theorem me_bl {b j} : ME P (.Constant (.bool b) j pos) (eC (.bl b)) := me_c pe_bl fun _ _ => .bl
theorem me_non {j} : ME P (.Constant .none j pos) (eC .non) := me_c pe_non fun _ _ => .non
theorem me_str {x j} : ME P (.Constant (.str x) j pos) (eC (.str x)) := me_c pe_str fun _ _ => .str
/-! ### arguments, displays -/
def aNil : AM := fun _ => M.pure []
def aCons (m : EM) (ms : AM) : AM := fun u => M.bind (m u) fun w => M.bind (ms u) fun ws => M.pure (w :: ws)
theorem ma_nil : MA P [] aNil := MA.mk' pa_nil fun B0 B s st u z Q wd sl h => h.pure wd .nil
theorem ma_cons {e : Expr} {es : List Expr} {m : EM} {ms : AM} (he : ME P e m) (hs : MA P es ms) (hst : starEach (e :: es) P.X.env = (false, eval e P.X.env) :: starEach es P.X.env := by rfl) : MA P (e :: es) (aCons m ms) := by
  obtain ⟨t, pt, ht⟩ := he.out
  obtain ⟨r, pr, hr⟩ := hs.out
  refine MA.mk' (pa_cons pt pr hst) fun B0 B s st u z Q wd sl h => ht B0 B s st u z _ wd sl (Post.bind h fun w st1 s1 v l1 wd1 r1 h1 => ?_)
  refine hr B0 B s1 st1 u z _ wd1 (sl.mono l1) (Post.bind h1 fun ws st2 s2 vs l2 wd2 r2 h2 => ?_)
  exact h2.pure wd2 (.cons (r1.mono l2) r2)
def eTup (m : AM) : EM := fun u => M.bind (m u) fun ws => M.bind (M.of (asDs ws)) fun ds => M.bind (M.chk (ds.length ≤ 1000000)) fun _ => M.pure (.val (.tup ds))
theorem me_tup {es : List Expr} {m : AM} {x1} (hs : MA P es m) : ME P (.Tuple es x1 pos) (eTup m) := by
  obtain ⟨t, pt, ht⟩ := hs.out
  refine ME.mk' (pe_tupZ pt) fun B0 B s st u z Q wd sl h => ht B0 B s st u z _ wd sl (Post.bind h fun ws st1 s1 vs l1 wd1 r1 h1 => ?_)
  obtain ⟨ds, e, h1⟩ := Post.of_of h1
  have rl := asDs_ok r1 e
  obtain ⟨hz, h1⟩ := Post.of_chk h1
  exact ⟨by rw [← rl.length]; exact szL hz, wd1.newT rl fun s' v l w r => h1 s' v l w r⟩
/-- a new list -/
def fLst (m : AM) : FM := fun u => M.bind (m u) fun ws => M.bind (M.of (asDs ws)) fun ds => M.bind (M.chk (ds.length ≤ 1000000)) fun _ => M.pure ds
theorem mf_lst {es : List Expr} {m : AM} (hs : MA P es m) : MF P (.List es pos) (fLst m) := by
  obtain ⟨t, pt, ht⟩ := hs.out
  refine MF.mk' (pe_lst pt) fun B0 B s st u z Q wd sl h => ht B0 B s st u z _ wd sl (PostF.bind h fun ws st1 s1 vs l1 wd1 r1 h1 => ?_)
  obtain ⟨ds, e, h1⟩ := PostF.of_of h1
  have rl := asDs_ok r1 e
  obtain ⟨hz, h1⟩ := PostF.of_chk h1
  exact ⟨by rw [← rl.length]; exact szL hz, fun p hp => PostF.fresh h1 wd1 rl hp⟩
/-- .. as a value -/
def eF (m : FM) : EM := fun u => M.bind (m u) fun xs => M.pure (.val (.lst xs))
theorem me_f {e : Expr} {m : FM} (h : MF P e m) : ME P e (eF m) := by
  obtain ⟨t, pt, ht⟩ := h.out
  refine ME.mk' pt fun B0 B s st u z Q wd sl h => ht B0 B s st u z _ wd sl ?_
  unfold eF M.bind at h
  cases e : m u st with
  | ok xs st' =>
    rw [e] at h
    exact fun s' p vs l w nb hp r => h ⟨s'.io, upd s'.F p (.lst vs), s'.H⟩ (.ref p) (l.trans (freeze_le w)) (freeze_wd w nb hp) (.lst upd_same (r.mono (freeze_le w).fr (freeze_le w).io))
  | err c x st' => rw [e] at h; exact h
  | bad => rw [e] at h; exact h
end
end M3
namespace M3
open PySem PySem.Spec PyProof.Rows L2
/-! ### operators by values -/
def OpM (P : P3) (f : Value → Value → Sem Value) (g : W → W → Option W) : Prop := ∃ r, OpR P.X f r ∧ ∀ (B : Addr → Prop) (s : S3) (st : Store) (w1 w2 w : W) (v1 v2 : V) (Q : VK), Wd P.G B st s → RepW P.G P.hx B s w1 v1 → RepW P.G P.hx B s w2 v2 →
  g w1 w2 = some w → (∀ (s' : S3) (v : V), Le B s s' → Wd P.G B st s' → RepW P.G P.hx B s' w v → Q v s'.H) → r v1 v2 s.H Q
def eBin (g : W → W → Option W) (a b : EM) : EM := fun u => M.bind (a u) fun x => M.bind (b u) fun y => M.of (g x y)
section
variable {P : P3} {pos : Pos} {a b c : Expr} {ma mb mc : EM} {g g' : W → W → Option W}
theorem op_use {R : R2} (h : OpM P f g) {B0 B : Addr → Prop} {s : S3} {st : Store} {u : Sl3} {z : L2.St} {Q : VK} {ta tb : TE}
    (ha : ∀ (B0 B : Addr → Prop) (s : S3) (st : Store) (u : Sl3) (z : L2.St) (Q : VK), Wd P.G B st s → Slo P.G P.hx B0 B s u z → Post P.G B (RepW P.G P.hx B) (fun c d H => P.wx c d z H) s Q (ma u st) → ta z s.H Q)
    (hb : ∀ (B0 B : Addr → Prop) (s : S3) (st : Store) (u : Sl3) (z : L2.St) (Q : VK), Wd P.G B st s → Slo P.G P.hx B0 B s u z → Post P.G B (RepW P.G P.hx B) (fun c d H => P.wx c d z H) s Q (mb u st) → tb z s.H Q)
    (hr : ∀ (B : Addr → Prop) (s : S3) (st : Store) (w1 w2 w : W) (v1 v2 : V) (Q : VK), Wd P.G B st s → RepW P.G P.hx B s w1 v1 → RepW P.G P.hx B s w2 v2 →
      g w1 w2 = some w → (∀ (s' : S3) (v : V), Le B s s' → Wd P.G B st s' → RepW P.G P.hx B s' w v → Q v s'.H) → R v1 v2 s.H Q)
    (wd : Wd P.G B st s) (sl : Slo P.G P.hx B0 B s u z) (hp : Post P.G B (RepW P.G P.hx B) (fun c d H => P.wx c d z H) s Q (eBin g ma mb u st)) : tOp R ta tb z s.H Q := by
  refine ha B0 B s st u z _ wd sl (Post.bind hp fun w1 st1 s1 v1 l1 wd1 r1 h1 => ?_)
  refine hb B0 B s1 st1 u z _ wd1 (sl.mono l1) (Post.bind h1 fun w2 st2 s2 v2 l2 wd2 r2 h2 => ?_)
  cases e : g w1 w2 with
  | none => rw [e] at h2; exact h2.elim
  | some w => rw [e] at h2; exact hr B s2 st2 w1 w2 w v1 v2 Q wd2 (r1.mono l2) r2 e fun s' v l w' r => h2 s' v l w' r
theorem me_bin {op : Operator} (h : OpM P (binaryOp op) g) (ha : ME P a ma) (hb : ME P b mb) : ME P (.BinOp a op b pos) (eBin g ma mb) := by
  obtain ⟨ta, pa, ha⟩ := ha.out
  obtain ⟨tb, pb, hb⟩ := hb.out
  obtain ⟨r, hr, hq⟩ := id h
  exact ME.mk' (pe_op hr pa pb) fun B0 B s st u z Q wd sl hp => op_use h ha hb hq wd sl hp
theorem me_cmp {op : CmpOp} (h : OpM P (compareOp op) g) (ha : ME P a ma) (hb : ME P b mb) (hm : behindInMarks op b = false) : ME P (.Compare a [op] [b] pos) (eBin g ma mb) := by
  obtain ⟨ta, pa, ha⟩ := ha.out
  obtain ⟨tb, pb, hb⟩ := hb.out
  obtain ⟨r, hr, hq⟩ := id h
  exact ME.mk' (pe_cmpR hr pa pb hm) fun B0 B s st u z Q wd sl hp => op_use h ha hb hq wd sl hp
/-- the value as a bool -/
def W.bool : W → Option Bool
  | .val (.bl b) => some b
  | _ => none
theorem bool_inv {w : M3.W} {k : Bool} (e : w.bool = some k) : w = .val (.bl k) := by
  unfold W.bool at e
  split at e
  · cases e; rfl
  · cases e
def tOf (m : EM) : TM := fun u => M.bind (m u) fun w => M.of w.bool
theorem mt_cmp {op : CmpOp} (h : OpM P (compareOp op) g) (ha : ME P a ma) (hb : ME P b mb) (hm : behindInMarks op b = false) : MT P (.Compare a [op] [b] pos) (tOf (eBin g ma mb)) := by
  obtain ⟨ta, pa, ha⟩ := ha.out
  obtain ⟨tb, pb, hb⟩ := hb.out
  obtain ⟨r, hr, hq⟩ := id h
  refine MT.mk' (pt_cmpR hr pa pb hm) fun B0 B s st u z Q wd sl hp => ?_
  refine op_use h ha hb hq wd sl (Post.bind hp fun w st1 s1 v l1 wd1 r1 h1 => ?_)
  obtain ⟨k, e, h1⟩ : ∃ k, w.bool = some k ∧ Post P.G B (fun _ a b => a = b) (fun c d H => P.wx c d z H) s1 Q (.ok k st1) := by
    cases e : w.bool with
    | none => rw [e] at h1; exact h1.elim
    | some k => rw [e] at h1; exact ⟨k, rfl, h1⟩
  obtain rfl := bool_inv e
  cases r1
  exact ⟨k, rfl, h1.pure wd1 rfl⟩
end
/-! the operators -/
def W.ls : W → Option (List D)
  | .val (.lst xs) => some xs
  | .bor xs => some xs
  | _ => none
def addF : W → W → Option W
  | .val (.int i), .val (.int j) => some (.val (.int (i + j)))
  | .val (.str a), .val (.str b) => if a.length + b.length ≤ 1000000 then some (.val (.str (a ++ b))) else none
  | .val (.tup xs), .val (.tup ys) => if xs.length + ys.length ≤ 1000000 then some (.val (.tup (xs ++ ys))) else none
  | x, y => match x.ls, y.ls with
    | some xs, some ys => if xs.length + ys.length ≤ 1000000 then some (.val (.lst (xs ++ ys))) else none
    | _, _ => none
theorem ls_ok {G : G3} {X : Hex} {B : Addr → Prop} {s : S3} {st : Store} {w : W} {v : V} {xs : List D} (wd : Wd G B st s) (r : RepW G X B s w v) (e : w.ls = some xs) : ∃ p vs, v = .ref p ∧ s.H p = some (.lst vs) ∧ RepL G.R s.F s.io xs vs := by
  cases w with
  | val d =>
    cases d with
    | lst ys => cases e; cases r with | lst h r => exact ⟨_, _, rfl, wd.sub _ _ h, r⟩
    | _ => cases e
  | bor ys => cases e; obtain ⟨p, vs, rfl, b, h, r⟩ := r; exact ⟨p, vs, rfl, h, r⟩
  | _ => cases e
section
variable {P : P3}
theorem om_add : OpM P (binaryOp .Add) addF := by
  refine ⟨_, op_add.or (op_add_str.or (op_catZ.or op_cat)), fun B s st w1 w2 w v1 v2 Q wd r1 r2 e k => ?_⟩
  unfold addF at e
  split at e
  · cases e; cases r1; cases r2; exact .inl ⟨_, _, rfl, rfl, k s _ (Le.refl _) wd .int⟩
  · split at e
    · rename_i hz
      cases e; cases r1; cases r2
      exact .inr (.inl ⟨_, _, rfl, rfl, szL hz, k s _ (Le.refl _) wd .str⟩)
    · cases e
  · split at e
    · rename_i xs ys hz
      cases e
      cases r1 with
      | tup s1 q1 =>
        cases r2 with
        | tup s2 q2 =>
          have hs := wd.sub
          refine .inr (.inr (.inl ⟨_, _, _, _, rfl, rfl, (s1.mono hs).sq, (s2.mono hs).sq, by rw [← q1.length, ← q2.length]; exact szL hz, fun z => ?_, fun z1 z2 => ?_, fun z1 z2 => ?_⟩))
          · subst z
            cases q1
            exact k s _ (Le.refl _) wd (.tup s2 q2)
          · subst z2
            cases q2
            rw [List.append_nil] at k
            exact k s _ (Le.refl _) wd (.tup s1 q1)
          · exact wd.newT (q1.append q2) fun s' v l w r => k s' v l w r
    · cases e
  · split at e
    · rename_i e1 e2
      obtain ⟨p, vs, rfl, hp, rp⟩ := ls_ok wd r1 e1
      obtain ⟨q, us, rfl, hq, rq⟩ := ls_ok wd r2 e2
      split at e
      · rename_i hz
        cases e
        refine Or.inr (Or.inr (Or.inr ⟨p, q, vs, us, rfl, rfl, hp, hq, by rw [← rp.length, ← rq.length]; exact szL hz, fun l hl => ?_⟩))
        obtain ⟨wd2, l2⟩ := wd.froz hl (.lst (vs ++ us))
        exact k _ _ l2 wd2 (.lst upd_same ((rp.append rq).mono l2.fr l2.io))
      · cases e
    · cases e
/-! whole numbers -/
def intF (C : Int → Int → Bool) (f : Int → Int → D) : W → W → Option W
  | .val (.int i), .val (.int j) => if C i j = true then some (.val (f i j)) else none
  | _, _ => none
theorem om_int {f : Value → Value → Sem Value} {C : Int → Int → Prop} {Cb : Int → Int → Bool} {g : Int → Int → V} {gd : Int → Int → D} (h : OpR P.X f (rI C g)) (hC : ∀ i j, Cb i j = true → C i j) (hg : ∀ i j K F io, Rep K F io (gd i j) (g i j)) : OpM P f (intF Cb gd) := by
  refine ⟨_, h, fun B s st w1 w2 w v1 v2 Q wd r1 r2 e k => ?_⟩
  unfold intF at e
  split at e
  · split at e
    · rename_i hc
      cases e; cases r1; cases r2
      exact ⟨_, _, rfl, rfl, hC _ _ hc, k s _ (Le.refl _) wd (hg _ _ _ _ _)⟩
    · cases e
  · cases e
theorem om_int0 {f : Value → Value → Sem Value} {g : Int → Int → V} {gd : Int → Int → D} (h : OpR P.X f (rI0 g)) (hg : ∀ i j K F io, Rep K F io (gd i j) (g i j)) : OpM P f (intF (fun _ _ => true) gd) := by
  refine ⟨_, h, fun B s st w1 w2 w v1 v2 Q wd r1 r2 e k => ?_⟩
  unfold intF at e
  split at e
  · rw [if_pos rfl] at e
    cases e; cases r1; cases r2
    exact ⟨_, _, rfl, rfl, k s _ (Le.refl _) wd (hg _ _ _ _ _)⟩
  · cases e
def subF : W → W → Option W := intF (fun _ _ => true) fun i j => .int (i - j)
def modF : W → W → Option W := intF (fun _ j => decide (0 < j)) fun i j => .int (i % j)
def divF : W → W → Option W := intF (fun _ j => decide (0 < j ∧ j < 1073741824)) fun i j => .int (i / j)
def powF : W → W → Option W := intF (fun i j => decide (0 ≤ j ∧ j ≤ 1000 ∧ i.natAbs < 1000000)) fun i j => .int (i ^ j.toNat)
def ltF : W → W → Option W := intF (fun _ _ => true) fun i j => .bl (decide (i < j))
def gtF : W → W → Option W := intF (fun _ _ => true) fun i j => .bl (decide (j < i))
def geF : W → W → Option W := intF (fun _ _ => true) fun i j => .bl (decide (j ≤ i))
theorem om_sub : OpM P (binaryOp .Sub) subF := om_int0 op_sub fun _ _ _ _ _ => .int
theorem om_mod : OpM P (binaryOp .Mod) modF := om_int op_mod (fun i j h => of_decide_eq_true h) fun _ _ _ _ _ => .int
theorem om_div : OpM P (binaryOp .FloorDiv) divF := om_int op_fdiv (fun i j h => of_decide_eq_true (p := 0 < j ∧ j < 1073741824) h) fun _ _ _ _ _ => .int
theorem om_pow : OpM P (binaryOp .Pow) powF := om_int op_pow (fun i j h => by have := of_decide_eq_true (p := 0 ≤ j ∧ j ≤ 1000 ∧ i.natAbs < 1000000) h; exact ⟨this.1, by omega, by omega⟩) fun _ _ _ _ _ => .int
theorem om_lt : OpM P (compareOp .Lt) ltF := om_int0 op_lt fun _ _ _ _ _ => .bl
theorem om_gt : OpM P (compareOp .Gt) gtF := om_int0 op_gt fun _ _ _ _ _ => .bl
theorem om_ge : OpM P (compareOp .GtE) geF := om_int0 op_ge fun _ _ _ _ _ => .bl
/-- * of great numbers; a text times a number -/
def mulC (i j : Int) : Bool := decide (i.natAbs.log2 + j.natAbs.log2 < 100000000)
def MulS (x : Str) (n : Int) : Bool := decide (0 ≤ n ∧ n ≤ 1000 ∧ x.length ≤ 1000)
def mulF : W → W → Option W
  | .val (.int i), .val (.int j) => if mulC i j = true then some (.val (.int (i * j))) else none
  | .val (.str x), .val (.int j) => if MulS x j = true then some (.val (.str (Txt.mul x j))) else none
  | _, _ => none
/-- as the model counts bits -/
theorem bits_log (x : Int) : Builtin.Int.intBits x ≤ x.natAbs.log2 + 1 := by simp only [Builtin.Int.intBits]; split <;> omega
theorem line_bits : bitsLine = 2 ^ 27 := by decide
theorem mulC_ok {i j : Int} (h : mulC i j = true) : IntMulOk i j := fun big => by
  have few : i.natAbs.log2 + j.natAbs.log2 < 100000000 := of_decide_eq_true h
  have far := of_decide_eq_true (show decide _ = true from ((Bool.and_eq_true _ _).mp big).2)
  have li := bits_log i
  have lj := bits_log j
  simp only [line_bits] at far
  omega
theorem MulS_ok {x : Str} {n : Int} (h : MulS x n = true) : MulOk x n := by
  obtain ⟨h0, h1, h2⟩ := of_decide_eq_true h
  refine ⟨?_, fun hn _ => ?_, fun hn _ => ?_⟩
  · rw [Bool.or_eq_false_iff]
    exact ⟨decide_eq_false (by omega), decide_eq_false (by omega)⟩
  · intro z
    have : (1000 : Int) ≤ (2 ^ 63 - 1) / n := by
      rw [Int.le_ediv_iff_mul_le (by omega)]
      omega
    omega
  · have long : x.length * n.toNat ≤ 1000 * 1000 := Nat.mul_le_mul h2 (by omega)
    have line := szL (n := 1000 * 1000) (by decide)
    unfold Builtin.Str.tooLong
    exact decide_eq_false fun q => by omega
theorem om_mul : OpM P (binaryOp .Mult) mulF := by
  have hI : OpR P.X (binaryOp .Mult) (rI (fun i j => IntMulOk i j) fun i j => .int (i * j)) := opI fun _ _ _ _ _ _ _ hc q => mul_int q hc
  have hS : OpR P.X (binaryOp .Mult) (fun x y H Q => ∃ a n, x = .str a ∧ y = .int n ∧ MulOk a n ∧ Q (.str (Txt.mul a n)) H) := by
    intro pins s z H x y v u Q I rx ry h
    obtain ⟨a, n, rfl, rfl, hm, q⟩ := h
    obtain ⟨t, rfl⟩ := rx
    obtain ⟨t2, rfl⟩ := ry
    exact SB.mul hm fun t' k => ⟨.str (Txt.mul a n), H, I.tok _, ⟨_, rfl⟩, q⟩
  refine ⟨_, hI.or hS, fun B s st w1 w2 w v1 v2 Q wd r1 r2 e k => ?_⟩
  unfold mulF at e
  split at e
  · split at e
    · rename_i hc
      cases e; cases r1; cases r2
      exact .inl ⟨_, _, rfl, rfl, mulC_ok hc, k s _ (Le.refl _) wd .int⟩
    · cases e
  · split at e
    · rename_i hc
      cases e; cases r1; cases r2
      exact .inr ⟨_, _, rfl, rfl, MulS_ok hc, k s _ (Le.refl _) wd .str⟩
    · cases e
  · cases e
/-! == of data at any depth -/
mutual
def D.py : D → Option PyData
  | .non => some .none
  | .bl b => some (.bool b)
  | .int i => some (.int i)
  | .str x => some (.str x)
  | .tup xs => (D.pys xs).map .tuple
  | .lst xs => (D.pys xs).map .list
  | .ro xs => (D.pys xs).map .list
  | .ctup xs => (D.pys xs).map .tuple
  | .ty _ => none
  | .ref _ => none
  | .dict _ _ => none
  | .dd _ _ => none
  | .fn _ _ => none
def D.pys : List D → Option (List PyData)
  | [] => some []
  | d :: ds => match D.py d, D.pys ds with
    | some x, some xs => some (x :: xs)
    | _, _ => none
end
section
variable {K : KW} {F : Hp} {io : Io}
mutual
theorem py_ok : ∀ {d : D} {v : V} {x : PyData}, Rep K F io d v → d.py = some x → Dp K.K F v x
  | _, _, _, .non, e => by rw [D.py] at e; cases e; exact .non
  | _, _, _, .bl, e => by rw [D.py] at e; cases e; exact .bl _
  | _, _, _, .int, e => by rw [D.py] at e; cases e; exact .int _
  | _, _, _, .str, e => by rw [D.py] at e; cases e; exact .str _
  | _, _, _, .ty, e => by rw [D.py] at e; cases e
  | _, _, _, .ref _, e => by rw [D.py] at e; cases e
  | _, _, _, .dict _ _ _, e => by rw [D.py] at e; cases e
  | _, _, _, .dd _ _ _ _ _, e => by rw [D.py] at e; cases e
  | _, _, _, .fn _ _ _ _ _, e => by rw [D.py] at e; cases e
  | .tup xs, _, x, .tup s r, e => by
    rw [D.py] at e
    cases h : D.pys xs with
    | none => rw [h] at e; cases e
    | some ys => rw [h] at e; cases e; exact .tup s.sq (pys_ok r h)
  | .ctup xs, _, x, .ctup s r, e => by
    rw [D.py] at e
    cases h : D.pys xs with
    | none => rw [h] at e; cases e
    | some ys => rw [h] at e; cases e; exact .tup s (pys_ok r h)
  | .lst xs, _, x, .lst s r, e => by
    rw [D.py] at e
    cases h : D.pys xs with
    | none => rw [h] at e; cases e
    | some ys => rw [h] at e; cases e; exact .lst (.inl (.inl s)) (pys_ok r h)
  | .ro xs, _, x, .ro s r, e => by
    rw [D.py] at e
    cases h : D.pys xs with
    | none => rw [h] at e; cases e
    | some ys => rw [h] at e; cases e; exact .lst s (pys_ok r h)
theorem pys_ok : ∀ {ds : List D} {vs : List V} {xs : List PyData}, RepL K F io ds vs → D.pys ds = some xs → DpAll K.K F vs xs
  | _, _, _, .nil, e => by rw [D.pys] at e; cases e; exact .nil
  | d :: ds, _, xs, .cons r t, e => by
    rw [D.pys] at e
    cases h : D.py d with
    | none => rw [h] at e; cases e
    | some x =>
      cases h2 : D.pys ds with
      | none => rw [h, h2] at e; cases e
      | some ys => rw [h, h2] at e; cases e; exact .cons (py_ok r h) (pys_ok t h2)
end
end
/-- what == says: none if it is not asked of such data here -/
def D.eqv? (a b : D) : Option Bool := match a.py, b.py with
  | some x, some y => if SeqAt.shaped x = true ∧ SeqAt.shaped y = true then some (PyData.eqv x y) else none
  | _, _ => none
def eqF (neg : Bool) (x y : W) : Option W := match x.rd, y.rd with
  | some a, some b => (a.eqv? b).map fun k => .val (.bl (if neg then !k else k))
  | _, _ => none
theorem eqv_of {a b : D} {k : Bool} (h : a.eqv? b = some k) : ∃ x y, a.py = some x ∧ b.py = some y ∧ SeqAt.shaped x = true ∧ SeqAt.shaped y = true ∧ k = PyData.eqv x y := by
  unfold D.eqv? at h
  split at h
  · rename_i x y e1 e2
    split at h
    · rename_i hs
      cases h
      exact ⟨x, y, e1, e2, hs.1, hs.2, rfl⟩
    · cases h
  · cases h
theorem eqF_ok {B : Addr → Prop} {s : S3} {st : Store} {w1 w2 w : W} {v1 v2 : V} {neg : Bool} (wd : Wd P.G B st s) (r1 : RepW P.G P.hx B s w1 v1) (r2 : RepW P.G P.hx B s w2 v2) (e : eqF neg w1 w2 = some w) :
    ∃ x y, Dp P.X.K s.H v1 x ∧ Dp P.X.K s.H v2 y ∧ SeqAt.shaped x = true ∧ SeqAt.shaped y = true ∧ w = .val (.bl (if neg then !PyData.eqv x y else PyData.eqv x y)) := by
  unfold eqF at e
  split at e
  · rename_i a b e1 e2
    cases h : a.eqv? b with
    | none => rw [h] at e; cases e
    | some k =>
      rw [h] at e
      cases e
      obtain ⟨x, y, p1, p2, q1, q2, rfl⟩ := eqv_of h
      rw [P.hK]
      exact ⟨x, y, py_ok (rd_ok wd r1 e1) p1, py_ok (rd_ok wd r2 e2) p2, q1, q2, rfl⟩
  · cases e
theorem om_eq (hu : P.X.A.units + 64 < cLine) : OpM P (compareOp .Eq) (eqF false) := by
  refine ⟨_, op_eqD hu, fun B s st w1 w2 w v1 v2 Q wd r1 r2 e k => ?_⟩
  obtain ⟨x, y, h1, h2, s1, s2, rfl⟩ := eqF_ok wd r1 r2 e
  exact ⟨x, y, h1, h2, s1, s2, k s _ (Le.refl _) wd .bl⟩
theorem om_ne (hu : P.X.A.units + 64 < cLine) : OpM P (compareOp .NotEq) (eqF true) := by
  refine ⟨_, op_neD hu, fun B s st w1 w2 w v1 v2 Q wd r1 r2 e k => ?_⟩
  obtain ⟨x, y, h1, h2, s1, s2, rfl⟩ := eqF_ok wd r1 r2 e
  exact ⟨x, y, h1, h2, s1, s2, k s _ (Le.refl _) wd .bl⟩
/-! is None -/
def isNF (neg : Bool) : W → W → Option W
  | .val d, .val .non => some (.val (.bl (match d with | .non => !neg | _ => neg)))
  | .bor _, .val .non => some (.val (.bl neg))
  | .exn _ _, .val .non => some (.val (.bl neg))
  | _, _ => none
theorem isNF_ok {B : Addr → Prop} {s : S3} {w1 w2 w : W} {v1 v2 : V} {neg : Bool} (r1 : RepW P.G P.hx B s w1 v1) (r2 : RepW P.G P.hx B s w2 v2) (e : isNF neg w1 w2 = some w) : v2 = .non ∧ w = .val (.bl (if neg then !decide (v1 = .non) else decide (v1 = .non))) := by
  unfold isNF at e
  split at e
  · cases e
    cases r2
    refine ⟨rfl, ?_⟩
    rename_i d
    cases r1 <;> cases neg <;> simp
  · cases e
    cases r2
    refine ⟨rfl, ?_⟩
    obtain ⟨p, vs, rfl, _⟩ := r1
    cases neg <;> simp
  · cases e
    cases r2
    refine ⟨rfl, ?_⟩
    obtain ⟨a, _, _, rfl, _⟩ := r1
    cases neg <;> simp
  · cases e
theorem om_is : OpM P (compareOp .Is) (isNF false) := by
  refine ⟨_, op_isN, fun B s st w1 w2 w v1 v2 Q wd r1 r2 e k => ?_⟩
  obtain ⟨h1, rfl⟩ := isNF_ok r1 r2 e
  exact ⟨h1, k s _ (Le.refl _) wd .bl⟩
end
end M3
namespace M3
open PySem PySem.Spec PyProof.Rows L2
/-! ### truth -/
def D.tru : D → Option Bool
  | .non => some false
  | .bl b => some b
  | .int i => some (i != 0)
  | .str y => if y.length ≤ 1000000 then some (y.length != 0) else none
  | .tup xs => some (!xs.isEmpty)
  | .ctup xs => some (!xs.isEmpty)
  | .lst xs => some (!xs.isEmpty)
  | .ro xs => some (!xs.isEmpty)
  | _ => none
def W.tru (w : W) : Option Bool := w.rd.bind D.tru
theorem isEmpty_repL {K : KW} {F : Hp} {io : Io} {xs : List D} {vs : List V} (r : RepL K F io xs vs) : xs.isEmpty = vs.isEmpty := by cases r <;> rfl
theorem tru_rep {K : KW} {F : Hp} {io : Io} {d : D} {v : V} {k : Bool} (r : Rep K F io d v) (e : d.tru = some k) : TruV K.K v F k := by
  cases r with
  | non => cases e; rfl
  | bl => cases e; rfl
  | int => cases e; rfl
  | @str x =>
    have e : (if x.length ≤ 1000000 then some (x.length != 0) else none) = some k := e
    split at e
    · rename_i hl
      cases e
      refine ⟨szL hl, ?_⟩
      cases hx : x.length with
      | zero => rfl
      | succ n => rfl
    · cases e
  | ty => cases e
  | tup s q => cases e; exact .inr (.inl ⟨_, s.sq, by rw [isEmpty_repL q]⟩)
  | ctup s q => cases e; exact .inr (.inl ⟨_, s, by rw [isEmpty_repL q]⟩)
  | lst s q => cases e; exact .inl ⟨_, .inl (.inl s), by rw [isEmpty_repL q]⟩
  | ro s q => cases e; exact .inl ⟨_, s, by rw [isEmpty_repL q]⟩
  | _ => cases e
theorem tru_ok3 {P : P3} {B : Addr → Prop} {s : S3} {st : Store} {w : W} {v : V} {k : Bool} (wd : Wd P.G B st s) (r : RepW P.G P.hx B s w v) (e : w.tru = some k) : TruV P.X.K v s.H k := by
  unfold W.tru at e
  cases h : w.rd with
  | none => rw [h] at e; cases e
  | some d => rw [h] at e; rw [P.hK]; exact tru_rep (rd_ok wd r h) e
def tTru (m : EM) : TM := fun u => M.bind (m u) fun w => M.of w.tru
section
variable {P : P3} {pos : Pos} {a b c : Expr} {rest : List Expr} {ma mb mc : EM}
theorem of_eq {α : Type} {o : Option α} {st : Store} {G : G3} {B : Addr → Prop} {β : Type} {R : S3 → α → β → Prop} {E : XK} {s : S3} {Q : β → Hp → Prop} (h : Post G B R E s Q (M.of o st)) : ∃ x, o = some x ∧ Post G B R E s Q (.ok x st) := by
  cases o with
  | none => exact h.elim
  | some x => exact ⟨x, rfl, h⟩
/-! and, or, not as values -/
def eAnd (a b : EM) : EM := fun u => M.bind (a u) fun w => M.bind (M.of w.tru) fun k => if k = true then b u else M.pure w
def eOr (a b : EM) : EM := fun u => M.bind (a u) fun w => M.bind (M.of w.tru) fun k => if k = true then M.pure w else b u
def eNot (a : EM) : EM := fun u => M.bind (a u) fun w => M.bind (M.of w.tru) fun k => M.pure (.val (.bl (!k)))
theorem me_one {op} (ha : ME P a ma) : ME P (.BoolOp op [a] pos) ma := ⟨pe_one ha.pe⟩
theorem me_and (ha : ME P a ma) (hb : ME P (.BoolOp .And (b :: rest) pos) mb) : ME P (.BoolOp .And (a :: b :: rest) pos) (eAnd ma mb) := by
  obtain ⟨ta, pa, ha⟩ := ha.out
  obtain ⟨tb, pb, hb⟩ := hb.out
  refine ME.mk' (pe_andT pa pb) fun B0 B s st u z Q wd sl hp => ha B0 B s st u z _ wd sl (Post.bind hp fun w st1 s1 v l1 wd1 r1 h1 => ?_)
  obtain ⟨k, e, h1⟩ := Post.of_of h1
  refine ⟨k, tru_ok3 wd1 r1 e, ?_⟩
  cases k with
  | true => exact hb B0 B s1 st1 u z Q wd1 (sl.mono l1) h1
  | false => exact h1.pure wd1 r1
/-! and, or, not as tests -/
def tAnd3 (a b : TM) : TM := fun u => M.bind (a u) fun k => if k = true then b u else M.pure false
def tOr3 (a b : TM) : TM := fun u => M.bind (a u) fun k => if k = true then M.pure true else b u
def tNot3 (a : TM) : TM := fun u => M.bind (a u) fun k => M.pure (!k)
variable {na nb : TM}
theorem mw_or1 (ha : MT P a na) : MW P (.BoolOp .Or [a] pos) na := ⟨pw_or1 ha.pt⟩
theorem mw_or (ha : MT P a na) (hb : MW P (.BoolOp .Or (b :: rest) pos) nb) : MW P (.BoolOp .Or (a :: b :: rest) pos) (tOr3 na nb) := by
  obtain ⟨ta, pa, ha⟩ := ha.out
  obtain ⟨tb, pb, hb⟩ := hb.out
  refine MW.mk' (pw_or pa pb) fun B0 B s st u z Q wd sl hp => ha B0 B s st u z _ wd sl (Post.bind hp fun k st1 s1 k' l1 wd1 r1 h1 => ?_)
  subst r1
  cases k with
  | true => exact h1.pure wd1 rfl
  | false => exact hb B0 B s1 st1 u z Q wd1 (sl.mono l1) h1
theorem mt_w (h : MW P a na) : MT P a na := ⟨h.pw.pt⟩
/-! a op b op c -/
def eChain (g g' : W → W → Option W) (a b c : EM) : EM := fun u => M.bind (a u) fun x => M.bind (b u) fun y => M.bind (M.of (g x y)) fun k => M.bind (M.of k.bool) fun k => if k = true then M.bind (c u) fun w => M.of (g' y w) else M.pure (.val (.bl false))
/-! if as an expression -/
def eIf (t : TM) (a b : EM) : EM := fun u => M.bind (t u) fun k => if k = true then a u else b u
end
/-! ### subscripts -/
def D.items : D → Option (List D)
  | .tup xs => some xs
  | .ctup xs => some xs
  | .lst xs => some xs
  | .ro xs => some xs
  | _ => none
def ixF (x y : W) : Option W := match x, y with
  | .val (.str z), .val (.int i) => if z.length ≤ 1000000 then (atI z.cps.toList i).map fun c => .val (.str ⟨#[c]⟩) else none
  | x, .val (.int i) => (x.rd.bind D.items).bind fun xs => (atI xs i).map .val
  | _, _ => none
theorem atI_rep {K : KW} {F : Hp} {io : Io} {xs : List D} {vs : List V} {i : Int} {d : D} (r : RepL K F io xs vs) (e : atI xs i = some d) : ∃ v, atI vs i = some v ∧ Rep K F io d v := by
  unfold atI at e ⊢
  rw [r.length] at e
  cases h : ixN vs.length i with
  | none => rw [h] at e; cases e
  | some j => rw [h] at e; exact r.get e
section
variable {P : P3} {pos : Pos} {a b : Expr} {ma mb : EM}
/-- the items of a list or tuple that is read: as they stand in the whole heap, each as data that never changes -/
theorem items_ok {B : Addr → Prop} {s : S3} {st : Store} {w : W} {v : V} {d : D} {xs : List D} (wd : Wd P.G B st s) (r : RepW P.G P.hx B s w v) (e : w.rd = some d) (e2 : d.items = some xs) :
    ∃ p vs, v = .ref p ∧ (SqL P.X.K s.H p vs ∨ SqT P.X.K s.H p vs) ∧ RepL P.G.R s.F s.io xs vs := by
  rw [P.hK]
  cases w with
  | val d' =>
    cases e
    cases r with
    | tup h q => cases e2; exact ⟨_, _, rfl, .inr (h.mono wd.sub).sq, q⟩
    | ctup h q => cases e2; exact ⟨_, _, rfl, .inr (same_sqT wd.sub h), q⟩
    | lst h q => cases e2; exact ⟨_, _, rfl, .inl (.inl (.inl (wd.sub _ _ h))), q⟩
    | ro h q => cases e2; exact ⟨_, _, rfl, .inl (same_sqL wd.sub h), q⟩
    | _ => cases e2
  | bor ys => cases e; cases e2; obtain ⟨p, vs, rfl, b, h, r⟩ := r; exact ⟨p, vs, rfl, .inl (.inl (.inl h)), r⟩
  | bod ks us => cases e
  | bdd ks us => cases e
  | exn c x => cases e
  | len ys => cases e; cases e2; obtain ⟨p, vs, o, rfl, b, h, r⟩ := r; exact ⟨p, vs, rfl, .inl (.inl (.inr ⟨o, h⟩)), r⟩
theorem me_ix (ha : ME P a ma) (hb : ME P b mb) (hs : PlainIx b := by first | exact fun _ _ => rfl | (intro _ _; rfl)) : ME P (.Subscript a b pos) (eBin ixF ma mb) := by
  obtain ⟨ta, pa, ha⟩ := ha.out
  obtain ⟨tb, pb, hb⟩ := hb.out
  refine ME.mk' (pe_ix ix_seq pa pb hs) fun B0 B s st u z Q wd sl hp => ha B0 B s st u z _ wd sl (Post.bind hp fun w1 st1 s1 v1 l1 wd1 r1 h1 => ?_)
  refine hb B0 B s1 st1 u z _ wd1 (sl.mono l1) (Post.bind h1 fun w2 st2 s2 v2 l2 wd2 r2 h2 => ?_)
  obtain ⟨w, e, h2⟩ := of_eq h2
  have r1 := r1.mono l2
  unfold ixF at e
  split at e
  · split at e
    · rename_i hz
      cases r1; cases r2
      rename_i zs i
      cases h : atI zs.cps.toList i with
      | none => rw [h] at e; cases e
      | some c => rw [h] at e; cases e; exact .inr (.inr ⟨zs, i, c, rfl, rfl, szL hz, h, h2.pure wd2 .str⟩)
    · cases e
  · rename_i i _
    cases r2
    cases h3 : w1.rd with
    | none => rw [h3] at e; cases e
    | some d =>
      rw [h3] at e
      cases h4 : d.items with
      | none => rw [Option.bind_some, h4] at e; cases e
      | some xs =>
        rw [Option.bind_some, h4, Option.bind_some] at e
        cases h5 : atI xs i with
        | none => rw [h5] at e; cases e
        | some d' =>
          rw [h5] at e
          cases e
          obtain ⟨p, vs, rfl, hq, rl⟩ := items_ok wd2 r1 h3 h4
          obtain ⟨v, e6, rv⟩ := atI_rep rl h5
          rcases hq with hq | hq
          · exact .inl ⟨p, vs, i, v, rfl, rfl, hq, e6, h2.pure wd2 rv⟩
          · exact .inr (.inl ⟨p, vs, i, v, rfl, rfl, hq, e6, h2.pure wd2 rv⟩)
  · cases e
end
end M3
namespace M3
open PySem PySem.Spec PyProof.Rows L2
/-! ### slots are written -/
section
variable {G : G3} {X : Hex} {B0 B : Addr → Prop} {s : S3} {u : Sl3} {z : L2.St}
theorem get_set {α : Type} {l : List (Option α)} {i j : Nat} {w w' : α} (h : (l.set i (some w))[j]? = some (some w')) : (i = j ∧ w' = w) ∨ (i ≠ j ∧ l[j]? = some (some w')) := by
  by_cases e : i = j
  · subst e
    by_cases hl : i < l.length
    · rw [List.getElem?_set_self hl] at h; cases h; exact .inl ⟨rfl, rfl⟩
    · rw [List.getElem?_eq_none (by simpa using hl)] at h; cases h
  · rw [List.getElem?_set_ne e] at h; exact .inr ⟨e, h⟩
theorem Slo.set {d : D} {v : V} (h : Slo G X B0 B s u z) (r : Rep G.R s.F s.io d v) (i : Nat) : Slo G X B0 B s (u.set i (some (.val d))) (z.set i (some v)) := by
  obtain ⟨hl, ow, h1, h2⟩ := h
  refine ⟨by simpa using hl, ow, fun j w e => ?_, fun j k w w' o1 o2 e1 e2 e => ?_⟩
  · rcases get_set e with ⟨rfl, rfl⟩ | ⟨ne, e⟩
    · have hi : i < u.length := by
        rcases Nat.lt_or_ge i u.length with q | q
        · exact q
        · rw [List.getElem?_eq_none (by simpa using q)] at e; cases e
      exact ⟨v, by rw [List.getElem?_set_self (by omega)], r, fun q => by cases q⟩
    · obtain ⟨v', e1, r', q⟩ := h1 j w e
      exact ⟨v', by rw [List.getElem?_set_ne ne]; exact e1, r', q⟩
  · rcases get_set e1 with ⟨_, q⟩ | ⟨_, e1⟩
    · subst q; cases o1
    · rcases get_set e2 with ⟨_, q⟩ | ⟨_, e2⟩
      · subst q; cases o2
      · exact h2 j k w w' o1 o2 e1 e2 e
theorem Slo.del (h : Slo G X B0 B s u z) (i : Nat) (o : Option V) : Slo G X B0 B s (u.set i none) (z.set i o) := by
  obtain ⟨hl, ow, h1, h2⟩ := h
  have old : ∀ {j : Nat} {w : M3.W}, (u.set i none)[j]? = some (some w) → i ≠ j ∧ u[j]? = some (some w) := fun {j w} e => by
    by_cases q : i = j
    · subst q
      by_cases hl : i < u.length
      · rw [List.getElem?_set_self hl] at e; cases e
      · rw [List.getElem?_eq_none (by simpa using hl)] at e; cases e
    · rw [List.getElem?_set_ne q] at e; exact ⟨q, e⟩
  refine ⟨by simpa using hl, ow, fun j w e => ?_, fun j k w w' o1 o2 e1 e2 e => h2 j k w w' o1 o2 (old e1).2 (old e2).2 e⟩
  obtain ⟨ne, e⟩ := old e
  obtain ⟨v', e1, r', q⟩ := h1 j w e
  exact ⟨v', by rw [List.getElem?_set_ne ne]; exact e1, r', q⟩
theorem RepW.wider {B' : Addr → Prop} (hb : ∀ a, B a → B' a) {w : M3.W} {v : V} (r : RepW G X B s w v) : RepW G X B' s w v := by
  cases w with
  | val d => exact r
  | bor xs => obtain ⟨p, vs, e, b, h, r⟩ := r; exact ⟨p, vs, e, hb p b, h, r⟩
  | bod ks us => obtain ⟨p, vs, e, b, h, r⟩ := r; exact ⟨p, vs, e, hb p b, h, r⟩
  | bdd ks us => obtain ⟨p, vs, e, b, h, r⟩ := r; exact ⟨p, vs, e, hb p b, h, r⟩
  | exn c x => exact r
  | len xs => obtain ⟨p, vs, o, e, b, h, r⟩ := r; exact ⟨p, vs, o, e, hb p b, h, r⟩
theorem own_ref {w : M3.W} {v : V} (o : w.own = true) (r : RepW G X B s w v) : ∃ p, v = .ref p ∧ B p := by
  cases w with
  | val d => cases o
  | bor xs => obtain ⟨p, vs, e, b, h, r⟩ := r; exact ⟨p, e, b⟩
  | bod ks us => obtain ⟨p, vs, e, b, h, r⟩ := r; exact ⟨p, e, b⟩
  | bdd ks us => obtain ⟨p, vs, e, b, h, r⟩ := r; exact ⟨p, e, b⟩
  | exn c x => cases o
  | len xs => cases o
/-- slot i takes a thing of one's own -/
theorem Slo.ownW {p : Addr} {w0 : M3.W} (h : Slo G X B0 B s u z) (nb : ¬ B p) (nb0 : ¬ B0 p) (r : RepW G X (plus B p) s w0 (.ref p)) (i : Nat) :
    Slo G X B0 (plus B p) s (u.set i (some w0)) (z.set i (some (.ref p))) := by
  obtain ⟨hl, ow, h1, h2⟩ := h
  have at_ : ∀ {j : Nat} {w : M3.W}, w.own = true → u[j]? = some (some w) → ow j ≠ p := fun {j w} o e q => by
    obtain ⟨v, e1, r, q'⟩ := h1 j _ e
    obtain ⟨p', e2, b⟩ := own_ref o r
    obtain ⟨e3, _⟩ := q' o
    rw [e2] at e3; cases e3
    exact nb (q ▸ b)
  refine ⟨by simpa using hl, fun j => if j = i then p else ow j, fun j w e => ?_, fun j k w w' o1 o2 e1 e2 e => ?_⟩
  · rcases get_set e with ⟨rfl, rfl⟩ | ⟨ne, e⟩
    · have hi : i < u.length := by
        rcases Nat.lt_or_ge i u.length with q | q
        · exact q
        · rw [List.getElem?_eq_none (by simpa using q)] at e; cases e
      exact ⟨.ref p, by rw [List.getElem?_set_self (by omega)], r, fun q => ⟨by simp, by simpa using nb0⟩⟩
    · obtain ⟨v', e1, r', q⟩ := h1 j w e
      exact ⟨v', by rw [List.getElem?_set_ne ne]; exact e1, r'.wider fun a b => .inl b, fun q' => by simp only [Ne.symm ne, if_false]; exact q q'⟩
  · rcases get_set e1 with ⟨rfl, q⟩ | ⟨n1, e1⟩
    · rcases get_set e2 with ⟨rfl, q⟩ | ⟨n2, e2⟩
      · rfl
      · simp only [if_true, Ne.symm n2, if_false] at e
        exact absurd e.symm (at_ o2 e2)
    · rcases get_set e2 with ⟨rfl, q⟩ | ⟨n2, e2⟩
      · simp only [if_true, Ne.symm n1, if_false] at e
        exact absurd e (at_ o1 e1)
      · simp only [Ne.symm n1, Ne.symm n2, if_false] at e
        exact h2 j k w w' o1 o2 e1 e2 e
/-- slot i takes a list of one's own -/
theorem Slo.own {p : Addr} {xs : List D} {vs : List V} (h : Slo G X B0 B s u z) (nb : ¬ B p) (nb0 : ¬ B0 p) (hp : s.H p = some (.lst vs)) (r : RepL G.R s.F s.io xs vs) (i : Nat) :
    Slo G X B0 (plus B p) s (u.set i (some (.bor xs))) (z.set i (some (.ref p))) := h.ownW (w0 := .bor xs) nb nb0 ⟨p, vs, rfl, .inr rfl, hp, r⟩ i
end
/-! ### statements -/
def sNext : SM := fun u st => .nx u st
def sSeq (a b : SM) : SM := fun u st => match a u st with
  | .nx u' st' => b u' st'
  | r => r
def sBreak : SM := fun u st => .bk u st
def sCont : SM := fun u st => .ct u st
def sDrop (m : EM) : SM := fun u st => match m u st with
  | .ok _ st' => .nx u st'
  | .err c x st' => .err c x u st'
  | .bad => .bad
def sRetN : SM := fun _ st => .rt (.val .non) st
def sSet (i : Nat) (m : EM) : SM := fun u st => match m u st with
  | .ok (.val d) st' => .nx (u.set i (some (.val d))) st'
  | .ok _ _ => .bad
  | .err c x st' => .err c x u st'
  | .bad => .bad
def sOwn (i : Nat) (m : FM) : SM := fun u st => match m u st with
  | .ok xs st' => .nx (u.set i (some (.bor xs))) st'
  | .err c x st' => .err c x u st'
  | .bad => .bad
def sIf (c : TM) (a b : SM) : SM := fun u st => match c u st with
  | .ok true st' => a u st'
  | .ok false st' => b u st'
  | .err c x st' => .err c x u st'
  | .bad => .bad
section
variable {P : P3} {pos : Pos} {e : Expr} {m : EM}
theorem Slo.mono' {G : G3} {X : Hex} {B0 B : Addr → Prop} {s s' : S3} {u : Sl3} {z : L2.St} (h : Slo G X B0 B s u z) (l : Le B s s') : Slo G X B0 B s' u z := Slo.mono l h
theorem mss_nil : MSs P [] sNext := MSs.mk' pss_nil fun B0 B s o u z D b wd sl h => h B s z b (Le.refl _) wd sl
theorem seq_post {G : G3} {hx : Hex} {wx : WX} {B0 : Addr → Prop} {s : S3} {D : Ends} {a b : SM} {u : Sl3} {o : Store} (h : PostS G hx wx B0 s D (sSeq a b u o)) :
    PostS G hx wx B0 s { D with nx := fun z H => ∃ (B : Addr → Prop) (s' : S3) (o' : Store) (u' : Sl3), s'.H = H ∧ (∀ a, B0 a → B a) ∧ Le B0 s s' ∧ Wd G B o' s' ∧ Slo G hx B0 B s' u' z ∧ PostS G hx wx B0 s' D (b u' o') } (a u o) := by
  unfold sSeq at h
  cases e : a u o with
  | nx u' o' => rw [e] at h; exact fun B' s' z' hb l w sl => ⟨B', s', o', u', rfl, hb, l, w, sl, PostS.mono l h⟩
  | rt w o' => rw [e] at h; exact h
  | bk u' o' => rw [e] at h; exact h
  | ct u' o' => rw [e] at h; exact h
  | err c x u' o' => rw [e] at h; exact h
  | bad => rw [e] at h; exact h
theorem mss_cons {st : Stmt} {rest : List Stmt} {a b : SM} (h1 : MS P st a) (h2 : MSs P rest b) : MSs P (st :: rest) (sSeq a b) := by
  obtain ⟨ta, pa, ha⟩ := h1.out
  obtain ⟨tb, pb, hb⟩ := h2.out
  refine MSs.mk' (pss_cons pa pb) fun B0 B s o u z D b0 wd sl h => ?_
  have q := ha B0 B s o u z _ b0 wd sl (seq_post h)
  show ta { D with nx := tb D } z s.H
  refine ha B0 B s o u z { D with nx := tb D } b0 wd sl ?_
  have h' := seq_post h
  cases e : a u o with
  | nx u' o' =>
    rw [e] at h'
    intro B' s' z' hb' l w sl'
    obtain ⟨B2, s2, o2, u2, e2, b2, l2, w2, sl2, p2⟩ := h' B' s' z' hb' l w sl'
    rw [← e2]
    exact hb B0 B2 s2 o2 u2 z' D b2 w2 sl2 p2
  | rt w o' => rw [e] at h'; exact h'
  | bk u' o' => rw [e] at h'; exact h'
  | ct u' o' => rw [e] at h'; exact h'
  | err c x u' o' => rw [e] at h'; exact h'
  | bad => rw [e] at h'; exact h'
theorem mss_one {st : Stmt} {a : SM} (h1 : MS P st a) : MSs P [st] a := by
  obtain ⟨ta, pa, ha⟩ := h1.out
  exact MSs.mk' (pss_one pa) fun B0 B s o u z D b0 wd sl h => ha B0 B s o u z D b0 wd sl h
theorem ms_drop (he : ME P e m) (hs : swapsWith e none pos.line P.X.env = pure false := by rfl) : MS P (.Expr e pos) (sDrop m) := by
  obtain ⟨t, pt, ht⟩ := he.out
  refine MS.mk' (ps_expr pt hs) fun B0 B s o u z D b0 wd sl h => ht B0 B s o u z _ wd sl ?_
  unfold sDrop at h
  cases e : m u o with
  | ok w st' => rw [e] at h; exact fun s' v l w r => h B s' z b0 (l.less b0) w (sl.mono' l)
  | err c x st' => rw [e] at h; exact fun s' cv dd l w q => h B s' z cv dd b0 (l.less b0) w (sl.mono' l) q
  | bad => rw [e] at h; exact h
theorem RepW.ret {G : G3} {X : Hex} {B0 B : Addr → Prop} {s : S3} {d : D} {v : V} (r : RepW G X B s (.val d) v) : PostS.RepR G B0 B s (.val d) v := r
/-- return e (e's value is data) -/
def sRetV (m : EM) : SM := fun u st => match m u st with
  | .ok (.val d) st' => .rt (.val d) st'
  | .ok _ _ => .bad
  | .err c x st' => .err c x u st'
  | .bad => .bad
theorem ms_ret (he : ME P e m) : MS P (.Return (some e) pos) (sRetV m) := by
  obtain ⟨t, pt, ht⟩ := he.out
  refine MS.mk' (ps_ret pt) fun B0 B s o u z D b0 wd sl h => ht B0 B s o u z _ wd sl ?_
  unfold sRetV at h
  cases e : m u o with
  | ok w st' =>
    rw [e] at h
    cases w with
    | val d => exact fun s' v l w r => h B s' v b0 (l.less b0) w r
    | _ => exact h.elim
  | err c x st' => rw [e] at h; exact fun s' cv dd l w q => h B s' z cv dd b0 (l.less b0) w (sl.mono' l) q
  | bad => rw [e] at h; exact h
/-- return x, x a list of one's own -/
def sRetO (i : Nat) : SM := fun u st => match u[i]? with
  | some (some (.bor xs)) => .rt (.bor xs) st
  | _ => .bad
theorem ms_retO (i : Nat) {x : Str} {p : Pos} (hN : P.X.N[i]? = some x := by rfl) (hv : Vis P.X.env.scope x := by first | exact Or.inl rfl | exact Or.inr (Or.inl rfl) | exact Or.inr (Or.inr rfl)) (hd : (x == ("__debug__" : Str)) = false := by decide)
    (hcd : (x == ("__classdict__" : Str)) = false := by decide) : MS P (.Return (some (.Name x p)) pos) (sRetO i) := by
  refine MS.mk' (ps_ret (pe_var hN hv hd hcd)) fun B0 B s o u z D b0 wd sl h => ?_
  unfold sRetO at h
  split at h
  · rename_i xs e
    obtain ⟨hl, ow, h1, h2⟩ := sl
    obtain ⟨v, e1, ⟨p', vs, e2, b, hp, r⟩, q⟩ := h1 i _ e
    obtain ⟨e3, nb⟩ := q rfl
    subst e2
    cases e3
    exact ⟨_, e1, h B s _ b0 (Le.refl _) wd ⟨_, vs, rfl, b, nb, hp, r⟩⟩
  · exact h.elim
theorem ms_set (i : Nat) {x : Str} {p : Pos} (hN : P.X.N.Nodup) (he : ME P e m) (hi : P.X.N[i]? = some x := by rfl) (hx : Loc P.X.env.scope x := by first | exact Or.inl rfl | exact Or.inr rfl) (hs : swapsWith e (some (.Name x p)) pos.line P.X.env = pure false := by rfl)
    (hf : P.X.fn x = true ∨ P.X.env.scope.names.lookup x = some .local := by first | exact .inl rfl | exact .inr rfl | assumption) : MS P (.Assign [.Name x p] e pos) (sSet i m) := by
  obtain ⟨t, pt, ht⟩ := he.out
  refine MS.mk' (ps_set hN hi hx pt hs hf) fun B0 B s o u z D b0 wd sl h => ht B0 B s o u z _ wd sl ?_
  unfold sSet at h
  cases e : m u o with
  | ok w st' =>
    rw [e] at h
    cases w with
    | val d => exact fun s' v l w r => h B s' _ b0 (l.less b0) w ((sl.mono' l).set r i)
    | _ => exact h.elim
  | err c x st' => rw [e] at h; exact fun s' cv dd l w q => h B s' z cv dd b0 (l.less b0) w (sl.mono' l) q
  | bad => rw [e] at h; exact h
theorem ms_own (i : Nat) {x : Str} {p : Pos} {m : FM} (hN : P.X.N.Nodup) (he : MF P e m) (hi : P.X.N[i]? = some x := by rfl) (hx : Loc P.X.env.scope x := by first | exact Or.inl rfl | exact Or.inr rfl) (hs : swapsWith e (some (.Name x p)) pos.line P.X.env = pure false := by rfl)
    (hf : P.X.fn x = true ∨ P.X.env.scope.names.lookup x = some .local := by first | exact .inl rfl | exact .inr rfl | assumption) : MS P (.Assign [.Name x p] e pos) (sOwn i m) := by
  obtain ⟨t, pt, ht⟩ := he.out
  refine MS.mk' (ps_set hN hi hx pt hs hf) fun B0 B s o u z D b0 wd sl h => ht B0 B s o u z _ wd sl ?_
  unfold sOwn at h
  cases e : m u o with
  | ok xs st' =>
    rw [e] at h
    exact fun s' p vs l w nb hp r => h (plus B p) s' _ (fun a q => .inl (b0 a q)) (l.less b0) w ((sl.mono' l).own nb (fun q => nb (b0 p q)) hp r i)
  | err c x st' => rw [e] at h; exact fun s' cv dd l w q => h B s' z cv dd b0 (l.less b0) w (sl.mono' l) q
  | bad => rw [e] at h; exact h
theorem ms_if {c : Expr} {a b : List Stmt} {mc : TM} {ma mb : SM} (hc : MT P c mc) (ha : MSs P a ma) (hb : MSs P b mb) : MS P (.If c a b pos) (sIf mc ma mb) := by
  obtain ⟨tc, pc, hc⟩ := hc.out
  obtain ⟨ta, pa, ha⟩ := ha.out
  obtain ⟨tb, pb, hb⟩ := hb.out
  refine MS.mk' (ps_if pc pa pb) fun B0 B s o u z D b0 wd sl h => hc B0 B s o u z _ wd sl ?_
  unfold sIf at h
  cases e : mc u o with
  | ok k st' =>
    rw [e] at h
    intro s' k' l w r
    subst r
    cases k with
    | true => exact ha B0 B s' st' u z D b0 w (sl.mono' l) (PostS.mono (l.less b0) h)
    | false => exact hb B0 B s' st' u z D b0 w (sl.mono' l) (PostS.mono (l.less b0) h)
  | err c x st' => rw [e] at h; exact fun s' cv dd l w q => h B s' z cv dd b0 (l.less b0) w (sl.mono' l) q
  | bad => rw [e] at h; exact h
end
end M3
namespace M3
open PySem PySem.Spec PyProof.Rows L2
/-! ### targets -/
abbrev GM := D → Sl3 → Option Sl3
abbrev GMs := List D → Sl3 → Option Sl3
/-- z' is z but for the slots gs -/
structure But (gs : List Nat) (z z' : L2.St) : Prop where
  len : z'.length = z.length
  out : ∀ j, j ∉ gs → z'[j]? = z[j]?
theorem But.refl {gs : List Nat} (z : L2.St) : But gs z z := ⟨rfl, fun _ _ => rfl⟩
theorem But.trans {gs gs' : List Nat} {a b c : L2.St} (h : But gs a b) (h' : But gs' b c) : But (gs ++ gs') a c :=
  ⟨h'.len.trans h.len, fun j hj => (h'.out j fun m => hj (List.mem_append_right _ m)).trans (h.out j fun m => hj (List.mem_append_left _ m))⟩
theorem wipe_in {z : L2.St} {i : Nat} : ∀ {vs : List Nat}, i ∈ vs → i < z.length → (wipe z vs)[i]? = some none
  | v :: vs, h, hl => by
    unfold wipe
    by_cases e : v = i
    · subst e; rw [List.getElem?_set_self (by rw [wipe_length]; exact hl)]
    · rw [List.getElem?_set_ne e]
      rcases List.mem_cons.mp h with q | q
      · exact absurd q.symm e
      · exact wipe_in q hl
theorem But.wipe {gs vs : List Nat} {z z' : L2.St} (h : But gs z z') (hs : ∀ i ∈ gs, i ∈ vs) : L2.wipe z' vs = L2.wipe z vs := by
  apply List.ext_getElem?
  intro i
  by_cases hi : i ∈ vs
  · by_cases hl : i < z.length
    · rw [wipe_in hi (by rw [h.len]; exact hl), wipe_in hi hl]
    · rw [List.getElem?_eq_none (by rw [wipe_length, h.len]; omega), List.getElem?_eq_none (by rw [wipe_length]; omega)]
  · rw [wipe_out hi, wipe_out hi]
    exact h.out i fun m => hi (hs i m)
def tG (G : G3) (hx : Hex) (g : GM) (gs : List Nat) : TG := fun v z H Q => ∃ (B0 B : Addr → Prop) (s : S3) (st : Store) (u : Sl3) (d : D) (u' : Sl3), s.H = H ∧ Wd G B st s ∧ Slo G hx B0 B s u z ∧ Rep G.R s.F s.io d v ∧ g d u = some u' ∧
  ∀ z', Slo G hx B0 B s u' z' → But gs z z' → Q z' H
def tGs (G : G3) (hx : Hex) (g : GMs) (gs : List Nat) : TGs := fun vs z H Q => ∃ (B0 B : Addr → Prop) (s : S3) (st : Store) (u : Sl3) (ds : List D) (u' : Sl3), s.H = H ∧ Wd G B st s ∧ Slo G hx B0 B s u z ∧ RepL G.R s.F s.io ds vs ∧ g ds u = some u' ∧
  ∀ z', Slo G hx B0 B s u' z' → But gs z z' → Q z' H
structure MG (P : P3) (tg : Expr) (g : GM) (gs : List Nat) : Prop where
  pg : PG P.X tg (tG P.G P.hx g gs)
structure MGs (P : P3) (tg : List Expr) (g : GMs) (gs : List Nat) : Prop where
  pgs : PGs P.X tg (tGs P.G P.hx g gs)
def gName3 (i : Nat) : GM := fun d u => some (u.set i (some (.val d)))
def gNil3 : GMs := fun ds u => match ds with
  | [] => some u
  | _ => none
def gCons3 (g : GM) (gs : GMs) : GMs := fun ds u => match ds with
  | d :: ds => (g d u).bind (gs ds)
  | [] => none
def gTup3 (n : Nat) (gs : GMs) : GM := fun d u => match d with
  | .tup ds => if ds.length = n then gs ds u else none
  | _ => none
section
variable {P : P3} {pos : Pos}
theorem mg_name (i : Nat) {x : Str} (hN : P.X.N.Nodup) (hi : P.X.N[i]? = some x := by rfl) (hx : Loc P.X.env.scope x := by first | exact Or.inl rfl | exact Or.inr rfl)
    (hf : P.X.fn x = true ∨ P.X.env.scope.names.lookup x = some .local := by first | exact .inl rfl | exact .inr rfl | assumption) : MG P (.Name x pos) (gName3 i) [i] := by
  refine ⟨⟨fun pins s0 z H v w Q I r ⟨B0, B, s, st, u, d, u', e, wd, sl, rd, eg, k⟩ => ?_⟩⟩
  cases eg
  refine (pg_name hN hi hx hf).run pins s0 z H v w Q I r (k _ (sl.set rd i) ⟨by simp, fun j hj => ?_⟩)
  rw [List.getElem?_set_ne (fun q => hj (by simp [q]))]
theorem mgs_nil : MGs P [] gNil3 [] := by
  refine ⟨⟨fun pins s0 z H vs us Q I r ⟨B0, B, s, st, u, ds, u', e, wd, sl, rd, eg, k⟩ => ?_⟩⟩
  cases rd with
  | nil => cases eg; exact pgs_nil.run pins s0 z H [] us Q I r ⟨rfl, k z sl (But.refl z)⟩
  | cons _ _ => cases eg
theorem mgs_cons {e : Expr} {es : List Expr} {g : GM} {gs : GMs} {is js : List Nat} (h1 : MG P e g is) (h2 : MGs P es gs js)
    (hs : (assignEach (e :: es) P.X.env).map (·.2) = assign e P.X.env :: (assignEach es P.X.env).map (·.2) := by rfl) : MGs P (e :: es) (gCons3 g gs) (is ++ js) := by
  refine ⟨⟨fun pins s0 z H vs us Q I r ⟨B0, B, s, st, u, ds, u', e, wd, sl, rd, eg, k⟩ => ?_⟩⟩
  cases rd with
  | nil => cases eg
  | @cons d ds v vs rd rds =>
    have eg : (g d u).bind (gs ds) = some u' := eg
    cases e1 : g d u with
    | none => rw [e1] at eg; cases eg
    | some u1 =>
      rw [e1] at eg
      refine (pgs_cons h1.pg h2.pgs hs).run pins s0 z H _ us Q I r ⟨v, vs, rfl, B0, B, s, st, u, d, u1, e, wd, sl, rd, e1, fun z1 sl1 b1 => ?_⟩
      exact ⟨B0, B, s, st, u1, ds, u', e, wd, sl1, rds, eg, fun z2 sl2 b2 => k z2 sl2 (b1.trans b2)⟩
theorem mg_tup {es : List Expr} {k : Nat} {gs : GMs} {is : List Nat} {n : Nat} (hc : P.X.calm = true) (h : MGs P es gs is)
    (hn : (assignEach es P.X.env).length = n := by rfl) (hst : (assignEach es P.X.env).findIdx? (·.1) = none := by rfl) : MG P (.Tuple es k pos) (gTup3 n gs) is := by
  refine ⟨⟨fun pins s0 z H v w Q I r ⟨B0, B, s, st, u, d, u', e, wd, sl, rd, eg, k⟩ => ?_⟩⟩
  subst e
  unfold gTup3 at eg
  split at eg
  · rename_i ds
    split at eg
    · rename_i hl
      cases rd with
      | tup hq rl =>
        refine (pg_tup hc h.pgs hn hst).run pins s0 z s.H _ w Q I r ⟨_, _, rfl, (hq.mono wd.sub).sq, by rw [← rl.length]; exact hl, ?_⟩
        exact ⟨B0, B, s, st, u, _, u', rfl, wd, sl, rl, eg, k⟩
    · cases eg
  · cases eg
end
/-! ### what a loop walks -/
structure Itm (G : G3) (s : S3) (ds : List D) (J : It) : Prop where
  go : ∀ (s' : S3), IoLe s.io s'.io → Same s.F s'.F → Same s'.F s'.H → ∀ i, i < ds.length → J.go i s'.H
  yld : ∀ (s' : S3), IoLe s.io s'.io → Same s.F s'.F → Same s'.F s'.H → ∀ i x H', i < ds.length → J.yld i s'.H x H' → H' = s'.H ∧ ∃ d, ds[i]? = some d ∧ Rep G.R s'.F s'.io d x
  stop : ∀ (s' : S3), IoLe s.io s'.io → Same s.F s'.F → Same s'.F s'.H → ∀ i, ds.length ≤ i → J.stop i s'.H
def tI (G : G3) (hx : Hex) (wx : WX) (m : FM) : TI := fun z H R => ∃ (B0 B : Addr → Prop) (s : S3) (st : Store) (u : Sl3), s.H = H ∧ Wd G B st s ∧ Slo G hx B0 B s u z ∧ Post G B (fun s ds J => Itm G s ds J) (fun c d H => wx c d z H) s R (m u st)
structure MI (P : P3) (tg iter : Expr) (m : FM) : Prop where
  pi : PI P.X tg iter (tI P.G P.hx P.wx m)
theorem MI.mk' {P : P3} {tg iter : Expr} {m : FM} {t : TI} (h : PI P.X tg iter t) (k : ∀ (B0 B : Addr → Prop) (s : S3) (st : Store) (u : Sl3) (z : L2.St) (R : It → Hp → Prop), Wd P.G B st s → Slo P.G P.hx B0 B s u z →
    Post P.G B (fun s ds J => Itm P.G s ds J) (fun c d H => P.wx c d z H) s R (m u st) → t z s.H R) : MI P tg iter m :=
  ⟨⟨fun pins s0 z H R I ⟨B0, B, s, st, u, e, wd, sl, p⟩ => by subst e; exact h.run pins s0 z _ R I (k B0 B s st u z R wd sl p)⟩⟩
theorem MI.out {P : P3} {tg iter : Expr} {m : FM} (h : MI P tg iter m) : ∃ t, PI P.X tg iter t ∧ ∀ (B0 B : Addr → Prop) (s : S3) (st : Store) (u : Sl3) (z : L2.St) (R : It → Hp → Prop), Wd P.G B st s → Slo P.G P.hx B0 B s u z →
    Post P.G B (fun s ds J => Itm P.G s ds J) (fun c d H => P.wx c d z H) s R (m u st) → t z s.H R := ⟨_, h.pi, fun B0 B s st u z R wd sl p => ⟨B0, B, s, st, u, rfl, wd, sl, p⟩⟩
/-- over a list or a tuple -/
def D.walk : D → Option (List D)
  | .str x => some (x.cps.toList.map fun c => .str ⟨#[c]⟩)
  | d => d.items
def iSeq (m : EM) : FM := fun u => M.bind (m u) fun w => match w with
  | .val d => M.of d.walk
  | _ => M.bad
def iSeqT (K : PySem.W.Frag) (tl : TE) : TI := fun z H R => tl z H fun x H1 => (∃ y, x = .str y ∧ R (Its y) H1) ∨ ∃ a, x = .ref a ∧ ((∃ xs, SqL K H1 a xs) ∧ R (Itl K a) H1 ∨ (∃ xs, SqT K H1 a xs) ∧ R (Itt K a) H1)
section
variable {P : P3} {pos p : Pos} {tg l : Expr} {m : EM}
theorem pi_seq3 {X : Cx} {tl : TE} (hl : PE X l tl) : PI X tg l (iSeqT X.K tl) := by
  constructor
  intro pins s z H R I h
  refine thn (hl.run pins s z H _ I h) ?_
  rintro v s1 ⟨x, H1, I1, r1, ⟨y, rfl, q⟩ | ⟨a, rfl, q⟩⟩
  · obtain ⟨t, rfl⟩ := r1
    cases ha : y.cps.all (· < 128)
    · exact wpAny_pyIter_wide ha (pi_one (tk := s1.toks) I1 _ (turn_str _ y t "str_iterator" (.inr rfl)) ⟨_, Heap.get?_push_size _ rfl, rfl, rfl⟩ q)
    · exact wpAny_pyIter_ascii ha (pi_one (tk := s1.toks) I1 _ (turn_str _ y t "str_ascii_iterator" (.inl rfl)) ⟨_, Heap.get?_push_size _ rfl, rfl, rfl⟩ q)
  obtain rfl : v = Value.ref a := r1
  have nfp : ∀ b ∈ [s1.heap.objs.size], FpOk X pins H1 b := fun b hb => by
    rw [List.mem_singleton.mp hb]
    exact I1.fpOk (Nat.le_refl _) I1.fresh
  rcases q with ⟨⟨xs, hq⟩, q⟩ | ⟨⟨xs, hq⟩, q⟩
  · obtain ⟨its, _, pl, _⟩ := I1.list hq
    exact wpAny_pyIter_list pl.isList ⟨_, [s1.heap.objs.size], _, _, H1, rfl, I1.kept (t' := s1.toks) (fun b o e => Heap.get?_push_of_some _ e), turn_list a _, ⟨_, Heap.get?_push_size _ rfl, rfl, rfl⟩, nfp, q⟩
  · obtain ⟨its, _, pl, _⟩ := I1.tuple hq
    exact wpAny_pyIter_tuple (show s1.heap.IsTuple a its.toArray from pl) ⟨_, [s1.heap.objs.size], _, _, H1, rfl, I1.kept (t' := s1.toks) (fun b o e => Heap.get?_push_of_some _ e), turn_tuple a _, ⟨_, Heap.get?_push_size _ rfl, rfl, rfl⟩, nfp, q⟩
theorem itm_list {G : G3} {s : S3} {xs : List D} {vs : List V} {a : Addr} (h : SqL G.K s.F a vs) (r : RepL G.R s.F s.io xs vs) : Itm G s xs (Itl G.K a) := by
  have up : ∀ (s' : S3), Same s.F s'.F → Same s'.F s'.H → SqL G.K s'.H a vs := fun s' h1 h2 => same_sqL h2 (same_sqL h1 h)
  refine ⟨fun s' h1 h2 h3 i hi => ?_, fun s' h1 h2 h3 i x H' hi y => ?_, fun s' h1 h2 h3 i hi => ⟨vs, up s' h2 h3, by rw [← r.length]; exact hi⟩⟩
  · obtain ⟨v, e, _⟩ := r.get (List.getElem?_eq_getElem hi)
    exact ⟨vs, v, up s' h2 h3, e⟩
  · obtain ⟨e, y⟩ := y
    obtain ⟨d, e2, rd⟩ := r.get' (y vs (up s' h2 h3))
    exact ⟨e, d, e2, rd.mono h2 h1⟩
theorem itm_tup {G : G3} {s : S3} {xs : List D} {vs : List V} {a : Addr} (h : SqT G.K s.F a vs) (r : RepL G.R s.F s.io xs vs) : Itm G s xs (Itt G.K a) := by
  have up : ∀ (s' : S3), Same s.F s'.F → Same s'.F s'.H → SqT G.K s'.H a vs := fun s' h1 h2 => same_sqT h2 (same_sqT h1 h)
  refine ⟨fun s' h1 h2 h3 i hi => ?_, fun s' h1 h2 h3 i x H' hi y => ?_, fun s' h1 h2 h3 i hi => ⟨vs, up s' h2 h3, by rw [← r.length]; exact hi⟩⟩
  · obtain ⟨v, e, _⟩ := r.get (List.getElem?_eq_getElem hi)
    exact ⟨vs, v, up s' h2 h3, e⟩
  · obtain ⟨e, y⟩ := y
    obtain ⟨d, e2, rd⟩ := r.get' (y vs (up s' h2 h3))
    exact ⟨e, d, e2, rd.mono h2 h1⟩
theorem itm_str {G : G3} {s : S3} (y : Str) : Itm G s (y.cps.toList.map fun c => .str ⟨#[c]⟩) (Its y) := by
  have hl : (y.cps.toList.map fun c => D.str ⟨#[c]⟩).length = y.cps.size := by simp
  refine ⟨fun s' h1 h2 h3 i hi => by rw [hl] at hi; exact hi, fun s' h1 h2 h3 i x H' hi y' => ?_, fun s' h1 h2 h3 i hi => by rw [hl] at hi; exact hi⟩
  obtain ⟨e, c, ec, rfl⟩ := y'
  exact ⟨e, .str ⟨#[c]⟩, by rw [List.getElem?_map, Array.getElem?_toList, ec]; rfl, .str⟩
theorem mi_seq (h : ME P l m) : MI P tg l (iSeq m) := by
  obtain ⟨t, pt, ht⟩ := h.out
  refine MI.mk' (pi_seq3 pt) fun B0 B s st u z R wd sl hp => ht B0 B s st u z _ wd sl (Post.bind hp fun w st1 s1 v l1 wd1 r1 h1 => ?_)
  cases w with
  | val d =>
    obtain ⟨xs, e, h1⟩ := of_eq h1
    rw [P.hK]
    cases r1 with
    | str => cases e; exact .inl ⟨_, rfl, h1.pure wd1 (itm_str _)⟩
    | tup hq rl => cases e; exact .inr ⟨_, rfl, .inr ⟨⟨_, (hq.mono wd1.sub).sq⟩, h1.pure wd1 (itm_tup hq.sq rl)⟩⟩
    | lst hq rl => cases e; exact .inr ⟨_, rfl, .inl ⟨⟨_, .inl (.inl (wd1.sub _ _ hq))⟩, h1.pure wd1 (itm_list (.inl (.inl hq)) rl)⟩⟩
    | ctup hq rl => cases e; exact .inr ⟨_, rfl, .inr ⟨⟨_, same_sqT wd1.sub hq⟩, h1.pure wd1 (itm_tup hq rl)⟩⟩
    | ro hq rl => cases e; exact .inr ⟨_, rfl, .inl ⟨⟨_, same_sqL wd1.sub hq⟩, h1.pure wd1 (itm_list hq rl)⟩⟩
    | _ => cases e
  | _ => exact h1.elim
/-- over range -/
def rangeD (lo : Int) (n : Nat) : List D := (List.range n).map fun (i : Nat) => D.int (lo + (i : Int))
def rng1 (ws : List W) : Option (List D) := match ws with
  | [.val (.int j)] => if -1000000 ≤ j ∧ j ≤ 1000000 then some (rangeD 0 j.toNat) else none
  | _ => none
def rng2 (ws : List W) : Option (List D) := match ws with
  | [.val (.int i), .val (.int j)] => if -1000000 ≤ i ∧ i ≤ 1000000 ∧ -1000000 ≤ j ∧ j ≤ 1000000 then some (rangeD i (j - i).toNat) else none
  | _ => none
def iRange1 (m : AM) : FM := fun u => M.bind (m u) fun ws => M.of (rng1 ws)
def iRange2 (m : AM) : FM := fun u => M.bind (m u) fun ws => M.of (rng2 ws)
theorem itm_range {G : G3} {s : S3} (lo : Int) (n : Nat) : Itm G s (rangeD lo n) (Itr lo n) := by
  have hl : (rangeD lo n).length = n := by simp [rangeD]
  refine ⟨fun s' h1 h2 h3 i hi => by rw [hl] at hi; exact hi, fun s' h1 h2 h3 i x H' hi y => ?_, fun s' h1 h2 h3 i hi => by rw [hl] at hi; exact hi⟩
  obtain ⟨e, rfl⟩ := y
  rw [hl] at hi
  exact ⟨e, _, by simp [rangeD, hi], .int⟩
theorem mi_range1 {a : Expr} {ma : AM} (hg : Gl P.X "range") (hm : P.X.mg "range" = none) (ha : MA P [a] ma) (hs : starEach [a] P.X.env = [(false, eval a P.X.env)] := by rfl) : MI P tg (.Call (.Name "range" p) [a] [] pos) (iRange1 ma) := by
  obtain ⟨t, pt, ht⟩ := ha.out
  refine MI.mk' (pi_range1 hg hm pt hs) fun B0 B s st u z R wd sl hp => ht B0 B s st u z _ wd sl (Post.bind hp fun ws st1 s1 v l1 wd1 r1 h1 => ?_)
  obtain ⟨xs, e, h1⟩ := of_eq h1
  unfold rng1 at e
  split at e
  · rename_i j
    cases r1 with
    | cons r rr =>
      cases rr
      cases r
      split at e
      · rename_i hc
        cases e
        exact ⟨j, rfl, by omega, by omega, h1.pure wd1 (itm_range 0 _)⟩
      · cases e
  · cases e
end
/-! ### for, while -/
def forL (g : GM) (b : SM) : List D → SM
  | [], u, st => .nx u st
  | d :: ds, u, st => match g d u with
    | none => .bad
    | some u1 => match b u1 st with
      | .nx u2 st2 => forL g b ds u2 st2
      | .ct u2 st2 => forL g b ds u2 st2
      | .bk u2 st2 => .nx u2 st2
      | r => r
def sFor (m : FM) (g : GM) (b : SM) : SM := fun u st => match m u st with
  | .ok ds st' => forL g b ds u st'
  | .err c x st' => .err c x u st'
  | .bad => .bad
section
variable {P : P3} {pos : Pos}
theorem ms_for {tg iter : Expr} {body : List Stmt} {mi : FM} {g : GM} {gs : List Nat} {mb : SM} (hp : PassesOwn (model P.X.prog P.X.w) P.X.A P.X.env P.X.xe) (hc : P.X.calm = true) (hi : MI P tg iter mi) (hg : MG P tg g gs) (hb : MSs P body mb)
    (hs : ∀ x, foldedSetIterable iter P.X.env x = pure x := by intro _; rfl) : MS P (.For tg iter body [] pos) (sFor mi g mb) := by
  obtain ⟨ti, pi, hti⟩ := hi.out
  obtain ⟨tb, pb, htb⟩ := hb.out
  refine MS.mk' (ps_for hp hc pi hg.pg pb hs) fun B0 B s o u z D b0 wd sl h => hti B0 B s o u z _ wd sl ?_
  unfold sFor at h
  cases e : mi u o with
  | bad => rw [e] at h; exact h
  | err c x st' => rw [e] at h; exact fun s' cv dd l w q => h B s' z cv dd b0 (l.less b0) w (sl.mono' l) q
  | ok ds st' =>
    rw [e] at h
    intro s1 J l1 w1 im
    have h := PostS.mono (l1.less b0) h
    refine ⟨fun i n z' H' => n = ds.length - i ∧ i ≤ ds.length ∧ ∃ (B' : Addr → Prop) (s' : S3) (o' : Store) (u' : Sl3), s'.H = H' ∧ (∀ a, B0 a → B' a) ∧ Le B0 s1 s' ∧ Wd P.G B' o' s' ∧ Slo P.G P.hx B0 B' s' u' z' ∧ PostS P.G P.hx P.wx B0 s' D (forL g mb (ds.drop i) u' o'),
      ⟨_, rfl, Nat.zero_le _, B, s1, st', u, rfl, b0, Le.refl _, w1, sl.mono' l1, h⟩, ?_⟩
    rintro i n z' H' ⟨rfl, hi, B', s', o', u', rfl, b0', l', w', sl', p⟩
    rcases Nat.lt_or_ge i ds.length with hlt | hge
    · right
      refine ⟨im.go s' l'.io l'.fr w'.sub i hlt, fun z2 H2 => i + 1 ≤ ds.length ∧ ∃ (B' : Addr → Prop) (s' : S3) (o' : Store) (u' : Sl3), s'.H = H2 ∧ (∀ a, B0 a → B' a) ∧ Le B0 s1 s' ∧ Wd P.G B' o' s' ∧ Slo P.G P.hx B0 B' s' u' z2 ∧ PostS P.G P.hx P.wx B0 s' D (forL g mb (ds.drop (i + 1)) u' o'),
        fun z2 H2 q => ⟨_, by omega, rfl, q.1, q.2⟩, fun x H2 y => ?_⟩
      obtain ⟨rfl, d, ed, rd⟩ := im.yld s' l'.io l'.fr w'.sub i x _ hlt y
      rw [List.drop_eq_getElem_cons hlt] at p
      have ed' : ds[i] = d := by rw [List.getElem?_eq_getElem hlt] at ed; cases ed; rfl
      rw [ed'] at p
      unfold forL at p
      cases eg : g d u' with
      | none => rw [eg] at p; exact p.elim
      | some u1 =>
        rw [eg] at p
        refine ⟨B0, B', s', o', u', d, u1, rfl, w', sl', rd, eg, fun z2 sl2 _ => ?_⟩
        refine htb B0 B' s' o' u1 z2 _ b0' w' sl2 ?_
        dsimp only at p
        cases eb : mb u1 o' with
        | nx u2 st2 => rw [eb] at p; exact fun B2 s2 z3 hb2 l2 w2 sl3 => ⟨hlt, B2, s2, st2, u2, rfl, hb2, l'.trans l2, w2, sl3, PostS.mono l2 p⟩
        | ct u2 st2 => rw [eb] at p; exact fun B2 s2 z3 hb2 l2 w2 sl3 => ⟨hlt, B2, s2, st2, u2, rfl, hb2, l'.trans l2, w2, sl3, PostS.mono l2 p⟩
        | bk u2 st2 => rw [eb] at p; exact p
        | rt w st2 => rw [eb] at p; exact p
        | err c x u2 st2 => rw [eb] at p; exact p
        | bad => rw [eb] at p; exact p
    · left
      have e0 : ds.drop i = [] := List.drop_eq_nil_of_le hge
      rw [e0] at p
      exact ⟨im.stop s' l'.io l'.fr w'.sub i hge, p B' s' z' b0' (Le.refl _) w' sl'⟩
end
end M3
namespace M3
open PySem PySem.Spec PyProof.Rows L2
/-! ### list comprehensions -/
def wipe3 (u : Sl3) : List Nat → Sl3
  | [] => u
  | v :: vs => (wipe3 u vs).set v none
theorem Slo.wipe {G : G3} {X : Hex} {B0 B : Addr → Prop} {s : S3} {u : Sl3} {z : L2.St} (h : Slo G X B0 B s u z) : ∀ vs : List Nat, Slo G X B0 B s (wipe3 u vs) (L2.wipe z vs)
  | [] => h
  | v :: vs => (Slo.wipe h vs).del v none
/-- no exception leaves a comprehension -/
abbrev noW : WX := fun _ _ _ _ => False
abbrev P3.blk (P : P3) (s : Shared) (H : Hp) (scope : Scope) (C : Addr) (cl : List (Str × Addr)) (fp : List Addr) : P3 := ⟨P.X.blk s H scope (compEnvC scope cl C P.X.env) fp, P.G, P.hx, noW, P.hK, P.hw⟩
structure MIfs (P : P3) (ifs : List Expr) (m : TM) : Prop where
  pts : PTs P.X ifs (tT P.G P.hx P.wx m)
def tYes3 : TM := fun _ => M.pure true
theorem mifs_nil {P : P3} : MIfs P [] tYes3 :=
  ⟨⟨fun pins s0 z H Q I ⟨B0, B, s, st, u, e, wd, sl, p⟩ => by subst e; exact pts_nil.run pins s0 z _ Q I (p.pure wd rfl)⟩⟩
theorem mifs_one {P : P3} {c : Expr} {m : TM} (h : MT P c m) : MIfs P [c] m := ⟨pts_one h.pt⟩
/-- turn by turn; u0: the slots without the block's own -/
def lcL (g : GM) (c : TM) (e : EM) (u0 : Sl3) : List D → List D → M (List D)
  | [], acc => M.pure acc
  | d :: ds, acc => M.bind (M.of (g d u0)) fun u1 => M.bind (M.quiet (c u1)) fun k =>
    if k = true then M.bind (M.quiet (e u1)) fun w => M.bind (M.of w.d) fun x => M.bind (M.chk (acc.length < 1000000)) fun _ => lcL g c e u0 ds (acc ++ [x])
    else lcL g c e u0 ds acc
def fLc (mi : FM) (g : GM) (c : TM) (e : EM) (own : List Nat) : FM := fun u => M.bind (mi u) fun ds => lcL g c e (wipe3 u own) ds []
section
variable {P : P3} {pos : Pos}
theorem of_quiet {α : Type} {m : M α} {f : α → M (List D)} {st : Store} {G : G3} {B : Addr → Prop} {E : XK} {s : S3} {Q : VK} (h : PostF G B E s Q (M.bind (M.quiet m) f st)) : ∃ a st', m st = .ok a st' ∧ PostF G B E s Q (f a st') := by
  unfold M.bind M.quiet at h
  cases e : m st with
  | ok a st' => rw [e] at h; exact ⟨a, st', rfl, h⟩
  | err c x st' => rw [e] at h; exact h.elim
  | bad => rw [e] at h; exact h.elim
theorem plus_le {B : Addr → Prop} {p : Addr} {s s' : S3} (l : Le (plus B p) s s') : Le B s s' := l.less fun a b => .inl b
/-- the list that is being made grows by one -/
theorem grow_wd {G : G3} {B : Addr → Prop} {st : Store} {s : S3} {p : Addr} {vs : List V} {xs : List D} {d : D} {v : V} (w : Wd G (plus B p) st s) (nb : ¬ B p) (h : s.H p = some (.lst vs)) (o : HO) (nt : OwnH o := by exact ⟨fun _ q => (by cases q), fun _ _ q => (by first | exact dkO_code q | exact cellO_code q | (unfold LamX.CodeO at q; cases q))⟩) :
    Wd G (plus B p) st ⟨s.io, s.F, upd s.H p o⟩ ∧ Le B s ⟨s.io, s.F, upd s.H p o⟩ := by
  have hF := (w.hid p (.inr rfl)).1
  refine ⟨⟨fun b u e => ?_, fun a b => ?_, w.ftb, w.dom, w.inj, fun k u e t => ?_, w.untM (IoLe.refl _) (Same.refl _), w.tabM (Same.refl _) (upd_tbl (w.ntbl (.inr rfl)))⟩, IoLe.refl _, Same.refl _, fun a b => upd_ne fun z => by subst z; exact nb b⟩
  · show upd s.H p o b = some u
    rw [upd_ne (fun z => by subst z; have e : s.F b = some u := e; rw [hF] at e; cases e)]
    exact w.sub b u e
  · by_cases q : a = p
    · subst q; exact ⟨hF, o, upd_same, nt⟩
    · obtain ⟨h1, u, h2, h3⟩ := w.hid a b
      exact ⟨h1, u, by show upd s.H p o a = some u; rw [upd_ne q]; exact h2, h3⟩
  · obtain ⟨a, e1, b1, f1, o1⟩ := w.obj k u e t
    have na : a ≠ p := fun z => b1 (.inr z)
    exact ⟨a, e1, b1, f1, ObjR.mono (s := s) (s' := ⟨s.io, s.F, upd s.H p o⟩) (IoLe.refl _) (Same.refl _) (upd_ne na) o1⟩
theorem Slo.more {G : G3} {X : Hex} {B0 B B' : Addr → Prop} {s : S3} {u : Sl3} {z : L2.St} (h : Slo G X B0 B s u z) (hb : ∀ a, B a → B' a) : Slo G X B0 B' s u z := by
  obtain ⟨hl, ow, h1, h2⟩ := h
  exact ⟨hl, ow, fun i w e => let ⟨v, e1, r, q⟩ := h1 i w e; ⟨v, e1, r.wider hb, q⟩, h2⟩
theorem lc_ok {tgt iter elt : Expr} {ifs : List Expr} {mi : FM} {g : GM} {gs : List Nat} {c : TM} {e : EM} {own : List Nat} {ti : TI} (hgs : ∀ i ∈ gs, i ∈ own)
    (hti : ∀ (B0 B : Addr → Prop) (s : S3) (st : Store) (u : Sl3) (z : L2.St) (R : It → Hp → Prop), Wd P.G B st s → Slo P.G P.hx B0 B s u z → Post P.G B (fun s ds J => Itm P.G s ds J) (fun c d H => P.wx c d z H) s R (mi u st) → ti z s.H R)
    {B0 B : Addr → Prop} {s : S3} {st : Store} {u : Sl3} {z : L2.St} {Q : VK} (wd : Wd P.G B st s) (sl : Slo P.G P.hx B0 B s u z) (h : PostF P.G B (fun c d H => P.wx c d z H) s Q (fLc mi g c e own u st)) :
    tLc ti (tG P.G P.hx g gs) (tT P.G P.hx noW c) (tE P.G P.hx noW e) own z s.H Q := by
  refine hti B0 B s st u z _ wd sl (PostF.bind h fun ds st1 s1 J l1 wd1 im h1 => ?_)
  intro p hp
  obtain ⟨wd2, l2⟩ := own_wd (ho := .lst []) wd1 hp
  have nb : ¬ B p := wd1.freshB hp
  refine ⟨fun i n H' => n = ds.length - i ∧ i ≤ ds.length ∧ ∃ (s' : S3) (st' : Store) (acc : List D) (vs : List V), s'.H = H' ∧ Le B s1 s' ∧ Wd P.G (plus B p) st' s' ∧ s'.H p = some (.lst vs) ∧ RepL P.G.R s'.F s'.io acc vs ∧
      PostF P.G B (fun c d H => P.wx c d z H) s' Q (lcL g c e (wipe3 u own) (ds.drop i) acc st'),
    ⟨_, rfl, Nat.zero_le _, _, st1, [], [], rfl, l2, wd2, upd_same, .nil, PostF.mono l2 h1⟩, ?_⟩
  rintro i n H' ⟨rfl, hi, s', st', acc, vs, rfl, l', w', hq, rl, pf⟩
  rcases Nat.lt_or_ge i ds.length with hlt | hge
  · right
    refine ⟨im.go s' l'.io l'.fr w'.sub i hlt, fun H2 => i + 1 ≤ ds.length ∧ ∃ (s' : S3) (st' : Store) (acc : List D) (vs : List V), s'.H = H2 ∧ Le B s1 s' ∧ Wd P.G (plus B p) st' s' ∧ s'.H p = some (.lst vs) ∧ RepL P.G.R s'.F s'.io acc vs ∧
      PostF P.G B (fun c d H => P.wx c d z H) s' Q (lcL g c e (wipe3 u own) (ds.drop (i + 1)) acc st'), fun H2 q => ⟨_, by omega, rfl, q.1, q.2⟩, fun x H2 y => ?_⟩
    obtain ⟨rfl, d, ed, rd⟩ := im.yld s' l'.io l'.fr w'.sub i x _ hlt y
    rw [List.drop_eq_getElem_cons hlt] at pf
    have ed' : ds[i] = d := by rw [List.getElem?_eq_getElem hlt] at ed; cases ed; rfl
    rw [ed'] at pf
    unfold lcL at pf
    obtain ⟨u1, eg, pf⟩ := PostF.of_of pf
    have slw : Slo P.G P.hx B0 (plus B p) s' (wipe3 u own) (L2.wipe z own) := ((sl.mono' (l1.trans l')).more fun a b => .inl b).wipe own
    refine ⟨B0, plus B p, s', st', wipe3 u own, d, u1, rfl, w', slw, rd, eg, fun z2 sl2 b2 => ⟨?_, ?_⟩⟩
    · rw [b2.wipe hgs, wipe_wipe]
    · obtain ⟨k, st3, ek, pf⟩ := of_quiet pf
      refine ⟨B0, plus B p, s', st', u1, rfl, w', sl2, ?_⟩
      rw [ek]
      intro s3 k' l3 w3 rk
      subst rk
      have hq3 : s3.H p = some (.lst vs) := (l3.hid p (.inr rfl)).trans hq
      have rl3 := rl.mono l3.fr l3.io
      have pf := PostF.mono (plus_le l3) pf
      cases k with
      | false => exact ⟨hlt, s3, st3, acc, vs, rfl, l'.trans (plus_le l3), w3, hq3, rl3, pf⟩
      | true =>
        rw [if_pos rfl] at pf
        obtain ⟨w, st4, ew, pf⟩ := of_quiet pf
        rw [if_pos rfl]
        refine ⟨B0, plus B p, s3, st3, u1, rfl, w3, sl2.mono' l3, ?_⟩
        rw [ew]
        intro s4 v4 l4 w4 r4
        obtain ⟨x4, ex, pf⟩ := PostF.of_of pf
        obtain ⟨hz, pf⟩ := PostF.of_chk pf
        have hq4 : s4.H p = some (.lst vs) := (l4.hid p (.inr rfl)).trans hq3
        have rl4 := rl3.mono l4.fr l4.io
        have rx : Rep P.G.R s4.F s4.io x4 v4 := by
          cases w with
          | val d => cases ex; exact r4
          | _ => cases ex
        obtain ⟨w5, l5⟩ := grow_wd (xs := []) (d := .non) (v := .non) w4 nb hq4 (.lst (vs ++ [v4]))
        exact ⟨vs, hq4, by rw [← rl4.length]; exact szl hz, hlt, _, st4, acc ++ [x4], vs ++ [v4], rfl, ((l'.trans (plus_le l3)).trans (plus_le l4)).trans l5, w5, upd_same, rl4.append (.cons rx .nil), PostF.mono ((plus_le l4).trans l5) pf⟩
  · left
    have e0 : ds.drop i = [] := List.drop_eq_nil_of_le hge
    rw [e0] at pf
    exact ⟨im.stop s' l'.io l'.fr w'.sub i hge, pf s' p vs (Le.refl _) w' nb hq rl⟩
where
  wipe_wipe {z : L2.St} {vs : List Nat} : L2.wipe (L2.wipe z vs) vs = L2.wipe z vs := by
    apply List.ext_getElem?
    intro i
    by_cases hi : i ∈ vs
    · by_cases hl : i < z.length
      · rw [wipe_in hi (by rw [wipe_length]; exact hl), wipe_in hi hl]
      · rw [List.getElem?_eq_none (by rw [wipe_length, wipe_length]; omega), List.getElem?_eq_none (by rw [wipe_length]; omega)]
    · rw [wipe_out hi]
theorem mf_lc {elt tg iter : Expr} {ifs : List Expr} {scope : Scope} {own : List (Str × Nat)} {mi : FM} {g : GM} {gs : List Nat} {c : TM} {m : EM} (hc : P.X.calm = true) (hN : P.X.N.Nodup) (hi : MI P tg iter mi) (ok : BlkOk P.X.N P.X.env.scope scope own)
    (hg : ∀ (s : Shared) (H : Hp) (C : Addr) (cl : List (Str × Addr)) (fp : List Addr), MG (P.blk s H scope C cl fp) tg g gs) (ht : ∀ (s : Shared) (H : Hp) (C : Addr) (cl : List (Str × Addr)) (fp : List Addr), MIfs (P.blk s H scope C cl fp) ifs c)
    (he : ∀ (s : Shared) (H : Hp) (C : Addr) (cl : List (Str × Addr)) (fp : List Addr), ME (P.blk s H scope C cl fp) elt m) (hgs : ∀ i ∈ gs, i ∈ own.map (·.2) := by decide) (hs : ∀ x, foldedSetIterable iter P.X.env x = pure x := by intro _; rfl) :
    MF P (.ListComp elt [⟨tg, iter, ifs, 0⟩] scope pos) (fLc mi g c m (own.map (·.2))) := by
  obtain ⟨ti, pi, hti⟩ := hi.out
  refine MF.mk' (pe_lc (own := own) (g := tG P.G P.hx g gs) (tt := tT P.G P.hx noW c) (te := tE P.G P.hx noW m) hc hN pi ok (fun s H C cl fp => (hg s H C cl fp).pg) (fun s H C cl fp => (ht s H C cl fp).pts) (fun s H C cl fp => (he s H C cl fp).pe) hs) fun B0 B s st u z Q wd sl h => ?_
  exact lc_ok (tgt := tg) (iter := iter) (elt := elt) (ifs := ifs) hgs hti wd sl h
/-- x = [..] on one line -/
theorem ms_setLc {i : Nat} {y : Str} {py spos : Pos} {elt tg iter : Expr} {ifs : List Expr} {scope : Scope} {own : List (Str × Nat)} {mi : FM} {g : GM} {gs : List Nat} {c : TM} {m : EM} (hc : P.X.calm = true) (hN : P.X.N.Nodup) (hi : MI P tg iter mi) (ok : BlkOk P.X.N P.X.env.scope scope own)
    (hg : ∀ (s : Shared) (H : Hp) (C : Addr) (cl : List (Str × Addr)) (fp : List Addr), MG (P.blk s H scope C cl fp) tg g gs) (ht : ∀ (s : Shared) (H : Hp) (C : Addr) (cl : List (Str × Addr)) (fp : List Addr), MIfs (P.blk s H scope C cl fp) ifs c)
    (he : ∀ (s : Shared) (H : Hp) (C : Addr) (cl : List (Str × Addr)) (fp : List Addr), ME (P.blk s H scope C cl fp) elt m)
    (hsw : swapsWith (.ListComp elt [⟨tg, iter, ifs, 0⟩] scope pos) (some (.Name y py)) spos.line P.X.env = pure true) (hy : P.X.N[i]? = some y := by rfl) (hyl : P.X.env.scope.names.lookup y = some .local := by rfl)
    (hgs : ∀ i ∈ gs, i ∈ own.map (·.2) := by decide) (hs : ∀ x, foldedSetIterable iter P.X.env x = pure x := by intro _; rfl) :
    MS P (.Assign [.Name y py] (.ListComp elt [⟨tg, iter, ifs, 0⟩] scope pos) spos) (sSet i (eF (fLc mi g c m (own.map (·.2))))) := by
  obtain ⟨ti, pi, hti⟩ := hi.out
  refine MS.mk' (ps_setLc (own := own) (g := tG P.G P.hx g gs) (tt := tT P.G P.hx noW c) (te := tE P.G P.hx noW m) hc hN hy hyl hsw pi ok (fun s H C cl fp => (hg s H C cl fp).pg) (fun s H C cl fp => (ht s H C cl fp).pts) (fun s H C cl fp => (he s H C cl fp).pe) hs) fun B0 B s o u z D b0 wd sl h => ?_
  refine lc_ok (tgt := tg) (iter := iter) (elt := elt) (ifs := ifs) hgs hti wd sl ?_
  unfold sSet eF M.bind at h
  cases e : fLc mi g c m (own.map (·.2)) u o with
  | ok xs st' =>
    rw [e] at h
    dsimp only [M.pure] at h
    exact fun s' p vs l w nb hp r => h B ⟨s'.io, upd s'.F p (.lst vs), s'.H⟩ _ b0 ((l.trans (freeze_le w)).less b0) (freeze_wd w nb hp) ((sl.mono' (l.trans (freeze_le w))).set (.lst upd_same (r.mono (freeze_le w).fr (freeze_le w).io)) i)
  | err c x st' => rw [e] at h; exact fun s' cv dd l w q => h B s' z cv dd b0 (l.less b0) w (sl.mono' l) q
  | bad => rw [e] at h; exact h
end
end M3
namespace M3
open PySem PySem.Spec PyProof.Rows L2
/-! ### a def and its mirror -/
def mfn (N : Nat) (mb : SM) : List D → M D := fun ds st => match mb (ds.map (fun d => some (.val d)) ++ List.replicate (N - ds.length) none) st with
  | .nx _ st' => .ok .non st'
  | .rt (.val d) st' => .ok d st'
  | .rt (.bor xs) st' => .ok (.lst xs) st'
  | .err c x _ st' => .err c x st'
  | _ => .bad
/-- the promise: it hands back what the mirror says -/
def spM (G : G3) (n : Nat) (m : List D → M D) : Sp := fun vs H Q E => vs.length = n ∧ ∃ (B : Addr → Prop) (s : S3) (st : Store) (ds : List D), s.H = H ∧ Wd G B st s ∧ RepL G.R s.F s.io ds vs ∧
  Post G B (fun s d v => Rep G.R s.F s.io d v) E s Q (m ds st)
theorem slo_start {G : G3} {X : Hex} {B0 B : Addr → Prop} {s : S3} {N : List Str} {ds : List D} {vs : List V} (r : RepL G.R s.F s.io ds vs) :
    Slo G X B0 B s (ds.map (fun d => some (.val d)) ++ List.replicate (N.length - ds.length) none) (L2.start N vs) := by
  have hl := r.length
  have none_ : ∀ {i : Nat} {w : M3.W}, (ds.map (fun d => some (M3.W.val d)) ++ List.replicate (N.length - ds.length) none)[i]? = some (some w) → ∃ d, ds[i]? = some d ∧ w = .val d := fun {i w} e => by
    by_cases hi : i < ds.length
    · rw [List.getElem?_append_left (by simpa using hi), List.getElem?_map] at e
      cases h : ds[i]? with
      | none => rw [h] at e; cases e
      | some d => rw [h] at e; cases e; exact ⟨d, rfl, rfl⟩
    · rw [List.getElem?_append_right (by simpa using hi), List.getElem?_replicate] at e
      split at e <;> cases e
  refine ⟨by unfold L2.start; simp [hl], fun _ => 0, fun i w e => ?_, fun i j w w' o1 o2 e1 e2 _ => ?_⟩
  · obtain ⟨d, e1, rfl⟩ := none_ e
    obtain ⟨v, e2, rv⟩ := r.get e1
    refine ⟨v, ?_, rv, fun q => by cases q⟩
    unfold L2.start
    have hi : i < vs.length := (List.getElem?_eq_some_iff.mp e2).1
    rw [List.getElem?_append_left (by simpa using hi), List.getElem?_map, e2]
    rfl
  · obtain ⟨d, _, q⟩ := none_ e1
    subst q; cases o1
section
variable {P : Program} {w : World} {K : PySem.W.Frag} {mg : Str → Option Value} {base : Heap}
theorem fn_ok {G : G3} (hK : K = G.K) (hw : w = G.w) {x qual : Str} {st : Stmt} {f : Addr} {fd : FuncData} {N ps : List Str} {k : Nat} {mb : SM} (F : Fun K x qual st f fd) (S : FnScope N ps (defScope st))
    (h : ∀ (cdv : Value) (A : Around) (outer : List Env) (s : Shared) (H : Hp) (E : XK), Room k (A.deeper (envOfC qual (defScope st) s.heap.objs.size f cdv)) →
      MSs ⟨cxOf (L2.CX P w) P w K mg base N qual (defScope st) f cdv A outer s H E, G, none, fun cls d _ H => E cls d H, hK, hw⟩ (defBody st) mb) :
    FnOk P w K mg base (L2.CX P w) (k + 1) f fd ps (spM G ps.length (mfn N.length mb)) := by
  refine F.okX S (fun vs H Q E h => h.1) fun cdv A outer s0 H vs Q E hr ⟨hl, B, s, o, ds, e, wd, rl, hp⟩ => ?_
  subst e
  obtain ⟨t, pt, ht⟩ := (h cdv A outer s0 s.H E hr).out
  refine ⟨t, pt, ht B B s o _ _ _ (fun _ b => b) wd (slo_start (N := N) rl) ?_⟩
  unfold mfn at hp
  have hlen : ds.map (fun d => some (M3.W.val d)) ++ List.replicate (N.length - ds.length) none = ds.map (fun d => some (M3.W.val d)) ++ List.replicate (N.length - ds.length) none := rfl
  cases em : mb (ds.map (fun d => some (.val d)) ++ List.replicate (N.length - ds.length) none) o with
  | nx u' st' => rw [em] at hp; exact fun B' s' z' b l w sl => hp s' .non l (w.less b) .non
  | rt w st' =>
    rw [em] at hp
    cases w with
    | val d => exact fun B' s' v b l w r => hp s' v l (w.less b) r
    | bor xs =>
      rintro B' s' v b l w ⟨p, vs', rfl, bp, nb, hq, r⟩
      have w' : Wd G (plus B p) st' s' := w.less fun a q => q.elim (b a) fun z => z ▸ bp
      exact hp ⟨s'.io, upd s'.F p (.lst vs'), s'.H⟩ (.ref p) (l.trans (freeze_le w')) (freeze_wd w' nb hq) (.lst upd_same (r.mono (freeze_le w').fr (freeze_le w').io))
    | bod ks us => exact hp.elim
    | bdd ks us => exact hp.elim
    | exn c x => exact hp.elim
    | len xs => exact hp.elim
  | bk u' st' => rw [em] at hp; exact hp.elim
  | ct u' st' => rw [em] at hp; exact hp.elim
  | err c x u' st' => rw [em] at hp; exact fun B' s' z' cv dd b l w sl q => hp s' cv dd l (w.less b) q
  | bad => rw [em] at hp; exact hp.elim
end
/-! ### calls of own defs -/
def eCall (n : Nat) (m : List D → M D) (ma : AM) : EM := fun u => M.bind (ma u) fun ws => M.bind (M.of (asDs ws)) fun ds => M.bind (M.chk (ds.length = n)) fun _ => M.bind (m ds) fun d => M.pure (.val d)
section
variable {P : P3} {pos p : Pos} {x : Str} {e : Expr} {es : List Expr} {ma : AM} {m : List D → M D} {k j n : Nat} {f : Addr} {fd : FuncData} {ps : List Str}
/-- a def of the top that may be called: where it stands, its mirror -/
structure Cal (Pg : Program) (w : World) (K : PySem.W.Frag) (mg : Str → Option Value) (base : Heap) (G : G3) (k : Nat) (x : Str) (n : Nat) (m : List D → M D) : Prop where
  ex : ∃ f fd ps, mg x = some (.ref f) ∧ PySem.W.keepIn K (.ref f) = true ∧ Binds K fd ps [] ∧ ps.length = n ∧ FnOk Pg w K mg base (L2.CX Pg w) k f fd ps (spM G n m)
theorem me_call (c : Cal P.X.prog P.X.w P.X.K P.X.mg P.X.base P.G k x n m) (hr : Room j P.X.A) (hk : k ≤ j) (tk : Takes P.X P.wx) (hg : Gl P.X x) (ha : MA P (e :: es) ma)
    (hdb : (x == ("__debug__" : Str)) = false := by decide) (he : starEach (e :: es) P.X.env = (false, eval e P.X.env) :: starEach es P.X.env := by rfl) (hpl : (backTo pos (starEach es P.X.env)).any (·.1) = false := by rfl) :
    ME P (.Call (.Name x p) (e :: es) [] pos) (eCall n m ma) := by
  obtain ⟨f, fd, ps, hm, hkp, hb, hn, F⟩ := c.ex
  obtain ⟨t, pt, ht⟩ := ha.out
  refine ME.mk' (pe_callS F (hr.mono hk) hg hm hkp hb (fun σ => passAt tk σ) pt hdb he hpl) fun B0 B s st u z Q wd sl h => ht B0 B s st u z _ wd sl (Post.bind h fun ws st1 s1 vs l1 wd1 r1 h1 => ?_)
  obtain ⟨ds, e, h1⟩ := Post.of_of h1
  obtain ⟨hl, h1⟩ := Post.of_chk h1
  have rl := asDs_ok r1 e
  refine ⟨by rw [← rl.length]; exact hl, B, s1, st1, ds, rfl, wd1, rl, ?_⟩
  unfold M.bind at h1
  cases em : m ds st1 with
  | ok d st' => rw [em] at h1; exact fun s' v l w r => h1 s' v l w r
  | err c x st' => rw [em] at h1; exact h1
  | bad => rw [em] at h1; exact h1
end
/-! ### calls of built-ins -/
def CallM (P : P3) (f : Value) (g : List W → Option W) : Prop := ∃ r, CallR P.X f r ∧ ∀ (B : Addr → Prop) (s : S3) (st : Store) (ws : List W) (w : W) (vs : List V) (Q : VK), Wd P.G B st s → RepWs P.G P.hx B s ws vs →
  g ws = some w → (∀ (s' : S3) (v : V), Le B s s' → Wd P.G B st s' → RepW P.G P.hx B s' w v → Q v s'.H) → r vs s.H Q
def eB (g : List W → Option W) (ma : AM) : EM := fun u => M.bind (ma u) fun ws => M.of (g ws)
def fB (g : List W → Option (List D)) (ma : AM) : FM := fun u => M.bind (ma u) fun ws => M.of (g ws)
section
variable {P : P3} {pos p : Pos} {x : Str} {e : Expr} {es : List Expr} {ma : AM} {id T : String} {g : List W → Option W} {gf : List W → Option (List D)}
theorem me_callB (hc : CallM P (.builtin id) g) (hg : Gl P.X x) (hm : P.X.mg x = none) (hv : bootBuiltins x = some (.builtin id)) (ha : MA P (e :: es) ma) (hn : x ≠ "__name__" := by decide) (hdb : (x == ("__debug__" : Str)) = false := by decide)
    (he : starEach (e :: es) P.X.env = (false, eval e P.X.env) :: starEach es P.X.env := by rfl) (hpl : (backTo pos (starEach es P.X.env)).any (·.1) = false := by rfl) : ME P (.Call (.Name x p) (e :: es) [] pos) (eB g ma) := by
  obtain ⟨t, pt, ht⟩ := ha.out
  obtain ⟨r, hr, hq⟩ := hc
  refine ME.mk' (pe_callB hr hg hm hv pt hn hdb he hpl) fun B0 B s st u z Q wd sl h => ht B0 B s st u z _ wd sl (Post.bind h fun ws st1 s1 vs l1 wd1 r1 h1 => ?_)
  obtain ⟨w, e, h1⟩ := of_eq h1
  exact hq B s1 st1 ws w vs Q wd1 r1 e fun s' v l w' r => h1 s' v l w' r
theorem me_callTy (hc : CallM P (.type T) g) (hg : Gl P.X x) (hm : P.X.mg x = none) (hv : bootBuiltins x = some (.type T)) (ha : MA P (e :: es) ma) (hn : x ≠ "__name__" := by decide) (hdb : (x == ("__debug__" : Str)) = false := by decide)
    (he : starEach (e :: es) P.X.env = (false, eval e P.X.env) :: starEach es P.X.env := by rfl) (hpl : (backTo pos (starEach es P.X.env)).any (·.1) = false := by rfl) : ME P (.Call (.Name x p) (e :: es) [] pos) (eB g ma) := by
  obtain ⟨t, pt, ht⟩ := ha.out
  obtain ⟨r, hr, hq⟩ := hc
  refine ME.mk' (pe_callTy hr hg hm hv pt hn hdb he hpl) fun B0 B s st u z Q wd sl h => ht B0 B s st u z _ wd sl (Post.bind h fun ws st1 s1 vs l1 wd1 r1 h1 => ?_)
  obtain ⟨w, e, h1⟩ := of_eq h1
  exact hq B s1 st1 ws w vs Q wd1 r1 e fun s' v l w' r => h1 s' v l w' r
/-! len, int, tuple, list, isinstance, all, any -/
def lenF : List W → Option W
  | [.val (.str z)] => if z.length ≤ 1000000 then some (.val (.int z.length)) else none
  | [w] => (w.rd.bind D.items).map fun xs => .val (.int xs.length)
  | _ => none
theorem cm_len : CallM P (.builtin "len") lenF := by
  have hS : CallR P.X (.builtin "len") _ := call_len_str
  have hQ : CallR P.X (.builtin "len") _ := call_len_seq
  refine ⟨fun xs H Q => (∃ z, xs = [.str z] ∧ z.length ≤ sizeLine ∧ Q (.int z.length) H) ∨ ∃ p ys, xs = [.ref p] ∧ (SqL P.X.K H p ys ∨ SqT P.X.K H p ys) ∧ Q (.int ys.length) H, ?_, fun B s st ws w vs Q wd r e k => ?_⟩
  · intro pins s z H xs us Q I r h
    rcases h with h | h
    · exact hS pins s z H xs us Q I r h
    · exact hQ pins s z H xs us Q I r h
  · unfold lenF at e
    split at e
    · split at e
      · rename_i hz
        cases e
        cases r with
        | cons r rr => cases rr; cases r; exact .inl ⟨_, rfl, szL hz, k s _ (Le.refl _) wd .int⟩
      · cases e
    · rename_i w0 _
      cases r with
      | cons r rr =>
        cases rr
        cases h1 : w0.rd with
        | none => rw [h1] at e; cases e
        | some d =>
          rw [h1, Option.bind_some] at e
          cases h2 : d.items with
          | none => rw [h2] at e; cases e
          | some xs =>
            rw [h2] at e
            cases e
            obtain ⟨p, us, rfl, hq, rl⟩ := items_ok wd r h1 h2
            exact .inr ⟨p, us, rfl, hq, by rw [← rl.length]; exact k s _ (Le.refl _) wd .int⟩
    · cases e
def intCF : List W → Option W
  | [.val (.int i)] => some (.val (.int i))
  | [.val (.bl b)] => some (.val (.int (if b then 1 else 0)))
  | [.val (.str x)] => if x.length ≤ 640 then (PySem.intText? x).map fun i => .val (.int i) else none
  | _ => none
/-- int(x), x a number, a truth value, a text -/
theorem cr_int : CallR P.X (.type "int") (fun xs H Q => ((∃ i, xs = [.int i] ∧ Q (.int i) H) ∨ ∃ k, xs = [.bl k] ∧ Q (.int (if k then 1 else 0)) H) ∨ ∃ x i, xs = [.str x] ∧ x.length ≤ 640 ∧ PySem.intText? x = some i ∧ Q (.int i) H) := by
  have old : CallR P.X (.type "int") _ := call_int1
  intro pins s σ H xs us Q I r h
  rcases h with h | ⟨x, i, rfl, hl, hn, q⟩
  · exact old pins s σ H xs us Q I r h
  · obtain ⟨u, rfl, t, rfl⟩ := vals1 r
    exact PySem.W.KIN.call_text hn hl ⟨.int i, H, I.tok _, ⟨_, rfl⟩, q⟩
theorem cm_int : CallM P (.type "int") intCF := by
  refine ⟨_, cr_int, fun B s st ws w vs Q wd r e k => ?_⟩
  unfold intCF at e
  split at e
  · cases e
    cases r with
    | cons r rr => cases rr; cases r; exact .inl (.inl ⟨_, rfl, k s _ (Le.refl _) wd .int⟩)
  · cases e
    cases r with
    | cons r rr => cases rr; cases r; exact .inl (.inr ⟨_, rfl, k s _ (Le.refl _) wd .int⟩)
  · rename_i x
    split at e
    · rename_i hl
      cases hn : PySem.intText? x with
      | none => rw [hn] at e; cases e
      | some i =>
        rw [hn] at e
        cases e
        cases r with
        | cons r rr => cases rr; cases r; exact .inr ⟨x, i, rfl, hl, hn, k s _ (Le.refl _) wd .int⟩
    · cases e
  · cases e
/-- tuple(x) -/
def tupCF : List W → Option W
  | [.val (.ctup xs)] => some (.val (.ctup xs))
  | [w] => (w.rd.bind D.items).map fun xs => .val (.tup xs)
  | _ => none
theorem cm_tuple : CallM P (.type "tuple") tupCF := by
  refine ⟨_, call_tupleZ, fun B s st ws w vs Q wd r e k => ?_⟩
  unfold tupCF at e
  split at e
  · cases e
    cases r with
    | cons r rr =>
      cases rr
      cases r with
      | ctup hq rl => exact ⟨_, _, rfl, .inr ⟨by rw [P.hK]; exact same_sqT wd.sub hq, k s _ (Le.refl _) wd (.ctup hq rl)⟩⟩
  · rename_i w0 nc
    cases r with
    | cons r rr =>
      cases rr
      cases h1 : w0.rd with
      | none => rw [h1] at e; cases e
      | some d =>
        rw [h1, Option.bind_some] at e
        cases h2 : d.items with
        | none => rw [h2] at e; cases e
        | some xs =>
          rw [h2] at e
          cases e
          have fresh : ∀ {us : List V}, RepL P.G.R s.F s.io xs us → NewT us s.H Q := fun {us} rl => wd.newT rl fun s' v l w r => k s' v l w r
          cases w0 with
          | val d' =>
            cases h1
            cases r with
            | tup hq rl => cases h2; exact ⟨_, _, rfl, .inr ⟨(hq.mono wd.sub).sq, k s _ (Le.refl _) wd (.tup hq rl)⟩⟩
            | ctup hq rl => exact absurd rfl (nc _)
            | lst hq rl => cases h2; exact ⟨_, _, rfl, .inl ⟨.inl (.inl (wd.sub _ _ hq)), fresh rl⟩⟩
            | ro hq rl => cases h2; exact ⟨_, _, rfl, .inl ⟨by rw [P.hK]; exact same_sqL wd.sub hq, fresh rl⟩⟩
            | _ => cases h2
          | bor ys =>
            cases h1
            cases h2
            obtain ⟨p, us, rfl, _, hq, rl⟩ := r
            exact ⟨p, us, rfl, .inl ⟨.inl (.inl hq), fresh rl⟩⟩
          | bod ks us => cases h1
          | bdd ks us => cases h1
          | exn c x => cases h1
          | len ys =>
            cases h1
            cases h2
            obtain ⟨p, us, o, rfl, _, hq, rl⟩ := r
            exact ⟨p, us, rfl, .inl ⟨.inl (.inr ⟨o, hq⟩), fresh rl⟩⟩
  · cases e
/-- list(x) -/
def lstCF : List W → Option (List D)
  | [w] => w.rd.bind D.items
  | _ => none
/-- isinstance(x, T), T a built-in type -/
def D.tyn : D → Option String
  | .non => some "NoneType"
  | .bl _ => some "bool"
  | .int _ => some "int"
  | .str _ => some "str"
  | .tup _ => some "tuple"
  | .ctup _ => some "tuple"
  | .lst _ => some "list"
  | .dict _ _ => some "dict"
  | _ => none
def isiF : List W → Option W
  | [x, .val (.ty T)] => (x.rd.bind D.tyn).bind fun t => (kitB t T).map fun b => .val (.bl b)
  | _ => none
end
end M3
namespace M3
open PySem PySem.Spec PyProof.Rows L2
/-! ### slices -/
abbrev PM := Sl3 → M (Option Int)
def pNone : PM := fun _ => M.pure none
def pSome (m : EM) : PM := fun u => M.bind (m u) fun w => match w with
  | .val (.int i) => M.pure (some i)
  | _ => M.bad
structure MP (P : P3) (e : Option Expr) (m : PM) : Prop where
  out : ∃ t, PO P.X e t ∧ ∀ (B0 B : Addr → Prop) (s : S3) (st : Store) (u : Sl3) (z : L2.St) (Q : Option Int → Hp → Prop), Wd P.G B st s → Slo P.G P.hx B0 B s u z →
    Post P.G B (fun _ a b => a = b) (fun c d H => P.wx c d z H) s Q (m u st) → t z s.H Q
section
variable {P : P3} {pos p2 : Pos} {e : Expr} {m : EM} {lo hi : Option Expr} {ml mh : PM}
theorem mp_none : MP P none pNone := ⟨_, po_none, fun B0 B s st u z Q wd sl h => h.pure wd rfl⟩
theorem mp_some (he : ME P e m) : MP P (some e) (pSome m) := by
  obtain ⟨t, pt, ht⟩ := he.out
  refine ⟨_, po_some pt, fun B0 B s st u z Q wd sl h => ht B0 B s st u z _ wd sl (Post.bind h fun w st1 s1 v l1 wd1 r1 h1 => ?_)⟩
  split at h1
  · cases r1; exact ⟨_, rfl, h1.pure wd1 rfl⟩
  · exact h1.elim
def cutD {α : Type} (xs : List α) (lo hi : Option Int) : List α := (xs.drop (HT.sIx xs.length 0 lo)).take (HT.sIx xs.length xs.length hi - HT.sIx xs.length 0 lo)
theorem cut_rep {K : KW} {F : Hp} {io : Io} {xs : List D} {vs : List V} (r : RepL K F io xs vs) (lo hi : Option Int) : RepL K F io (cutD xs lo hi) (cutV vs lo hi) := by
  unfold cutD cutV
  rw [r.length]
  exact (r.drop _).take _
/-- a text or a tuple, cut -/
def slF (x : W) (lo hi : Option Int) : Option W := match x with
  | .val (.str z) => if z.length ≤ 1000000 then some (.val (.str (cutS z lo hi))) else none
  | .val (.tup xs) => some (.val (.tup (cutD xs lo hi)))
  | _ => none
/-- whatever it is -/
def eSlA (m : EM) (l h : PM) : EM := fun u => M.bind (m u) fun x => M.bind (l u) fun a => M.bind (h u) fun b => match x.ls with
  | some xs => M.pure (.val (.lst (cutD xs a b)))
  | none => M.of (slF x a b)
theorem cut_all {α : Type} {xs : List α} {lo hi : Option Int} (h : HT.sIx xs.length 0 lo = 0 ∧ HT.sIx xs.length xs.length hi = xs.length) : cutD xs lo hi = xs := by
  unfold cutD
  rw [h.1, h.2]
  simp
theorem me_sl (he : ME P e m) (hl : MP P lo ml) (hh : MP P hi mh) : ME P (.Subscript e (.Slice lo hi none p2) pos) (eSlA m ml mh) := by
  obtain ⟨t, pt, ht⟩ := he.out
  obtain ⟨tl, pl, htl⟩ := hl.out
  obtain ⟨th, ph, hth⟩ := hh.out
  refine ME.mk' (pe_slice (sl_str.or (sl_tupZ.or sl_list)) pt pl ph) fun B0 B s st u z Q wd sl h => ht B0 B s st u z _ wd sl (Post.bind h fun w st1 s1 v l1 wd1 r1 h1 => ?_)
  refine htl B0 B s1 st1 u z _ wd1 (sl.mono' l1) (Post.bind h1 fun a st2 s2 a' l2 wd2 ra h2 => ?_)
  subst ra
  refine hth B0 B s2 st2 u z _ wd2 (sl.mono' (l1.trans l2)) (Post.bind h2 fun b st3 s3 b' l3 wd3 rb h3 => ?_)
  subst rb
  have r3 := r1.mono (l2.trans l3)
  cases e1 : w.ls with
  | some xs =>
    rw [e1] at h3
    obtain ⟨p, vs, rfl, hp, rl⟩ := ls_ok wd3 r3 e1
    refine .inr (.inr ⟨p, vs, rfl, .inl (.inl hp), fun q hq => ?_⟩)
    obtain ⟨wd4, l4⟩ := wd3.froz hq (.lst (cutV vs a b))
    exact h3 (s3.froz q (.lst (cutV vs a b))) (.ref q) l4 wd4 (.lst upd_same ((cut_rep rl a b).mono l4.fr l4.io))
  | none =>
    rw [e1] at h3
    clear e1
    obtain ⟨w', e1, h3⟩ := of_eq h3
    unfold slF at e1
    split at e1
    · split at e1
      · rename_i hz
        cases e1
        cases r3
        exact .inl ⟨_, rfl, szL hz, h3.pure wd3 .str⟩
      · cases e1
    · rename_i xs _
      cases e1
      cases r3 with
      | tup hq rl =>
        refine .inr (.inl ⟨_, _, rfl, (hq.mono wd3.sub).sq, fun hw => ?_, fun hw => ?_⟩)
        · rw [← rl.length] at hw
          have h3 := h3
          rw [cut_all hw] at h3
          exact h3.pure wd3 (.tup hq rl)
        · exact wd3.newT (cut_rep rl a b) fun s' v l w r => h3 s' v l w r
    · cases e1
/-! ### a list of one's own grows -/
/-- x.append(e) -/
def sApp (i : Nat) (m : EM) : SM := fun u st => match u[i]? with
  | some (some (.bor xs)) => match m u st with
    | .ok (.val d) st' => if xs.length < 1000000 then .nx (u.set i (some (.bor (xs ++ [d])))) st' else .bad
    | .ok _ _ => .bad
    | .err c x st' => .err c x u st'
    | .bad => .bad
  | _ => .bad
/-- what is one's own is not locked -/
theorem own_unlocked {G : G3} {X : Hex} {B : Addr → Prop} {s : S3} {w : M3.W} {p q : Addr} {o : Obj} {vs : List V} (ow : w.own = true) (r : RepW G X B s w (.ref p)) (h : s.H q = some (.frz o (.lst vs))) : q ≠ p := fun e => by
  subst e
  cases w with
  | bor xs => obtain ⟨p', vs', e, b, h', _⟩ := r; cases e; rw [h] at h'; cases h'
  | bod ks us => obtain ⟨p', vs', e, b, h', _⟩ := r; cases e; rw [h] at h'; cases h'
  | bdd ks us => obtain ⟨p', vs', e, b, h', _⟩ := r; cases e; rw [h] at h'; cases h'
  | _ => cases ow
/-- the thing at slot i is changed: it is o, of w' -/
theorem Slo.changeW {G : G3} {X : Hex} {B0 B : Addr → Prop} {s : S3} {u : Sl3} {z : L2.St} {i : Nat} {w0 : W} {st : Store} (h : Slo G X B0 B s u z) (wd : Wd G B st s) (e : u[i]? = some (some w0)) (o0 : w0.own = true) :
    ∃ p, z[i]? = some (some (.ref p)) ∧ B p ∧ ¬ B0 p ∧ RepW G X B s w0 (.ref p) ∧ ∀ (w' : W) (ho : HO), w'.own = true → RepW G X B ⟨s.io, s.F, upd s.H p ho⟩ w' (.ref p) →
      Slo G X B0 B ⟨s.io, s.F, upd s.H p ho⟩ (u.set i (some w')) z ∧ Wd G B st ⟨s.io, s.F, upd s.H p ho⟩ ∧ Le B0 s ⟨s.io, s.F, upd s.H p ho⟩ := by
  obtain ⟨hl, ow, h1, h2⟩ := h
  obtain ⟨v, e1, rw0, q⟩ := h1 i _ e
  obtain ⟨e3, nb⟩ := q o0
  subst e3
  obtain ⟨p, e3, bp⟩ := own_ref o0 rw0
  injection e3 with e3
  have hF := (wd.hid p bp).1
  refine ⟨p, by rw [← e3]; exact e1, bp, by rw [← e3]; exact nb, by rw [← e3]; exact rw0, fun w' ho o' ru => ⟨⟨by simpa using hl, ow, fun j w ej => ?_, fun j k wj wk oj ok q1 q2 q3 => ?_⟩, ⟨fun b o eb => ?_, fun a ba => ?_, wd.ftb, wd.dom, wd.inj, fun k o ek t => ?_, wd.untM (IoLe.refl _) (Same.refl _), wd.tabM (Same.refl _) (upd_tbl (wd.ntbl bp))⟩, IoLe.refl _, Same.refl _, fun a ba => ?_⟩⟩
  · rcases get_set ej with ⟨rfl, rfl⟩ | ⟨ne, ej⟩
    · exact ⟨.ref p, by rw [← e3]; exact e1, ru, fun q' => ⟨by rw [e3], nb⟩⟩
    · obtain ⟨v, ev, rv, qv⟩ := h1 j w ej
      refine ⟨v, ev, ?_, qv⟩
      have away : w.own = true → ∀ p', v = .ref p' → p' ≠ p := fun ow' p' e' z => by
        obtain ⟨e4, _⟩ := qv ow'
        rw [e'] at e4
        injection e4 with e4
        exact ne (h2 i j w0 w o0 ow' e ej (by rw [e3, ← e4, z]))
      cases w with
      | val d => exact rv
      | exn c x => exact rv
      | bor xs' =>
        obtain ⟨p', vs', rfl, b', hp', rl'⟩ := rv
        exact ⟨p', vs', rfl, b', (upd_ne (away rfl p' rfl)).trans hp', rl'⟩
      | bod ks us =>
        obtain ⟨p', vs', rfl, b', hp', rl'⟩ := rv
        exact ⟨p', vs', rfl, b', (upd_ne (away rfl p' rfl)).trans hp', rl'⟩
      | bdd ks us =>
        obtain ⟨p', vs', rfl, b', hp', rl'⟩ := rv
        exact ⟨p', vs', rfl, b', (upd_ne (away rfl p' rfl)).trans hp', rl'⟩
      | len ys =>
        obtain ⟨p', vs', o, rfl, b', hp', rl'⟩ := rv
        exact ⟨p', vs', o, rfl, b', (upd_ne (by rw [← e3]; exact own_unlocked o0 rw0 hp')).trans hp', rl'⟩
  · have old : ∀ {j : Nat} {w1 : M3.W}, w1.own = true → (u.set i (some w'))[j]? = some (some w1) → ∃ w2 : M3.W, w2.own = true ∧ u[j]? = some (some w2) := fun {j w1} o1 q => by
      rcases get_set q with ⟨rfl, _⟩ | ⟨_, q⟩
      · exact ⟨w0, o0, e⟩
      · exact ⟨w1, o1, q⟩
    obtain ⟨a1, oa1, q1⟩ := old oj q1
    obtain ⟨a2, oa2, q2⟩ := old ok q2
    exact h2 j k a1 a2 oa1 oa2 q1 q2 q3
  · show upd s.H p _ b = some o
    rw [upd_ne (fun z => by subst z; have eb : s.F b = some o := eb; rw [hF] at eb; cases eb)]
    exact wd.sub b o eb
  · obtain ⟨a1, o, a2, a3⟩ := wd.hid a ba
    by_cases q : a = p
    · subst q
      have hh : upd s.H a ho a = some ho := upd_same
      refine ⟨a1, _, upd_same, ?_⟩
      cases w' with
      | bor xs => obtain ⟨p', vs, e', _, h', _⟩ := ru; cases e'; have h' : upd s.H a ho a = _ := h'; rw [hh] at h'; cases h'; exact ⟨fun _ q => (by cases q), fun _ _ q => (by first | exact dkO_code q | exact cellO_code q | (unfold LamX.CodeO at q; cases q))⟩
      | bod ks us => obtain ⟨p', vs, e', _, h', _⟩ := ru; cases e'; have h' : upd s.H a ho a = _ := h'; rw [hh] at h'; cases h'; exact ⟨fun _ q => (by cases q), fun _ _ q => (by first | exact dkO_code q | exact cellO_code q | (unfold LamX.CodeO at q; cases q))⟩
      | bdd ks us => obtain ⟨p', vs, e', _, h', _⟩ := ru; cases e'; have h' : upd s.H a ho a = _ := h'; rw [hh] at h'; cases h'; exact ⟨fun _ q => (by cases q), fun _ _ q => (by first | exact dkO_code q | exact cellO_code q | (unfold LamX.CodeO at q; cases q))⟩
      | _ => cases o'
    · exact ⟨a1, o, (upd_ne q).trans a2, a3⟩
  · obtain ⟨a, a1, a2, a3, a4⟩ := wd.obj k o ek t
    have na : a ≠ p := fun z => a2 (z ▸ bp)
    exact ⟨a, a1, a2, a3, ObjR.mono (s := s) (s' := ⟨s.io, s.F, upd s.H p ho⟩) (IoLe.refl _) (Same.refl _) (upd_ne na) a4⟩
  · exact upd_ne fun z => nb (by rw [e3, ← z]; exact ba)
/-- the list at slot i is changed -/
theorem Slo.change {G : G3} {X : Hex} {B0 B : Addr → Prop} {s : S3} {u : Sl3} {z : L2.St} {i : Nat} {xs ys : List D} {st : Store} (h : Slo G X B0 B s u z) (wd : Wd G B st s) (e : u[i]? = some (some (.bor xs))) :
    ∃ p vs, z[i]? = some (some (.ref p)) ∧ B p ∧ ¬ B0 p ∧ s.H p = some (.lst vs) ∧ RepL G.R s.F s.io xs vs ∧ ∀ us, RepL G.R s.F s.io ys us →
      Slo G X B0 B ⟨s.io, s.F, upd s.H p (.lst us)⟩ (u.set i (some (.bor ys))) z ∧ Wd G B st ⟨s.io, s.F, upd s.H p (.lst us)⟩ ∧ Le B0 s ⟨s.io, s.F, upd s.H p (.lst us)⟩ := by
  obtain ⟨p, ez, bp, nb, ⟨p', vs, e', b', hp, rl⟩, ch⟩ := h.changeW wd e rfl
  cases e'
  exact ⟨p, vs, ez, bp, nb, hp, rl, fun us ru => ch (.bor ys) (.lst us) rfl ⟨p, us, rfl, bp, upd_same, ru⟩⟩
theorem ms_app (i : Nat) {x : Str} {px apos cpos : Pos} (he : ME P e m) (hN : P.X.N[i]? = some x := by rfl) (hv : Vis P.X.env.scope x := by first | exact Or.inl rfl | exact Or.inr (Or.inl rfl) | exact Or.inr (Or.inr rfl)) (hd : (x == ("__debug__" : Str)) = false := by decide)
    (hcd : (x == ("__classdict__" : Str)) = false := by decide) (hst : starEach [e] P.X.env = (false, eval e P.X.env) :: starEach [] P.X.env := by rfl)
    (hbase : attributeBase (.Name x px) "append" P.X.env (eval (.Name x px) P.X.env) = eval (.Name x px) P.X.env := by rfl)
    (hfew : ((backTo cpos (starEach [e] P.X.env)).all (fun x => !x.1) && (backToKw cpos (keywordEach [] P.X.env)).all (fun x => x.1.isSome) && decide (([e] : List Expr).length + ([] : List Keyword).length + (if ([] : List Keyword).isEmpty then 0 else 1) < 30)) = true := by rfl)
    (hline : (apos.endLine == cpos.line) = true := by rfl) (hplain : (backTo cpos (starEach [] P.X.env)).any (·.1) = false := by rfl)
    (hs : swapsWith (.Call (.Attribute (.Name x px) "append" apos) [e] [] cpos) none pos.line P.X.env = pure false := by rfl) :
    MS P (.Expr (.Call (.Attribute (.Name x px) "append" apos) [e] [] cpos) pos) (sApp i m) := by
  obtain ⟨t, pt, ht⟩ := he.out
  refine MS.mk' (ps_expr (pe_bm PySem.F.plainAttrs_list PySem.F.slot_list_append PySem.F.type_list_append mt_append (pe_var hN hv hd hcd) (pa_cons pt pa_nil hst) hbase hfew hline hst hplain) hs) fun B0 B s o u z D b0 wd sl h => ?_
  unfold sApp at h
  split at h
  · rename_i xs e1
    obtain ⟨p, vs, e2, bp, nb, hp, rl, _⟩ := sl.change (ys := []) wd e1
    refine ⟨.ref p, e2, .inl ⟨rfl, vs, .inl (.inl hp)⟩, ht B0 B s o u z _ wd sl ?_⟩
    cases em : m u o with
    | bad => rw [em] at h; exact h
    | err c x st' => rw [em] at h; exact fun s' cv dd l w q => h B s' z cv dd b0 (l.less b0) w (sl.mono' l) q
    | ok w st' =>
      rw [em] at h
      cases w with
      | bor xs => exact h.elim
      | bod ks us => exact h.elim
      | bdd ks us => exact h.elim
      | exn c x => exact h.elim
      | len xs => exact h.elim
      | val d =>
        dsimp only at h
        split at h
        · rename_i hz
          intro s' v l w r
          obtain ⟨p', vs', e2', bp', nb', hp', rl', ch⟩ := (sl.mono' l).change (ys := xs ++ [d]) w e1
          rw [e2] at e2'; cases e2'
          obtain ⟨sl2, w2, l2⟩ := ch (vs' ++ [v]) (rl'.append (.cons r .nil))
          exact ⟨p, vs', v, rfl, rfl, hp', by rw [← rl'.length]; exact szl hz, h B _ z b0 ((l.less b0).trans l2) w2 sl2⟩
        · exact h.elim
  · exact h.elim
end
end M3
namespace M3
open PySem PySem.Spec PyProof.Rows L2
/-! ### x in y -/
/-- keys -/
def D.key : D → Option Key
  | .int i => some (.inl i)
  | .str x => some (.inr x)
  | _ => none
def D.keys : List D → Option (List Key)
  | [] => some []
  | d :: ds => match d.key, D.keys ds with
    | some k, some ks => some (k :: ks)
    | _, _ => none
/-- the value at a key, in two lists -/
def atK {κ : Type} [DecidableEq κ] : List κ → List D → κ → Option D
  | k :: ks, d :: ds, x => if k = x then some d else atK ks ds x
  | _, _, _ => none
def setK3 {κ : Type} [DecidableEq κ] : List κ → List D → κ → D → List D
  | k :: ks, d :: ds, x, y => (if k = x then y else d) :: setK3 ks ds x y
  | _, ds, _, _ => ds
def putK3 {κ : Type} [DecidableEq κ] (ks : List κ) (ds : List D) (x : κ) (y : D) : List κ × List D := if x ∈ ks then (ks, setK3 ks ds x y) else (ks ++ [x], ds ++ [y])
/-- what a dict holds at a key: none: not asked -/
def dgetF (d k : D) : Option (Option D) := match d, k with
  | .dict ks us, k => k.key.map fun x => atK ks us x
  | _, _ => none
/-- a dict's data in the heap -/
inductive DAt (K : KW) (io : Io) (F H : Hp) (a : Addr) : D → Prop where
  | k {kvs : List (Key × V)} {us : List D} : Rd H a (.dK kvs) → RepL K F io us (kvs.map (·.2)) → DAt K io F H a (.dict (kvs.map (·.1)) us)
section
variable {K : KW} {F H : Hp} {io : Io}
theorem atK_ok {κ : Type} [DecidableEq κ] (x : κ) : ∀ {kvs : List (κ × V)} {us : List D}, RepL K F io us (kvs.map (·.2)) → (∀ d, atK (kvs.map (·.1)) us x = some d → ∃ v, valV kvs x = some v ∧ Rep K F io d v) ∧ (atK (kvs.map (·.1)) us x = none → valV kvs x = none)
  | [], _, rl => by
    cases rl
    exact ⟨fun d h => (by cases h), fun _ => rfl⟩
  | (k, v) :: kvs, [], rl => by cases rl
  | (k, v) :: kvs, d :: us, rl => by
    obtain ⟨r, t⟩ : Rep K F io d v ∧ RepL K F io us (kvs.map (·.2)) := by
      cases rl with
      | cons r t => exact ⟨r, t⟩
    have ih := atK_ok x t
    have e1 : valV ((k, v) :: kvs) x = if k = x then some v else valV kvs x := by
      unfold valV
      by_cases h : k = x
      · simp [h]
      · simp [h]
    show (∀ d', (if k = x then some d else atK (kvs.map (·.1)) us x) = some d' → _) ∧ _
    rw [e1]
    refine ⟨fun d' h => ?_, fun h => ?_⟩
    · by_cases q : k = x
      · rw [if_pos q] at h ⊢; cases h; exact ⟨v, rfl, r⟩
      · rw [if_neg q] at h ⊢; exact ih.1 d' h
    · have h : (if k = x then some d else atK (kvs.map (·.1)) us x) = none := h
      by_cases q : k = x
      · rw [if_pos q] at h; cases h
      · rw [if_neg q] at h ⊢; exact ih.2 h
theorem key_ok {d : D} {v : V} {k : Key} (r : Rep K F io d v) (e : d.key = some k) : v = kV k := by
  unfold D.key at e
  split at e
  · cases e; cases r; rfl
  · cases e; cases r; rfl
  · cases e
/-- a key that is read: where -/
theorem dget_ok {a : Addr} {d k : D} {y : V} {o : Option D} (at_ : DAt K io F H a d) (hs : Same F H) (r : Rep K F io k y) (e : dgetF d k = some o) :
    ∃ ov, DGet H a y ov ∧ ov.isSome = o.isSome ∧ ∀ d', o = some d' → ∃ v, ov = some v ∧ Rep K F io d' v := by
  have fin : ∀ {κ : Type} [DecidableEq κ] {kvs : List (κ × V)} {us : List D} {x : κ}, RepL K F io us (kvs.map (·.2)) → o = atK (kvs.map (·.1)) us x →
      (valV kvs x).isSome = o.isSome ∧ ∀ d', o = some d' → ∃ v, valV kvs x = some v ∧ Rep K F io d' v := fun {κ _ kvs us x} rl eo => by
    obtain ⟨h1, h2⟩ := atK_ok x rl
    cases q : atK (kvs.map (·.1)) us x with
    | none => rw [q] at eo; subst eo; rw [h2 q]; exact ⟨rfl, fun d' z => by cases z⟩
    | some d' =>
      rw [q] at eo
      subst eo
      obtain ⟨v, hv, rv⟩ := h1 d' q
      rw [hv]
      exact ⟨rfl, fun d2 z => by cases z; exact ⟨v, rfl, rv⟩⟩
  cases at_ with
  | @k kvs us ha rl =>
    have e : (k.key.map fun x => atK (kvs.map (·.1)) us x) = some o := e
    cases hk : k.key with
    | none => rw [hk] at e; cases e
    | some x =>
      rw [hk] at e
      cases e
      obtain rfl := key_ok r hk
      exact ⟨_, .inl ⟨kvs, x, ha, rfl, rfl⟩, fin rl rfl⟩
end
def W.dic : W → Option D
  | .val (.dict ks us) => some (.dict ks us)
  | .bod ks us => some (.dict ks us)
  | _ => none
theorem dic_ok {G : G3} {X : Hex} {B : Addr → Prop} {s : S3} {st : Store} {w : W} {v : V} {d : D} (wd : Wd G B st s) (r : RepW G X B s w v) (e : w.dic = some d) : ∃ a, v = .ref a ∧ DAt G.R s.io s.F s.H a d := by
  unfold W.dic at e
  split at e
  · cases e; cases r with | dict h q rl => subst q; exact ⟨_, rfl, .k (.inr ⟨_, wd.sub _ _ h⟩) rl⟩
  · cases e; obtain ⟨p, kvs, rfl, _, h, q, rl⟩ := r; subst q; exact ⟨_, rfl, .k (.inl h) rl⟩
  · cases e
/-! ### all, any, min, max -/
def D.bls : List D → Option (List Bool)
  | [] => some []
  | .bl b :: ds => (D.bls ds).map (b :: ·)
  | _ :: _ => none
def allF : List W → Option W
  | [w] => w.ls.bind fun xs => (D.bls xs).map fun bs => .val (.bl (bs.all id))
  | _ => none
def anyF : List W → Option W
  | [w] => w.ls.bind fun xs => (D.bls xs).map fun bs => .val (.bl (bs.any id))
  | _ => none
/-! ### - x -/
def eNeg (a : EM) : EM := fun u => M.bind (a u) fun w => match w with
  | .val (.int i) => M.pure (.val (.int (-i)))
  | _ => M.bad
/-! ### a chain as a test -/
end M3
namespace M3
open PySem PySem.Spec PyProof.Rows L2
/-! ### methods of texts -/
def W.str? : W → Option Str
  | .val (.str x) => some x
  | _ => none
def eM1 (g : Str → W → Option W) (a b : EM) : EM := fun u => M.bind (a u) fun x => M.bind (M.of x.str?) fun z => M.bind (b u) fun y => M.of (g z y)
/-- texts of a list -/
def D.strs : List D → Option (List Str)
  | [] => some []
  | .str x :: ds => (D.strs ds).map (x :: ·)
  | _ :: _ => none
def splitF (x : Str) : W → Option W
  | .val (.str y) => if y.length ≠ 0 ∧ x.length ≤ 900000 then some (.val (.lst ((Txt.split x y).map .str))) else none
  | _ => none
def joinF (x : Str) (w : W) : Option W := (w.rd.bind D.items).bind fun xs => (D.strs xs).bind fun ys => if (ys.map (·.length)).sum + ys.length * x.length ≤ 1000000 then some (.val (.str (Txt.join x ys))) else none
/-! ### count of a tuple -/
end M3
namespace M3
open PySem PySem.Spec PyProof.Rows L2
theorem units65 {k : Nat} {A : Around} (r : Room k A) : A.units + 65 < cLine := by have := r.un; omega
def clsB : Stmt → List Stmt
  | .ClassDef (body := inside) .. => inside
  | _ => []
/-! ### x = [..], x a list of one's own -/
section
variable {P : P3} {pos : Pos}
/-! ### a list of one's own is let go -/
def sFrz (i : Nat) : SM := fun u st => match u[i]? with
  | some (some (.bor xs)) => .nx (u.set i (some (.val (.lst xs)))) st
  | _ => .bad
theorem Slo.frz {G : G3} {X : Hex} {B0 B : Addr → Prop} {s : S3} {u : Sl3} {z : L2.St} {i : Nat} {xs : List D} {st : Store} (h : Slo G X B0 B s u z) (b0 : ∀ a, B0 a → B a) (wd : Wd G B st s) (e : u[i]? = some (some (.bor xs))) :
    ∃ (B' : Addr → Prop) (s' : S3), s'.H = s.H ∧ (∀ a, B0 a → B' a) ∧ Le B0 s s' ∧ Wd G B' st s' ∧ Slo G X B0 B' s' (u.set i (some (.val (.lst xs)))) z := by
  obtain ⟨hl, ow, h1, h2⟩ := h
  obtain ⟨v, e1, ⟨p, vs, rfl, bp, hp, rl⟩, q⟩ := h1 i _ e
  obtain ⟨e3, nb⟩ := q rfl
  injection e3 with e3
  subst e3
  have wd' : Wd G (plus (fun a => B a ∧ a ≠ ow i) (ow i)) st s := wd.less fun a z => z.elim (fun z => z.1) fun z => z ▸ bp
  have nB : ¬ (fun a => B a ∧ a ≠ ow i) (ow i) := fun z => z.2 rfl
  have le : Le B0 s ⟨s.io, upd s.F (ow i) (.lst vs), s.H⟩ := ⟨IoLe.refl _, same_upd (wd.hid (ow i) bp).1, fun _ _ => rfl⟩
  refine ⟨fun a => B a ∧ a ≠ ow i, ⟨s.io, upd s.F (ow i) (.lst vs), s.H⟩, rfl, fun a q => ⟨b0 a q, fun z => nb (z ▸ q)⟩, le, freeze_wd wd' nB hp, by simpa using hl, ow, fun j w ej => ?_, fun j k w w' o1 o2 q1 q2 q3 => ?_⟩
  · rcases get_set ej with ⟨rfl, rfl⟩ | ⟨ne, ej⟩
    · exact ⟨.ref (ow i), e1, Rep.lst upd_same (rl.mono le.fr le.io), fun q' => by cases q'⟩
    · obtain ⟨v, ev, rv, qv⟩ := h1 j w ej
      refine ⟨v, ev, ?_, qv⟩
      have away : w.own = true → ∀ p', v = .ref p' → p' ≠ ow i := fun ow' p' e' z => by
        obtain ⟨e4, _⟩ := qv ow'
        rw [e'] at e4
        injection e4 with e4
        exact ne (h2 i j (.bor xs) w rfl ow' e ej (by rw [← e4, z]))
      cases w with
      | val d => exact Rep.mono le.fr le.io rv
      | exn c x =>
        obtain ⟨ax, dd, x1, x2, xf⟩ := rv
        exact ⟨ax, dd, x1, x2, xf.mono le.io le.fr⟩
      | bor xs' =>
        obtain ⟨p', vs', rfl, b', hp', rl'⟩ := rv
        exact ⟨p', vs', rfl, ⟨b', away rfl p' rfl⟩, hp', rl'.mono le.fr le.io⟩
      | bod ks us =>
        obtain ⟨p', vs', rfl, b', hp', e', rl'⟩ := rv
        exact ⟨p', vs', rfl, ⟨b', away rfl p' rfl⟩, hp', e', rl'.mono le.fr le.io⟩
      | bdd ks us =>
        obtain ⟨p', vs', rfl, b', hp', rl'⟩ := rv
        exact ⟨p', vs', rfl, ⟨b', away rfl p' rfl⟩, hp', rl'.mono le.fr le.io⟩
      | len ys =>
        obtain ⟨p', vs', o, rfl, b', hp', rl'⟩ := rv
        exact ⟨p', vs', o, rfl, ⟨b', fun z => by subst z; rw [hp] at hp'; cases hp'⟩, hp', rl'.mono le.fr le.io⟩
  · rcases get_set q1 with ⟨_, z⟩ | ⟨_, q1⟩
    · subst z; cases o1
    · rcases get_set q2 with ⟨_, z⟩ | ⟨_, q2⟩
      · subst z; cases o2
      · exact h2 j k w w' o1 o2 q1 q2 q3
/-! ### (x, y) = e -/
def sAsg (m : EM) (g : GM) : SM := fun u st => match m u st with
  | .ok (.val d) st' => match g d u with
    | some u' => .nx u' st'
    | none => .bad
  | .ok _ _ => .bad
  | .err c x st' => .err c x u st'
  | .bad => .bad
/-! ### x[i] = e, x.pop(), x a list of one's own -/
/-- x.pop() -/
def sPop (i : Nat) : SM := fun u st => match u[i]? with
  | some (some (.bor xs)) => if xs.isEmpty = true then .bad else .nx (u.set i (some (.bor xs.dropLast))) st
  | _ => .bad
/-! ### t.count(x), t a tuple -/
def W.tup? : W → Option (List D)
  | .val (.tup xs) => some xs
  | _ => none
def cntF (xs : List D) (w : W) : Option W := w.rd.bind fun d => match D.pys xs, d.py with
  | some ps, some p => if SeqAt.shaped p = true ∧ SeqAt.shaped (.tuple ps) = true then some (.val (.int ((ps.countP fun z => PyData.eqv z p : Nat) : Int))) else none
  | _, _ => none
def eCnt (a b : EM) : EM := fun u => M.bind (a u) fun x => M.bind (M.of x.tup?) fun xs => M.bind (b u) fun y => M.of (cntF xs y)
end
/-! ### C.m(..), m a staticmethod of the own class C -/
/-- how the model takes o.m(..) apart -/
abbrev MethParts (X : Cx) (o : Expr) (m : Str) (at1 at2 : Pos) (es : List Expr) (pl : Sem Bool) : Prop := eval (.Call (.Attribute o m at1) es [] at2) X.env =
  (do let ov ← eval o X.env; standAt at1.atName; let (f, first) ← holding [ov] (getMethod ov m pl); callWith at2 f first (backTo at2 (starEach es X.env)) (backToKw at2 (keywordEach [] X.env)))
end M3
namespace M3
open PySem PySem.Spec PyProof.Rows L2
/-! ### a thing of one's own is let go, changed -/
theorem pe_lockOn {X : Cx} {e : Expr} {t : TE} (h : PE X e t) : PE X e (fun σ H Q => t σ H fun v H' => ∃ d u, v = .ref d ∧ H' d = some u ∧ Mut (some u) ∧ ∀ od, Q v (upd H' d (.frz od u))) :=
  ⟨fun pins s σ H Q I q => thn (h.run pins s σ H _ I q) fun v s1 ⟨x, H1, I1, r1, d, u, ex, hd, mu, hw⟩ =>
    let ⟨od, I2⟩ := I1.lock hd mu
    ⟨x, _, I2, r1, hw od⟩⟩
section
variable {P : P3} {pos : Pos}
/-- x = {}, x a dict of one's own -/
def sOwnD (i : Nat) : SM := fun u st => .nx (u.set i (some (.bod [] []))) st
/-! ### x[k] = e, x a dict of one's own -/
end
/-! ### d[k] -/
section
variable {P : P3} {pos : Pos} {a b : Expr} {ma mb : EM}
def dgF (x y : W) : Option W := x.dic.bind fun d => match y with
  | .val k => (dgetF d k).bind fun o => o.map .val
  | _ => none
end
end M3
namespace M3
open PySem PySem.Spec PyProof.Rows L2
/-! ### the store and the heap -/
section
variable {G : G3} {X : Hex} {B : Addr → Prop} {s : S3} {st : Store}
/-- an object of the store is changed -/
theorem Wd.setO {k : Nat} {a : Addr} {o' : MO} {ho : HO} (w : Wd G B st s) (e : s.io k = some a) (nb : ¬ B a) (hF : s.F a = none) (r : ObjR G ⟨s.io, s.F, upd s.H a ho⟩ a o') {o : MO} (ek : st[k]? = some o) (t : o.tr = true := by rfl) :
    Wd G B (st.set k o') ⟨s.io, s.F, upd s.H a ho⟩ ∧ Le B s ⟨s.io, s.F, upd s.H a ho⟩ := by
  have away : ∀ b, B b → b ≠ a := fun b bb y => nb (y ▸ bb)
  refine ⟨⟨fun b v eb => ?_, fun b bb => ?_, w.ftb, fun j b eb => by rw [List.length_set]; exact w.dom j b eb, fun i j b oi oj e1 e2 q1 t1 q2 t2 => ?_, fun j o ej tj => ?_, fun j o ej tj => ?_, w.tabM (Same.refl _) (upd_tbl fun ps z => by obtain ⟨a', e', _, _, x'⟩ := w.obj k o ek t; rw [e] at e'; cases e'; exact x'.ntbl ps z)⟩, IoLe.refl _, Same.refl _, fun b bb => upd_ne (away b bb)⟩
  · show upd s.H a ho b = some v
    rw [upd_ne (fun q => by subst q; have eb : s.F b = some v := eb; rw [hF] at eb; cases eb)]
    exact w.sub b v eb
  · obtain ⟨h1, v, h2, h3⟩ := w.hid b bb
    exact ⟨h1, v, (upd_ne (away b bb)).trans h2, h3⟩
  · have old : ∀ {i b oi}, s.io i = some b → (st.set k o')[i]? = some oi → oi.tr = true → ∃ o, st[i]? = some o ∧ o.tr = true := fun {i b oi} _ q t1 => by
      by_cases z : k = i
      · subst z; exact ⟨o, ek, t⟩
      · rw [List.getElem?_set_ne z] at q; exact ⟨oi, q, t1⟩
    obtain ⟨oi', q1', t1'⟩ := old e1 q1 t1
    obtain ⟨oj', q2', t2'⟩ := old e2 q2 t2
    exact w.inj i j b oi' oj' e1 e2 q1' t1' q2' t2'
  · by_cases q : k = j
    · subst q
      rw [List.getElem?_set_self (w.dom k a e)] at ej
      cases ej
      exact ⟨a, e, nb, hF, r⟩
    · rw [List.getElem?_set_ne q] at ej
      obtain ⟨b, e1, b1, f1, o1⟩ := w.obj j o ej tj
      have na : b ≠ a := fun y => q (w.inj k j a _ _ e (y ▸ e1) ek t ej tj)
      exact ⟨b, e1, b1, f1, ObjR.mono (s := s) (s' := ⟨s.io, s.F, upd s.H a ho⟩) (IoLe.refl _) (Same.refl _) (upd_ne na) o1⟩
  · by_cases q : k = j
    · subst q
      rw [List.getElem?_set_self (w.dom k a e)] at ej
      cases ej
      rw [r.tr] at tj; cases tj
    · rw [List.getElem?_set_ne q] at ej
      exact w.untM (s' := ⟨s.io, s.F, upd s.H a ho⟩) (IoLe.refl _) (Same.refl _) j o ej tj
def ioNew (io : Io) (n : Nat) (p : Addr) : Io := fun j => if j = n then some p else io j
/-- a new object of the store -/
theorem Wd.newO {p : Addr} {o : MO} {H' : Hp} (w : Wd G B st s) (hp : s.H p = none) (hs : Same s.H H') (r : ObjR G ⟨ioNew s.io st.length p, s.F, H'⟩ p o) :
    Wd G B (st ++ [o]) ⟨ioNew s.io st.length p, s.F, H'⟩ ∧ Le B s ⟨ioNew s.io st.length p, s.F, H'⟩ ∧ ioNew s.io st.length p st.length = some p := by
  have hio : IoLe s.io (ioNew s.io st.length p) := fun k a e => by
    have := w.dom k a e
    unfold ioNew
    rw [if_neg (by omega)]
    exact e
  have old : ∀ a, (∃ v, s.H a = some v) → H' a = s.H a := fun a ⟨v, e⟩ => by rw [hs a v e, e]
  refine ⟨⟨fun b v eb => hs b v (w.sub b v eb), fun b bb => ?_, w.ftb, fun k a e => ?_, fun j k a oj ok e1 e2 q1 t1 q2 t2 => ?_, fun k v e t => ?_, fun k v e t => ?_, w.tabM (Same.refl _) fun P ps e => hs P _ e⟩, ⟨hio, Same.refl _, fun b bb => old b (let ⟨_, v, e, _⟩ := w.hid b bb; ⟨v, e⟩)⟩, if_pos rfl⟩
  · obtain ⟨h1, v, h2, h3⟩ := w.hid b bb
    exact ⟨h1, v, hs b v h2, h3⟩
  · rw [List.length_append]
    have e : (if k = st.length then some p else s.io k) = some a := e
    by_cases q : k = st.length
    · rw [q]; simp
    · rw [if_neg q] at e
      have := w.dom k a e
      simp; omega
  · have e1 : (if j = st.length then some p else s.io j) = some a := e1
    have e2 : (if k = st.length then some p else s.io k) = some a := e2
    by_cases z1 : j = st.length
    · by_cases z2 : k = st.length
      · rw [z1, z2]
      · rw [if_pos z1] at e1; rw [if_neg z2] at e2
        cases e1
        rw [List.getElem?_append_left (w.dom k _ e2)] at q2
        exact absurd e2 (w.freshI hp q2 t2)
    · by_cases z2 : k = st.length
      · rw [if_neg z1] at e1; rw [if_pos z2] at e2
        cases e2
        rw [List.getElem?_append_left (w.dom j _ e1)] at q1
        exact absurd e1 (w.freshI hp q1 t1)
      · rw [if_neg z1] at e1; rw [if_neg z2] at e2
        rw [List.getElem?_append_left (w.dom j _ e1)] at q1
        rw [List.getElem?_append_left (w.dom k _ e2)] at q2
        exact w.inj j k a _ _ e1 e2 q1 t1 q2 t2
  · by_cases q : k < st.length
    · rw [List.getElem?_append_left q] at e
      obtain ⟨a, e1, b1, f1, o1⟩ := w.obj k v e t
      have hh : ∃ y, s.H a = some y := o1.there
      exact ⟨a, hio k a e1, b1, f1, ObjR.mono (s := s) (s' := ⟨ioNew s.io st.length p, s.F, H'⟩) hio (Same.refl _) (old a hh) o1⟩
    · rw [List.getElem?_append_right (by omega)] at e
      have q2 : k - st.length = 0 := by
        cases z : k - st.length with
        | zero => rfl
        | succ n => rw [z] at e; simp at e
      rw [q2] at e
      simp at e
      subst e
      have : k = st.length := by omega
      subst this
      exact ⟨p, if_pos rfl, w.freshB hp, w.freshF hp, r⟩
  · by_cases q : k < st.length
    · rw [List.getElem?_append_left q] at e
      exact w.untM (s' := ⟨ioNew s.io st.length p, s.F, H'⟩) hio (Same.refl _) k v e t
    · have hk := (List.getElem?_eq_some_iff.mp e).1
      rw [List.length_append] at hk
      simp at hk
      rw [List.getElem?_append_right (by omega), show k - st.length = 0 by omega] at e
      simp at e
      subst e
      rw [r.tr] at t; cases t
end
/-! ### instances -/
def insOf (w : W) : M (Nat × String × List (Str × D)) := fun st => match w with
  | .val (.ref k) => match st[k]? with
    | some (.ins c fs) => .ok (k, c, fs) st
    | _ => .bad
  | _ => .bad
theorem ins_of {w : W} {st st' : Store} {q : Nat × String × List (Str × D)} (e : insOf w st = .ok q st') : st' = st ∧ w = .val (.ref q.1) ∧ st[q.1]? = some (.ins q.2.1 q.2.2) := by
  unfold insOf at e
  split at e
  · split at e
    · rename_i h; cases e; exact ⟨rfl, rfl, h⟩
    · cases e
  · cases e
section
variable {α β : Type} {G : G3} {X : Hex} {B : Addr → Prop} {s : S3} {st : Store} {R : S3 → α → β → Prop} {E : XK} {Q : β → Hp → Prop}
theorem Post.of_ins {w : M3.W} {v : V} {f : Nat × String × List (Str × D) → M α} (wd : Wd G B st s) (r : RepW G X B s w v) (h : Post G B R E s Q (M.bind (insOf w) f st)) :
    ∃ k c fs a C dx gs, w = .val (.ref k) ∧ v = .ref a ∧ s.io k = some a ∧ st[k]? = some (.ins c fs) ∧ G.cls c = some C ∧ s.H a = some (.ins C dx gs) ∧ FsR G.R s.F s.io fs gs ∧ ¬ B a ∧ s.F a = none ∧ Post G B R E s Q (f (k, c, fs) st) := by
  unfold M.bind at h
  cases e : insOf w st with
  | bad => rw [e] at h; exact h.elim
  | err c x st' =>
    exfalso
    unfold insOf at e
    split at e
    · split at e <;> cases e
    · cases e
  | ok q st' =>
    rw [e] at h
    obtain ⟨rfl, rfl, ek⟩ := ins_of e
    have r : Rep G.R s.F s.io (.ref q.1) v := r
    cases r with
    | ref eio =>
      obtain ⟨a, e1, b1, f1, C, dx, gs, ec, eh, rf⟩ := wd.obj _ _ ek rfl
      rw [eio] at e1
      cases e1
      exact ⟨q.1, q.2.1, q.2.2, _, C, dx, gs, rfl, rfl, eio, ek, ec, eh, rf, b1, f1, h⟩
end
/-- what is known of an attribute f of the own class c -/
structure FldOk (K : PySem.W.Frag) (G : G3) (c : String) (f : Str) : Prop where
  ex : ∃ C, G.cls c = some C ∧ Cls K C ∧ NoAttr K C f
def eFld (cs : List String) (f : Str) (m : EM) : EM := fun u => M.bind (m u) fun w => M.bind (insOf w) fun q => M.bind (M.chk (q.2.1 ∈ cs)) fun _ => M.bind (M.of (q.2.2.lookup f)) fun d => M.pure (.val d)
section
variable {P : P3} {pos pos' : Pos} {e o : Expr} {m mo : EM} {f : Str} {cs : List String}
theorem me_fld (ok : ∀ c ∈ cs, FldOk P.X.K P.G c f) (he : ME P e m) (hb : attributeBase e f P.X.env (eval e P.X.env) = eval e P.X.env := by rfl) : ME P (.Attribute e f pos) (eFld cs f m) := by
  obtain ⟨t, pt, ht⟩ := he.out
  refine ME.mk' (pe_fld pt hb) fun B0 B s st u z Q wd sl h => ht B0 B s st u z _ wd sl (Post.bind h fun w st1 s1 v l1 wd1 r1 h1 => ?_)
  obtain ⟨k, c, fs, a, C, dx, gs, rfl, rfl, eio, ek, ec, eh, rf, nb, hF, h1⟩ := Post.of_ins wd1 r1 h1
  obtain ⟨hm, h1⟩ := Post.of_chk h1
  obtain ⟨d, ed, h1⟩ := Post.of_of h1
  obtain ⟨C', ec', hc, hn⟩ := (ok c hm).ex
  rw [ec] at ec'
  cases ec'
  obtain ⟨v, ev, rv⟩ := (rf.look (f := f)).1 d ed
  exact ⟨a, C, dx, gs, v, rfl, eh, hc, hn, ev, h1.pure wd1 rv⟩
/-- the attributes with f = d -/
def put3 (f : Str) (d : D) : List (Str × D) → List (Str × D)
  | [] => [(f, d)]
  | (g, e) :: r => if g = f then (g, d) :: r else (g, e) :: put3 f d r
theorem put3_ok {K : KW} {F : Hp} {io : Io} {d : D} {v : V} (r : Rep K F io d v) : ∀ {fs : List (Str × D)} {gs : List (Str × V)}, FsR K F io fs gs → FsR K F io (put3 f d fs) (putF f v gs)
  | _, _, .nil => .cons r .nil
  | _, _, .cons (f := g) q t => by
    unfold put3 putF
    by_cases h : g = f
    · rw [if_pos h, if_pos h]; exact .cons r t
    · rw [if_neg h, if_neg h]; exact .cons q (put3_ok r t)
def sFldS (cs : List String) (f : Str) (mo me : EM) : SM := fun u st => match M.bind (me u) (fun w => M.bind (M.of w.d) fun d => M.bind (mo u) fun x => M.bind (insOf x) fun q => M.bind (M.chk (q.2.1 ∈ cs ∧ q.2.2.length < 500)) fun _ => fun st => .ok () (st.set q.1 (.ins q.2.1 (put3 f d q.2.2)))) st with
  | .ok _ st' => .nx u st'
  | .err c x st' => .err c x u st'
  | .bad => .bad
theorem ms_fld (ok : ∀ c ∈ cs, FldOk P.X.K P.G c f) (ho : ME P o mo) (he : ME P e m) (hs : swapsWith e (some (.Attribute o f pos')) pos.line P.X.env = pure false := by rfl) : MS P (.Assign [.Attribute o f pos'] e pos) (sFldS cs f mo m) := by
  obtain ⟨t, pt, ht⟩ := he.out
  obtain ⟨to, po, hto⟩ := ho.out
  refine MS.mk' (ps_fld po pt hs) fun B0 B s st u z D b0 wd sl h => ht B0 B s st u z _ wd sl ?_
  unfold sFldS at h
  generalize hm : M.bind (m u) (fun w => M.bind (M.of w.d) fun d => M.bind (mo u) fun x => M.bind (insOf x) fun q => M.bind (M.chk (q.2.1 ∈ cs ∧ q.2.2.length < 500)) fun _ => fun st => Res.ok () (st.set q.1 (.ins q.2.1 (put3 f d q.2.2)))) = mm at h
  have hp : Post P.G B (fun _ (_ : Unit) (_ : Unit) => True) (fun c d H => P.wx c d z H) s (fun (_ : Unit) H' => D.nx z H') (mm st) := by
    cases e : mm st with
    | ok _ st' => rw [e] at h; exact fun s' _ l w _ => h B s' z b0 (l.less b0) w (sl.mono' l)
    | err c x st' => rw [e] at h; exact fun s' cv dd l w q => h B s' z cv dd b0 (l.less b0) w (sl.mono' l) q
    | bad => rw [e] at h; exact h
  rw [← hm] at hp
  refine Post.bind hp fun w st1 s1 v l1 wd1 r1 h1 => ?_
  obtain ⟨d, ed, h1⟩ := Post.of_of h1
  obtain rfl : w = .val d := by cases w <;> cases ed; rfl
  refine hto B0 B s1 st1 u z _ wd1 (sl.mono' l1) (Post.bind h1 fun w2 st2 s2 v2 l2 wd2 r2 h2 => ?_)
  obtain ⟨k, c, fs, a, C, dx, gs, rfl, rfl, eio, ek, ec, eh, rf, nb, hF, h2⟩ := Post.of_ins wd2 r2 h2
  obtain ⟨⟨hmem, hz⟩, h2⟩ := Post.of_chk h2
  obtain ⟨C', ec', hc, hn⟩ := (ok c hmem).ex
  rw [ec] at ec'
  cases ec'
  have rd : Rep P.G.R s2.F s2.io d v := Rep.mono l2.fr l2.io r1
  obtain ⟨w3, l3⟩ := wd2.setO (o' := .ins c (put3 f d fs)) (ho := .ins C dx (putF f v gs)) eio nb hF ⟨C, dx, _, ec, upd_same, put3_ok rd rf⟩ ek
  exact ⟨a, C, dx, gs, rfl, eh, hc, hn, by rw [← rf.length]; exact Nat.lt_trans hz (by decide), h2 _ () l3 w3 trivial⟩
/-! ### objects that are made -/
/-- a new list, to be a list of the store -/
def eNewL (mf : FM) : EM := fun u st => match mf u st with
  | .ok xs st' => .ok (.val (.ref st'.length)) (st' ++ [.lst xs])
  | .err c x st' => .err c x st'
  | .bad => .bad
def mMake (c : String) (mf : List D → M D) (ds : List D) : M W := fun st => match mf (.ref st.length :: ds) (st ++ [.ins c []]) with
  | .ok .non st' => .ok (.val (.ref st.length)) st'
  | .ok _ _ => .bad
  | .err c x st' => .err c x st'
  | .bad => .bad
theorem make_post {G : G3} {X : Hex} {B : Addr → Prop} {s : S3} {st : Store} {E : XK} {Q : VK} {c : String} {C : Addr} {mf : List D → M D} {ds : List D} {vs : List V} {n : Nat} (hc : G.cls c = some C) (wd : Wd G B st s) (rl : RepL G.R s.F s.io ds vs) (hl : ds.length = n)
    (h : Post G B (RepW G X B) E s Q (mMake c mf ds st)) {x dx : Addr} (hx : s.H x = none) (hd : s.H dx = none) (ne : dx ≠ x) :
    spM G (n + 1) mf (.ref x :: vs) (upd (upd s.H dx (.own x)) x (.ins C dx [])) (fun v H2 => v = .non ∧ Q (.ref x) H2) E := by
  have hs : Same s.H (upd (upd s.H dx (.own x)) x (.ins C dx [])) := fun a o e => by
    rw [upd_ne (ne_of_none e hx), upd_ne (ne_of_none e hd)]; exact e
  obtain ⟨w2, l2, e2⟩ := wd.newO (o := .ins c []) hx hs ⟨C, dx, [], hc, upd_same, .nil⟩
  refine ⟨by rw [List.length_cons, ← rl.length, hl], B, _, _, .ref st.length :: ds, rfl, w2, .cons (.ref e2) (rl.mono l2.fr l2.io), ?_⟩
  unfold mMake at h
  cases em : mf (.ref st.length :: ds) (st ++ [.ins c []]) with
  | bad => rw [em] at h; exact h
  | err c x st' => rw [em] at h; exact fun s' cv dd l w q => h s' cv dd (l2.trans l) w q
  | ok d st' =>
    rw [em] at h
    cases d with
    | non =>
      intro s' v l w r
      cases r
      exact ⟨rfl, h s' (.ref x) (l2.trans l) w (.ref (l.io _ _ e2))⟩
    | _ => exact h.elim
end
end M3
namespace M3
open PySem PySem.Spec PyProof.Rows L2
/-! ### C(..), o.m(..): what leaves the callee reaches the wish at the caller's slots -/
section
variable {X : Cx} {CX : CXT} {k : Nat} {f C : Addr} {fd : FuncData} {ps : List Str} {sp : Sp} {x m : Str} {p pos apos : Pos} {e o : Expr} {es : List Expr} {ta : TE} {t tk : TA}
/-- the new instance, then __init__, however its parameters are bound -/
theorem made_runs {E : XK} {pins : List (Addr × Obj)} {σ : L2.St} {H : Hp} {s : Shared} {Q : VK} {us all : List Value} {kw : List (Str × Value)} {vs : List V} (M : Mk X.K C f) (F : FnOk X.prog X.w X.K X.mg X.base CX k f fd ps sp) (hr : Room (k + 1) X.A)
    (hx : PassesAt CX X σ E) (I : Inv X pins σ H s) (r : Vals vs all) (hb : ∀ (s' : Shared) (u : Value), X.K.In s'.heap → (u :: all).length = ps.length → BindsTo s' fd ⟨u :: us, kw⟩ (ps.zip (u :: all)))
    (h : ∀ x dx, H x = none → H dx = none → dx ≠ x → sp (.ref x :: vs) (upd (upd H dx (.own x)) x (.ins C dx [])) (fun v H2 => v = .non ∧ Q (.ref x) H2) E) :
    wpAny (model X.prog X.w) X.A (call (.ref C) us kw) (EP X pins σ Q) X.xe s := by
  generalize hn : s.heap.objs.size = n
  have free : H n = none := I.hok.fresh (Nat.le_of_eq hn)
  have free1 : H (n + 1) = none := I.hok.fresh (by rw [hn]; exact Nat.le_succ n)
  have want := h (n + 1) n free1 free (Nat.ne_of_lt (Nat.lt_succ_self n))
  have J := Inv.made (C := C) I
  rw [hn] at J
  have vals : Vals (V.ref (n + 1) :: vs) (Value.ref (n + 1) :: all) := .cons rfl r
  have len : (Value.ref (n + 1) :: all).length = ps.length := vals.length.symm.trans (F.len _ _ _ _ want)
  refine wpAny_call (make_map (f := f) I.kIn M.makes M.init (beq_iff_eq.mp M.fn) ?_)
  rw [hn]
  refine codeAny_mono (F.run _ X.stack _ _ ⟨Value.ref (n + 1) :: us, kw⟩ _ _ _ E (hr.make C us kw) (J.env0.make C us kw) (hb _ _ J.kIn len) vals want) fun res s' got => ?_
  match res, got with
  | .error er, got => exact hx pins _ _ er s' J got
  | .ok (.ret u), got =>
    obtain ⟨v, H', J', rv, ev, q⟩ := J.after got
    subst ev
    exact ⟨rv, V.ref (n + 1), H', J', rfl, q⟩
  | .ok .next, got => exact got.elim
  | .ok .brk, got => exact got.elim
  | .ok .cont, got => exact got.elim
/-- its wish: where the class stands, the values behind the written ones -/
def tMk3 (C : Addr) (sp : Sp) (dvs : List V) (E : L2.St → XK) (t : TA) : TE := fun σ H Q => t σ H fun vs H1 => ∀ x dx, H1 x = none → H1 dx = none → dx ≠ x →
  sp (.ref x :: (vs ++ dvs)) (upd (upd H1 dx (.own x)) x (.ins C dx [])) (fun v H2 => v = .non ∧ Q (.ref x) H2) (E σ)
variable {dvs : List V} {ds : List Value} {E : L2.St → XK}
theorem pe_mk3 (M : Mk X.K C f) (F : FnOk X.prog X.w X.K X.mg X.base CX k f fd ps sp) (hr : Room (k + 1) X.A) (hg : Gl X x) (hm : X.mg x = some (.ref C)) (hb : Binds X.K fd ps ds) (hd : Vals dvs ds) (hx : ∀ σ, PassesAt CX X σ (E σ)) (ha : PA X (e :: es) t)
    (hdb : (x == ("__debug__" : Str)) = false := by decide) (he : starEach (e :: es) X.env = (false, eval e X.env) :: starEach es X.env := by rfl) (hpl : (backTo pos (starEach es X.env)).any (·.1) = false := by rfl) : PE X (.Call (.Name x p) (e :: es) [] pos) (tMk3 C sp dvs E t) := by
  refine ⟨fun pins s σ H Q I h => wpAny_Call_Name_kw (ld_glob I hg hm ?_ hdb)⟩
  refine PySem.W.callWith_K (h₀ := X.base) I.ok.mod.kin M.kp ?_ he hpl
  refine thn (ha.run pos pins s σ H _ I h) fun us s1 ⟨vs, H1, J, r, q⟩ => ⟨J.kIn, ?_⟩
  exact made_runs (all := us ++ ds) M F hr (hx σ) J (r.append hd) (fun s' u KI hl => hb s' (u :: us) KI hl) q
theorem pe_mk30 (M : Mk X.K C f) (F : FnOk X.prog X.w X.K X.mg X.base CX k f fd ps sp) (hr : Room (k + 1) X.A) (hg : Gl X x) (hm : X.mg x = some (.ref C)) (hb : Binds X.K fd ps ds) (hd : Vals dvs ds) (hx : ∀ σ, PassesAt CX X σ (E σ))
    (hdb : (x == ("__debug__" : Str)) = false := by decide) : PE X (.Call (.Name x p) [] [] pos) (tMk3 C sp dvs E tNil) := by
  refine ⟨fun pins s σ H Q I h => wpAny_Call_Name_kw (ld_glob I hg hm ?_ hdb)⟩
  exact PySem.W.callWith_K0 I.kIn M.kp (made_runs (us := []) (all := ds) M F hr (hx σ) I hd (fun s' u KI hl => hb s' [u] KI hl) h)
end
/-! ### the same by mirrors -/
/-- C(..): n values are written, dd are the defaults behind them -/
structure MkOk3 (Pg : Program) (w : World) (K : PySem.W.Frag) (mg : Str → Option Value) (base : Heap) (G : G3) (k : Nat) (x : Str) (c : String) (n : Nat) (dd : List D) (mf : List D → M D) : Prop where
  ex : ∃ C f fd ps dvs dsv, mg x = some (.ref C) ∧ G.cls c = some C ∧ Mk K C f ∧ Binds K fd ps dsv ∧ Vals dvs dsv ∧ (∀ F io, RepL G.R F io dd dvs) ∧ FnOk Pg w K mg base (L2.CX Pg w) k f fd ps (spM G (n + dd.length + 1) mf)
def eMk3 (c : String) (n : Nat) (dd : List D) (mf : List D → M D) (ma : AM) : EM := fun u => M.bind (ma u) fun ws => M.bind (M.of (asDs ws)) fun ds => M.bind (M.chk (ds.length = n)) fun _ => mMake c mf (ds ++ dd)
section
variable {P : P3} {pos p apos : Pos} {x m : Str} {c : String} {e o : Expr} {es : List Expr} {ma : AM} {mo : EM} {mf : List D → M D} {dd : List D} {k j n : Nat}
theorem me_mk3 (h : MkOk3 P.X.prog P.X.w P.X.K P.X.mg P.X.base P.G k x c n dd mf) (hr : Room j P.X.A) (hk : k + 1 ≤ j) (tk : Takes P.X P.wx) (hg : Gl P.X x) (ha : MA P (e :: es) ma)
    (hdb : (x == ("__debug__" : Str)) = false := by decide) (he : starEach (e :: es) P.X.env = (false, eval e P.X.env) :: starEach es P.X.env := by rfl) (hpl : (backTo pos (starEach es P.X.env)).any (·.1) = false := by rfl) :
    ME P (.Call (.Name x p) (e :: es) [] pos) (eMk3 c n dd mf ma) := by
  obtain ⟨C, f, fd, ps, dvs, dsv, hm, hc, M, hb, hd, rd, F⟩ := h.ex
  obtain ⟨t, pt, ht⟩ := ha.out
  refine ME.mk' (pe_mk3 M F (hr.mono hk) hg hm hb hd (fun σ => passAt tk σ) pt hdb he hpl) fun B0 B s st u z Q wd sl h => ht B0 B s st u z _ wd sl (Post.bind h fun ws st1 s1 vs l1 wd1 r1 h1 => ?_)
  obtain ⟨ds, e, h1⟩ := Post.of_of h1
  obtain ⟨hl, h1⟩ := Post.of_chk h1
  have rl := (asDs_ok r1 e).append (rd s1.F s1.io)
  exact fun x dx hx hdx ne => make_post (n := n + dd.length) hc wd1 rl (by rw [List.length_append, hl]) h1 hx hdx ne
theorem me_mk30 (h : MkOk3 P.X.prog P.X.w P.X.K P.X.mg P.X.base P.G k x c 0 dd mf) (hr : Room j P.X.A) (hk : k + 1 ≤ j) (tk : Takes P.X P.wx) (hg : Gl P.X x) (hdb : (x == ("__debug__" : Str)) = false := by decide) :
    ME P (.Call (.Name x p) [] [] pos) (eMk3 c 0 dd mf aNil) := by
  obtain ⟨C, f, fd, ps, dvs, dsv, hm, hc, M, hb, hd, rd, F⟩ := h.ex
  refine ME.mk' (pe_mk30 M F (hr.mono hk) hg hm hb hd (fun σ => passAt tk σ) hdb) fun B0 B s st u z Q wd sl h => ?_
  exact fun x dx hx hdx ne => make_post (n := 0 + dd.length) (ds := [] ++ dd) hc wd ((RepL.nil).append (rd s.F s.io)) (by simp) h hx hdx ne
/-- o.m(..): the classes that o may be of, each with its mirror -/
structure MthOk (Pg : Program) (w : World) (K : PySem.W.Frag) (mg : Str → Option Value) (base : Heap) (G : G3) (k : Nat) (m : Str) (n : Nat) (c : String) (mf : List D → M D) : Prop where
  ex : ∃ C f fd ps, G.cls c = some C ∧ Cls K C ∧ Meth K C m f ∧ Binds K fd ps [] ∧ FnOk Pg w K mg base (L2.CX Pg w) k f fd ps (spM G (n + 1) mf)
def eMeth (m : Str) (n : Nat) (tab : List (String × (List D → M D))) (mo : EM) (ma : AM) : EM := fun u => M.bind (mo u) fun w => M.bind (insOf w) fun q => M.bind (M.chk (q.2.2.lookup m = none)) fun _ => M.bind (M.of (tab.lookup q.2.1)) fun mf =>
  M.bind (ma u) fun ws => M.bind (M.of (asDs ws)) fun ds => M.bind (M.chk (ds.length = n)) fun _ => M.bind (mf (.ref q.1 :: ds)) fun d => M.pure (.val d)
theorem lookup_mem {α : Type} {c : String} {y : α} : ∀ {l : List (String × α)}, l.lookup c = some y → (c, y) ∈ l
  | (c', y') :: l, h => by
    rw [List.lookup_cons] at h
    split at h
    · rename_i e
      cases h
      rw [show c = c' from beq_iff_eq.mp e]
      exact List.mem_cons_self
    · exact List.mem_cons_of_mem _ (lookup_mem h)
/-- e.f, a property: its def raises nothing -/
structure PropOk (Pg : Program) (w : World) (K : PySem.W.Frag) (mg : Str → Option Value) (base : Heap) (G : G3) (k : Nat) (f : Str) (c : String) (mf : List D → M D) : Prop where
  ex : ∃ C p g fd ps, G.cls c = some C ∧ Cls K C ∧ PropOf K C f p g ∧ Binds K fd ps [] ∧ FnOk Pg w K mg base (L2.CX Pg w) k g fd ps (spM G 1 mf)
def eProp (c : String) (mf : List D → M D) (mo : EM) : EM := fun u => M.bind (mo u) fun w => M.bind (insOf w) fun q => M.bind (M.chk (q.2.1 = c)) fun _ => M.bind (M.quiet (mf [.ref q.1])) fun d => M.pure (.val d)
theorem me_prop {f : Str} (h : PropOk P.X.prog P.X.w P.X.K P.X.mg P.X.base P.G k f c mf) (hr : Room j P.X.A) (hk : k + 1 ≤ j) (ho : ME P o mo) (hab : attributeBase o f P.X.env (eval o P.X.env) = eval o P.X.env := by rfl) :
    ME P (.Attribute o f pos) (eProp c mf mo) := by
  obtain ⟨C, p, g, fd, ps, hcl, hc, hp, hb, F⟩ := h.ex
  obtain ⟨to, po, hto⟩ := ho.out
  refine ME.mk' (pe_prop (E := fun _ _ _ => False) po hc hp F (hr.mono hk) hb .nil ?_ hab) fun B0 B s st u z Q wd sl hp => hto B0 B s st u z _ wd sl (Post.bind hp fun w st1 s1 v l1 wd1 r1 h1 => ?_)
  · rintro pins σ H s er s' I ⟨_, _, _, _, _, _, _, _, _, _, _, _, q⟩
    exact q
  · obtain ⟨i, c', fs, a, C', dx, gs, rfl, rfl, eio, ek, ec, eh, rf, nb, hF, h1⟩ := Post.of_ins wd1 r1 h1
    obtain ⟨hcc, h2⟩ := Post.of_chk h1
    have hcc : c' = c := hcc
    subst hcc
    rw [hcl] at ec
    cases ec
    refine ⟨a, dx, gs, rfl, eh, rfl, B, s1, st1, [.ref i], rfl, wd1, .cons (.ref eio) .nil, ?_⟩
    unfold M.bind M.quiet at h2
    dsimp only at h2
    cases em : mf [.ref i] st1 with
    | ok d st' => rw [em] at h2; exact fun s' v l w r => h2 s' v l w r
    | err c x st' => rw [em] at h2; exact h2.elim
    | bad => rw [em] at h2; exact h2.elim
end
end M3
namespace M3
open PySem PySem.Spec PyProof.Rows L2
/-! ### raise X('..'), X an own class without __init__ -/
def sRaise (c : String) : SM := fun u st => .err c .non u st
section
variable {P : P3} {pos p p2 rpos : Pos}
/-! ### what is never reached -/
def sBad : SM := fun _ _ => .bad
/-! ### try, when the body raises nothing -/
def sTry0 (b : SM) : SM := fun u st => match b u st with
  | .err _ _ _ _ => .bad
  | r => r
theorem one {α : Type} {p : α → Prop} {a : α} (h : p a) : ∀ c ∈ [a], p c := fun c hc => List.mem_singleton.mp hc ▸ h
end
/-! ### try: .. except X as e: .. -/
/-- the class of an exception by its name -/
def cvOf (G : G3) (c : String) : Value := match G.cls c with
  | some C => .ref C
  | none => .type c
/-- the class and the dict of an exception -/
def CRel (G : G3) (c : String) (cv : Value) (dd : Option Addr) : Prop := cv = cvOf G c ∧ ((G.cls c).isSome = true → G.fld c = none → dd = none)
theorem crel_of {G : G3} {s : S3} {c : String} {x : D} {cv : Value} {dd : Option Addr} (h : ExR G s c x cv dd) : CRel G c cv dd := by
  unfold ExR at h
  unfold CRel cvOf
  split at h
  · rename_i e
    rw [e]
    exact ⟨h, fun q => (by cases q)⟩
  · rename_i C e
    rw [e]
    refine ⟨h.1, fun _ ef => ?_⟩
    have := h.2
    rw [ef] at this
    exact this
/-- no slot holds an exception -/
def noExn : Sl3 → Bool
  | [] => true
  | some (.exn _ _) :: _ => false
  | _ :: u => noExn u
theorem noExn_at {c : String} {x : D} : ∀ {u : Sl3} {i : Nat}, noExn u = true → u[i]? ≠ some (some (.exn c x))
  | [], i, _ => by simp
  | w :: u, 0, h => fun e => by
    simp at e
    subst e
    cases h
  | w :: u, i + 1, h => fun e => by
    refine noExn_at (u := u) (i := i) ?_ (by simpa using e)
    cases w with
    | none => exact h
    | some w => cases w <;> first | exact h | cases h
theorem Slo.hx {G : G3} {X X' : Hex} {B0 B : Addr → Prop} {s : S3} {u : Sl3} {z : L2.St} (h : Slo G X B0 B s u z) (n : noExn u = true) : Slo G X' B0 B s u z := by
  obtain ⟨hl, ow, h1, h2⟩ := h
  refine ⟨hl, ow, fun i w e => ?_, h2⟩
  obtain ⟨v, e1, r, q⟩ := h1 i w e
  refine ⟨v, e1, ?_, q⟩
  cases w with
  | exn c x => exact absurd e (noExn_at n)
  | val d => exact r
  | bor xs => exact r
  | bod ks us => exact r
  | bdd ks us => exact r
  | len xs => exact r
theorem Slo.exn {G : G3} {B0 B : Addr → Prop} {s : S3} {u : Sl3} {z : L2.St} {a : Addr} {c : String} {x : D} {dd : Option Addr} (h : Slo G (some (a, c, x, dd)) B0 B s u z) (xf : XFld G s c x dd) (i : Nat) : Slo G (some (a, c, x, dd)) B0 B s (u.set i (some (.exn c x))) (z.set i (some (.ref a))) := by
  obtain ⟨hl, ow, h1, h2⟩ := h
  refine ⟨by simpa using hl, ow, fun j w e => ?_, fun j k w w' o1 o2 e1 e2 e => ?_⟩
  · rcases get_set e with ⟨rfl, rfl⟩ | ⟨ne, e⟩
    · have hi : i < u.length := by
        rcases Nat.lt_or_ge i u.length with q | q
        · exact q
        · rw [List.getElem?_eq_none (by simpa using q)] at e; cases e
      exact ⟨.ref a, by rw [List.getElem?_set_self (by omega)], ⟨a, dd, rfl, rfl, xf⟩, fun q => by cases q⟩
    · obtain ⟨v', e1, r', q⟩ := h1 j w e
      exact ⟨v', by rw [List.getElem?_set_ne ne]; exact e1, r', q⟩
  · rcases get_set e1 with ⟨_, q⟩ | ⟨_, e1⟩
    · subst q; cases o1
    · rcases get_set e2 with ⟨_, q⟩ | ⟨_, e2⟩
      · subst q; cases o2
      · exact h2 j k w w' o1 o2 e1 e2 e
abbrev noWs : WX := fun _ _ _ _ => False
abbrev P3.tr (P : P3) (pn : List (Addr × Obj)) (xe : Value → Shared → Prop) (W : WX) : P3 := ⟨P.X.tr pn xe, P.G, P.hx, W, P.hK, P.hw⟩
abbrev P3.su (P : P3) (a : Addr) (oe : Obj) (pn : List (Addr × Obj)) (c : String) (x : D) (dd : Option Addr) : P3 := ⟨P.X.suite a ((a, oe) :: pn), P.G, some (a, c, x, dd), noWs, P.hK, P.hw⟩
/-- what an except suite does, the exception in slot i -/
def sSuite (i : Option Nat) (ms : SM) (c : String) (x : D) (u : Sl3) (st : Store) : SRes :=
  let put := fun u : Sl3 => match i with | some i => u.set i (some (.exn c x)) | none => u
  let gone := fun u : Sl3 => match i with | some i => u.set i none | none => u
  match ms (put u) st with
  | .nx u2 st2 => if noExn (gone u2) = true then .nx (gone u2) st2 else .bad
  | .bk u2 st2 => if noExn (gone u2) = true then .bk (gone u2) st2 else .bad
  | .ct u2 st2 => if noExn (gone u2) = true then .ct (gone u2) st2 else .bad
  | .rt w st2 => .rt w st2
  | _ => .bad
def sTry (i : Option Nat) (sub : String → Option Bool) (mb ms : SM) : SM := fun u st => match mb u st with
  | .err c x u' st' => match sub c with
    | some true => if noExn u' = true then sSuite i ms c x u' st' else .bad
    | some false => .err c x u' st'
    | none => .bad
  | r => r
/-- the suite's reading -/
def tSu (G : G3) (ms : SM) : Addr → Value → Option Addr → TS := fun a cv dd D z H => ∃ c x, CRel G c cv dd ∧ tS G (some (a, c, x, dd)) noWs ms D z H
section
variable {P : P3} {pos pos' np : Pos}
theorem su_pss {suite : List Stmt} {ms : SM} (hsu : ∀ (a : Addr) (oe : Obj) (cv : Value) (dd : Option Addr) (pn : List (Addr × Obj)) (c : String) (x : D), Zc cv dd oe → (∃ vs, oe.data = .fields vs) → CRel P.G c cv dd → MSs (P.su a oe pn c x dd) suite ms)
    (a : Addr) (oe : Obj) (cv : Value) (dd : Option Addr) (pn : List (Addr × Obj)) (hz : Zc cv dd oe) (hf : ∃ vs, oe.data = .fields vs) : PSs (P.X.suite a ((a, oe) :: pn)) suite (tSu P.G ms a cv dd) :=
  ⟨fun pins s z H D I ⟨c, x, hc, q⟩ => (hsu a oe cv dd pn c x hz hf hc).pss.run pins s z H D I q⟩
end
/-! ### isinstance(e, Y), e the exception that the suite holds -/
def eIsE (i : Nat) (tab : String → Option Bool) : EM := fun u st => match u[i]? with
  | some (some (.exn c _)) => match tab c with
    | some b => .ok (.val (.bl b)) st
    | none => .bad
  | _ => .bad
section
variable {P : P3} {pos p p1 p2 : Pos}
/-! ### e.f, the field of the exception that the suite holds -/
def eXf (i : Nat) (cs : List String) : EM := fun u st => match u[i]? with
  | some (some (.exn c x)) => if c ∈ cs then .ok (.val x) st else .bad
  | _ => .bad
end
end M3
/-! dicts whose keys are tuples: DkO -/
namespace M3
open PySem PySem.Spec PyProof.Rows L2
/-! ### data as keys -/
/-! ### what a dict holds, as data -/
def ddAt : List D → List D → NestedKey → Option D
  | k :: ks, d :: ds, x => if k.tk = some x then some d else ddAt ks ds x
  | _, _, _ => none
def ddSet : List D → List D → NestedKey → D → List D
  | k :: ks, d :: ds, x, y => (if k.tk = some x then y else d) :: ddSet ks ds x y
  | _, ds, _, _ => ds
def ddHas (ks : List D) (x : NestedKey) : Bool := ks.any fun k => decide (k.tk = some x)
def ddPut (ks us : List D) (kd : D) (x : NestedKey) (d : D) : List D × List D := if ddHas ks x = true then (ks, ddSet ks us x d) else (ks ++ [kd], us ++ [d])
/-! ### in the heap -/
/-! ### a dict with tuple keys, where it is -/
/-- a container as it is read -/
def ddOf (w : W) : M (List D × List D) := fun st => match w with
  | .val (.dd ks us) => .ok (ks, us) st
  | .bdd ks us => .ok (ks, us) st
  | .val (.ref k) => match st[k]? with
    | some (.ddi ks us) => .ok (ks, us) st
    | _ => .bad
  | _ => .bad
/-- k in d -/
def eInDD (neg : Bool) (mk md : EM) : EM := fun u => M.bind (mk u) fun k => M.bind (md u) fun d => M.bind (M.of k.d) fun kd => M.bind (M.of kd.tk) fun x => M.bind (ddOf d) fun q => M.pure (.val (.bl (if neg then !ddHas q.1 x else ddHas q.1 x)))
/-- d[k] -/
def eGetDD (md mk : EM) : EM := fun u => M.bind (md u) fun d => M.bind (mk u) fun k => M.bind (M.of k.d) fun kd => M.bind (M.of kd.tk) fun x => M.bind (ddOf d) fun q => M.bind (M.of (ddAt q.1 q.2 x)) fun y => M.pure (.val y)
theorem d_val {w : W} {d : D} (e : w.d = some d) : w = .val d := by cases w <;> cases e; rfl
end M3
namespace M3
open PySem PySem.Spec PyProof.Rows L2
/-! ### the keys, walked -/
def iKeysDD (m : EM) : FM := fun u => M.bind (m u) fun w => match w with
  | .val (.dd ks _) => M.pure ks
  | _ => M.bad
/-! ### one's own: laid, stored into, let go -/
theorem upd2 {H : Hp} {p : Addr} {a b : HO} : upd (upd H p a) p b = upd H p b := upd_upd
def sOwnDD (i : Nat) : SM := fun u st => .nx (u.set i (some (.bdd [] []))) st
def eNewDD : EM := fun _ st => .ok (.val (.ref st.length)) (st ++ [.ddi [] []])
end M3
/-! dict comprehensions over dicts with tuple keys -/
namespace M3
open PySem PySem.Spec PyProof.Rows L2
end M3
namespace M3
open PySem PySem.Spec PyProof.Rows L2
/-- turn by turn -/
def dcL (g : GM) (c : TM) (ek ev : EM) (u0 : Sl3) : List D → List D → List D → M (List D × List D)
  | [], ks, us => M.pure (ks, us)
  | d :: ds, ks, us => M.bind (M.of (g d u0)) fun u1 => M.bind (M.quiet (c u1)) fun b =>
    if b = true then M.bind (M.quiet (ek u1)) fun kw => M.bind (M.quiet (ev u1)) fun vw => M.bind (M.of kw.d) fun k => M.bind (M.of vw.d) fun v => M.bind (M.of k.tk) fun x => M.bind (M.chk (ks.length < 1000000)) fun _ =>
      dcL g c ek ev u0 ds (ddPut ks us k x v).1 (ddPut ks us k x v).2
    else dcL g c ek ev u0 ds ks us
/-- {..}: let go -/
def eDc (mi : FM) (g : GM) (c : TM) (ek ev : EM) (own : List Nat) : EM := fun u => M.bind (mi u) fun ds => M.bind (dcL g c ek ev (wipe3 u own) ds [] []) fun q => M.pure (.val (.dd q.1 q.2))
end M3
namespace M3
open PySem PySem.Spec PyProof.Rows L2
/-! ### keywords -/
section
variable {P : P3} {pos p kpos : Pos} {x : Str} {e : Expr} {es : List Expr} {kws : List Keyword} {m : EM} {ma mk : AM} {nm : Option Str}
/-- .. a class -/
structure MkOkK (Pg : Program) (w : World) (K : PySem.W.Frag) (mg : Str → Option Value) (base : Heap) (G : G3) (k : Nat) (x : Str) (c : String) (n : Nat) (ks : List Str) (arr : List D → List D → List D) (N : Nat) (mf : List D → M D) : Prop where
  ex : ∃ (C f : Addr) (fd : FuncData) (ps : List Str) (g : List Value → List Value → List Value) (gV hV : List V → List V → List V), mg x = some (.ref C) ∧ G.cls c = some C ∧ Mk K C f ∧ KBn K fd ps (n + 1) ks g gV ∧
    (∀ v vs zs, gV (v :: vs) zs = v :: hV vs zs) ∧ (∀ F io vs zs ds es, RepL G.R F io ds vs → RepL G.R F io es zs → ds.length = n → es.length = ks.length → RepL G.R F io (arr ds es) (hV vs zs)) ∧ (∀ ds es, ds.length = n → es.length = ks.length → (arr ds es).length = N) ∧
    FnOk Pg w K mg base (L2.CX Pg w) k f fd ps (spM G (N + 1) mf)
def eCallK (n m N : Nat) (arr : List D → List D → List D) (mf : List D → M D) (ma mk : AM) : EM := fun u => M.bind (ma u) fun ws => M.bind (mk u) fun zs => M.bind (M.of (asDs ws)) fun ds => M.bind (M.of (asDs zs)) fun es => M.bind (M.chk (ds.length = n ∧ es.length = m ∧ (arr ds es).length = N)) fun _ =>
  M.bind (mf (arr ds es)) fun d => M.pure (.val d)
def eMkK (c : String) (n m : Nat) (arr : List D → List D → List D) (mf : List D → M D) (ma mk : AM) : EM := fun u => M.bind (ma u) fun ws => M.bind (mk u) fun zs => M.bind (M.of (asDs ws)) fun ds => M.bind (M.of (asDs zs)) fun es => M.bind (M.chk (ds.length = n ∧ es.length = m)) fun _ => mMake c mf (arr ds es)
/-! ### stores -/
/-- o[k] = e, o a dict of the store -/
def sSetDS (mo mi me : EM) : SM := fun u st => match M.bind (me u) (fun w => M.bind (M.of w.d) fun d => M.bind (mo u) fun ow => M.bind (mi u) fun k => M.bind (M.of k.d) fun kd => M.bind (M.of kd.tk) fun x => M.bind (ddOf ow) fun q => M.bind (M.chk (q.1.length < 1000000)) fun _ => fun st => match ow with
    | .val (.ref j) => .ok () (st.set j (.ddi (ddPut q.1 q.2 kd x d).1 (ddPut q.1 q.2 kd x d).2))
    | _ => .bad) st with
  | .ok _ st' => .nx u st'
  | .err c x st' => .err c x u st'
  | .bad => .bad
end
/-! ### isinstance(d, T), d a dict with tuple keys -/
section
variable {P : P3}
def isi2F : List W → Option W
  | [.val (.dd _ _), .val (.ty T)] => (kitB "dict" T).map fun b => .val (.bl b)
  | ws => isiF ws
end
end M3
/-! what the printed walks lean on -/
namespace M3
open PySem PySem.Spec PyProof.Rows L2
theorem nil_all {α : Type} {p : α → Prop} : ∀ c ∈ ([] : List α), p c := fun _ h => by cases h
theorem cons_all {α : Type} {p : α → Prop} {a : α} {l : List α} (h : p a) (t : ∀ c ∈ l, p c) : ∀ c ∈ a :: l, p c := fun c hc => by
  rcases List.mem_cons.mp hc with rfl | hc
  · exact h
  · exact t c hc
theorem exm_ty {K : PySem.W.Frag} {cls : Value} {T : String} {b : Bool} (h : PySem.W.subIn K cls (.type T) = some b) (h1 : (PySem.fastBuiltinMro T).any (fun l => l.contains (.type "BaseException")) = true) (h2 : PySem.W.kitMeta T = true) : PySem.W.exmOne K cls (.type T) = some b := by
  unfold PySem.W.exmOne PySem.W.kitCls
  have e : (PySem.W.subIn K (.type T) (.type "BaseException") == some true) = true := by
    unfold PySem.W.subIn
    cases q : PySem.fastBuiltinMro T with
    | none => rw [q] at h1; cases h1
    | some l => rw [q] at h1; simp only [Option.any_some] at h1; dsimp only; rw [q, Option.map_some, h1]; rfl
  rw [if_pos e]
  dsimp only
  rw [if_pos h2]
  exact h
/-- an exception's classes, by a table -/
def subT (tab : List (String × Bool)) : String → Option Bool := fun c => tab.lookup c
theorem subT_ok {tab : List (String × Bool)} {p : String × Bool → Prop} (h : ∀ q ∈ tab, p q) : ∀ c b, subT tab c = some b → p (c, b) := fun c b e => h _ (lookup_mem e)
/-- a class as a value -/
def vOf (G : G3) (c : String) : V := match G.cls c with
  | some C => .ref C
  | none => .ty c
end M3
/-! sum(ls, []), ls a list of lists -/
namespace PySem
open Sem (wp)
end PySem
namespace M3
open PySem PySem.Spec PyProof.Rows L2
/-- lists of a list -/
def D.lists : List D → Option (List (List D))
  | [] => some []
  | .lst xs :: ds => (D.lists ds).map (xs :: ·)
  | _ :: _ => none
def sumLF : List W → Option W
  | [.val (.lst ds), .val (.lst [])] => (D.lists ds).bind fun xss => if xss.flatten.length ≤ 1000000 then some (.val (.lst xss.flatten)) else none
  | _ => none
end M3
/-! len(set(xs)), xs a list of texts -/
namespace PySem
open Sem (wp)
end PySem
namespace M3
open PySem PySem.Spec PyProof.Rows L2
end M3
namespace M3
open PySem PySem.W PySem.Calls PyProof.Rows
theorem weight_mem {n : Int} : ∀ {ns : List Int}, n ∈ ns → (if n == 0 then 0 else n.natAbs.log2 + 1) ≤ WData.weightAll (ns.map WData.int)
  | m :: ns, h => by
    rw [List.map_cons, WData.weightAll, WData.weight]
    rcases List.mem_cons.mp h with e | h
    · rw [← e]; omega
    · have := weight_mem h; omega
theorem bits_of {ns : List Int} (h : WData.layableAll [WData.list (ns.map WData.int)] = true) : ∀ n ∈ ns, n.natAbs.log2 ≤ 1048576 := by
  intro n hn
  have h1 : (WData.list (ns.map WData.int)).layable = true := by simpa [WData.layableAll] using h
  have h2 := (layableW_iff.mp h1).2.2
  rw [WData.weight] at h2
  have h3 := weight_mem hn
  by_cases z : n = 0
  · subst z; decide
  · rw [if_neg (by simpa using z)] at h3; omega
end M3
/-! a mirror is run by rewriting: what is left to be done stands in named continuations -/
namespace M3
open PySem L2
def run {α : Type} (r : Res α) (k : Res α → Prop) : Prop := k r
def srun (r : SRes) (k : SRes → Prop) : Prop := k r
theorem of_run {α : Type} {r x : Res α} (h : run r (fun y => y = x)) : r = x := h
theorem srun_mono {r : SRes} {k k' : SRes → Prop} (h : srun r k) (i : ∀ r, k r → k' r) : srun r k' := i _ h
section
variable {α β γ : Type} {k : Res α → Prop} {kb : Res β → Prop} {ks : SRes → Prop} {st : Store} {u : Sl3}
@[simp] theorem run_ok (a : α) : run (.ok a st) k = k (.ok a st) := rfl
@[simp] theorem run_err (c x) : run (.err c x st : Res α) k = k (.err c x st) := rfl
@[simp] theorem run_bad : run (.bad : Res α) k = k .bad := rfl
@[simp] theorem srun_nx : srun (.nx u st) ks = ks (.nx u st) := rfl
@[simp] theorem srun_rt (w) : srun (.rt w st) ks = ks (.rt w st) := rfl
@[simp] theorem srun_bk : srun (.bk u st) ks = ks (.bk u st) := rfl
@[simp] theorem srun_ct : srun (.ct u st) ks = ks (.ct u st) := rfl
@[simp] theorem srun_err (c x) : srun (.err c x u st) ks = ks (.err c x u st) := rfl
@[simp] theorem srun_bad : srun .bad ks = ks .bad := rfl
/-! the monad -/
def kBind (f : α → M β) (k : Res β → Prop) : Res α → Prop
  | .ok a st => run (f a st) k
  | .err c x st => k (.err c x st)
  | .bad => k .bad
@[simp] theorem kBind_ok (f : α → M β) (a) : kBind f kb (.ok a st) = run (f a st) kb := rfl
@[simp] theorem kBind_err (f : α → M β) (c x) : kBind f kb (.err c x st) = kb (.err c x st) := rfl
@[simp] theorem kBind_bad (f : α → M β) : kBind f kb .bad = kb .bad := rfl
@[simp] theorem run_bind (m : M α) (f : α → M β) : run (M.bind m f st) kb = run (m st) (kBind f kb) := by
  unfold run M.bind kBind
  cases m st <;> rfl
@[simp] theorem run_pure (a : α) : run (M.pure a st) k = k (.ok a st) := rfl
@[simp] theorem run_Mbad : run (M.bad st) k = k .bad := rfl
@[simp] theorem run_of_some (a : α) : run (M.of (some a) st) k = k (.ok a st) := rfl
@[simp] theorem run_of_none : run (M.of (none : Option α) st) k = k .bad := rfl
@[simp] theorem run_of_ite (p : Prop) [Decidable p] (a b : Option α) : run (M.of (if p then a else b) st) k = if p then run (M.of a st) k else run (M.of b st) k := by split <;> rfl
@[simp] theorem run_chk (p : Prop) [Decidable p] {k : Res Unit → Prop} : run (M.chk p st) k = if p then k (.ok () st) else k .bad := by unfold run M.chk; split <;> rfl
def kQuiet (k : Res α → Prop) : Res α → Prop
  | .ok a st => k (.ok a st)
  | _ => k .bad
@[simp] theorem kQuiet_ok (a) : kQuiet k (.ok a st) = k (.ok a st) := rfl
@[simp] theorem kQuiet_err (c x) : kQuiet k (.err c x st) = k .bad := rfl
@[simp] theorem kQuiet_bad : kQuiet k (.bad : Res α) = k .bad := rfl
@[simp] theorem run_quiet (m : M α) : run (M.quiet m st) k = run (m st) (kQuiet k) := by unfold run M.quiet kQuiet; cases m st <;> rfl
end
section
variable {k : Res W → Prop} {ka : Res (List W) → Prop} {kt : Res Bool → Prop} {kf : Res (List D) → Prop} {kd : Res D → Prop} {ki : Res (Option Int) → Prop} {ks : SRes → Prop} {st : Store} {u : Sl3} {a b c m : EM} {ma ms : AM} {fm : FM} {t t' : TM} {g g' : W → W → Option W}
/-! expressions -/
def kVar (st : Store) (k : Res W → Prop) : Option (Option W) → Prop
  | some (some w) => k (.ok w st)
  | _ => k .bad
@[simp] theorem kVar_some (w) : kVar st k (some (some w)) = k (.ok w st) := rfl
@[simp] theorem kVar_none : kVar st k (some none) = k .bad := rfl
@[simp] theorem kVar_out : kVar st k none = k .bad := rfl
@[simp] theorem run_eVar (i : Nat) : run (eVar i u st) k = kVar st k u[i]? := by
  unfold run eVar kVar
  cases u[i]? with
  | none => rfl
  | some o => cases o <;> rfl
@[simp] theorem run_eC (d : D) : run (eC d u st) k = k (.ok (.val d) st) := rfl
@[simp] theorem run_aNil : run (aNil u st) ka = ka (.ok [] st) := rfl
@[simp] theorem run_aCons : run (aCons m ms u st) ka = run (m u st) (kBind (fun w => M.bind (ms u) fun ws => M.pure (w :: ws)) ka) := run_bind _ _
@[simp] theorem run_eTup : run (eTup ma u st) k = run (ma u st) (kBind (fun ws => M.bind (M.of (asDs ws)) fun ds => M.bind (M.chk (ds.length ≤ 1000000)) fun _ => M.pure (.val (.tup ds))) k) := run_bind _ _
@[simp] theorem run_fLst : run (fLst ma u st) kf = run (ma u st) (kBind (fun ws => M.bind (M.of (asDs ws)) fun ds => M.bind (M.chk (ds.length ≤ 1000000)) fun _ => M.pure ds) kf) := run_bind _ _
@[simp] theorem run_eF : run (eF fm u st) k = run (fm u st) (kBind (fun xs => M.pure (.val (.lst xs))) k) := run_bind _ _
@[simp] theorem run_eBin : run (eBin g a b u st) k = run (a u st) (kBind (fun x => M.bind (b u) fun y => M.of (g x y)) k) := run_bind _ _
@[simp] theorem run_tOf : run (tOf m u st) kt = run (m u st) (kBind (fun w => M.of w.bool) kt) := run_bind _ _
@[simp] theorem run_tTru : run (tTru m u st) kt = run (m u st) (kBind (fun w => M.of w.tru) kt) := run_bind _ _
@[simp] theorem run_eAnd : run (eAnd a b u st) k = run (a u st) (kBind (fun w => M.bind (M.of w.tru) fun c => if c = true then b u else M.pure w) k) := run_bind _ _
@[simp] theorem run_eOr : run (eOr a b u st) k = run (a u st) (kBind (fun w => M.bind (M.of w.tru) fun c => if c = true then M.pure w else b u) k) := run_bind _ _
@[simp] theorem run_eNot : run (eNot a u st) k = run (a u st) (kBind (fun w => M.bind (M.of w.tru) fun c => M.pure (.val (.bl (!c)))) k) := run_bind _ _
@[simp] theorem run_tAnd3 : run (tAnd3 t t' u st) kt = run (t u st) (kBind (fun c => if c = true then t' u else M.pure false) kt) := run_bind _ _
@[simp] theorem run_tOr3 : run (tOr3 t t' u st) kt = run (t u st) (kBind (fun c => if c = true then M.pure true else t' u) kt) := run_bind _ _
@[simp] theorem run_tNot3 : run (tNot3 t u st) kt = run (t u st) (kBind (fun c => M.pure (!c)) kt) := run_bind _ _
@[simp] theorem run_ite {α : Type} {k : Res α → Prop} (p : Prop) [Decidable p] (x y : M α) : run ((if p then x else y) st) k = if p then run (x st) k else run (y st) k := by split <;> rfl
@[simp] theorem run_eChain : run (eChain g g' a b c u st) k = run (a u st) (kBind (fun x => M.bind (b u) fun y => M.bind (M.of (g x y)) fun q => M.bind (M.of q.bool) fun q => if q = true then M.bind (c u) fun w => M.of (g' y w) else M.pure (.val (.bl false))) k) := run_bind _ _
@[simp] theorem run_eIf : run (eIf t a b u st) k = run (t u st) (kBind (fun c => if c = true then a u else b u) k) := run_bind _ _
@[simp] theorem run_pNone : run (pNone u st) ki = ki (.ok none st) := rfl
@[simp] theorem run_pSome (i : Int) (h : m u st = .ok (.val (.int i)) st) : run (pSome m u st) ki = ki (.ok (some i) st) := by unfold run pSome M.bind; rw [h]; rfl
def kPart (k : Res (Option Int) → Prop) : Res W → Prop
  | .ok (.val (.int i)) st => k (.ok (some i) st)
  | .ok _ _ => k .bad
  | .err c x st => k (.err c x st)
  | .bad => k .bad
@[simp] theorem kPart_ok (i : Int) : kPart ki (.ok (.val (.int i)) st) = ki (.ok (some i) st) := rfl
@[simp] theorem run_pSome' : run (pSome m u st) ki = run (m u st) (kPart ki) := by
  unfold run pSome M.bind kPart
  cases m u st with
  | ok w st' =>
    cases w with
    | val d => cases d <;> rfl
    | _ => rfl
  | _ => rfl
/-- what a slice gives -/
def slA (x : W) (a b : Option Int) : Option W := match x.ls with
  | some xs => some (.val (.lst (cutD xs a b)))
  | none => slF x a b
@[simp] theorem slA_lst (xs a b) : slA (.val (.lst xs)) a b = some (.val (.lst (cutD xs a b))) := rfl
@[simp] theorem slA_bor (xs a b) : slA (.bor xs) a b = some (.val (.lst (cutD xs a b))) := rfl
@[simp] theorem slA_tup (xs a b) : slA (.val (.tup xs)) a b = some (.val (.tup (cutD xs a b))) := rfl
@[simp] theorem slA_str (z a b) : slA (.val (.str z)) a b = if z.length ≤ 1000000 then some (.val (.str (cutS z a b))) else none := rfl
@[simp] theorem run_eSlA {l h : Sl3 → M (Option Int)} : run (eSlA m l h u st) k = run (m u st) (kBind (fun x => M.bind (l u) fun a => M.bind (h u) fun b => M.of (slA x a b)) k) := by
  have e : eSlA m l h u = M.bind (m u) fun x => M.bind (l u) fun a => M.bind (h u) fun b => M.of (slA x a b) := by
    unfold eSlA slA
    congr 1
    funext x
    cases x.ls <;> rfl
  rw [e]; exact run_bind _ _
@[simp] theorem run_eB (g : List W → Option W) : run (eB g ma u st) k = run (ma u st) (kBind (fun ws => M.of (g ws)) k) := run_bind _ _
@[simp] theorem run_fB (g : List W → Option (List D)) : run (fB g ma u st) kf = run (ma u st) (kBind (fun ws => M.of (g ws)) kf) := run_bind _ _
@[simp] theorem run_eCall (n : Nat) (f : List D → M D) : run (eCall n f ma u st) k = run (ma u st) (kBind (fun ws => M.bind (M.of (asDs ws)) fun ds => M.bind (M.chk (ds.length = n)) fun _ => M.bind (f ds) fun d => M.pure (.val d)) k) := run_bind _ _
/-- what a for walks -/
def kSeqs (k : Res (List D) → Prop) : Res W → Prop
  | .ok (.val d) st => run (M.of d.walk st) k
  | .ok _ _ => k .bad
  | .err c x st => k (.err c x st)
  | .bad => k .bad
@[simp] theorem kSeqs_ok (d : D) : kSeqs kf (.ok (.val d) st) = run (M.of d.walk st) kf := rfl
@[simp] theorem run_iSeq : run (iSeq m u st) kf = run (m u st) (kSeqs kf) := by
  unfold run iSeq M.bind kSeqs
  cases m u st with
  | ok w st' => cases w <;> rfl
  | _ => rfl
@[simp] theorem rng1_int (j : Int) : rng1 [.val (.int j)] = if -1000000 ≤ j ∧ j ≤ 1000000 then some (rangeD 0 j.toNat) else none := rfl
@[simp] theorem rng2_int (i j : Int) : rng2 [.val (.int i), .val (.int j)] = if -1000000 ≤ i ∧ i ≤ 1000000 ∧ -1000000 ≤ j ∧ j ≤ 1000000 then some (rangeD i (j - i).toNat) else none := rfl
@[simp] theorem run_iRange1 : run (iRange1 ma u st) kf = run (ma u st) (kBind (fun ws => M.of (rng1 ws)) kf) := run_bind _ _
@[simp] theorem run_iRange2 : run (iRange2 ma u st) kf = run (ma u st) (kBind (fun ws => M.of (rng2 ws)) kf) := run_bind _ _
@[simp] theorem run_fLc {gm : GM} {own : List Nat} : run (fLc fm gm t m own u st) kf = run (fm u st) (kBind (fun ds => lcL gm t m (wipe3 u own) ds []) kf) := run_bind _ _
@[simp] theorem lcL_nil {gm : GM} {u0 : Sl3} (acc) : lcL gm t m u0 [] acc = M.pure acc := rfl
@[simp] theorem lcL_cons {gm : GM} {u0 : Sl3} (d ds acc) : run (lcL gm t m u0 (d :: ds) acc st) kf = run (M.of (gm d u0) st) (kBind (fun u1 => M.bind (M.quiet (t u1)) fun k =>
    if k = true then M.bind (M.quiet (m u1)) fun w => M.bind (M.of w.d) fun x => M.bind (M.chk (acc.length < 1000000)) fun _ => lcL gm t m u0 ds (acc ++ [x])
    else lcL gm t m u0 ds acc) kf) := run_bind _ _
@[simp] theorem run_tYes3 : run (tYes3 u st) kt = kt (.ok true st) := rfl
@[simp] theorem gName3_eq (i d) : gName3 i d u = some (u.set i (some (.val d))) := rfl
@[simp] theorem gNil3_eq : gNil3 [] u = some u := rfl
@[simp] theorem gCons3_eq (g gs d ds) : gCons3 g gs (d :: ds) u = (g d u).bind (gs ds) := rfl
@[simp] theorem gTup3_eq (n gs ds) : gTup3 n gs (.tup ds) u = if ds.length = n then gs ds u else none := rfl
/-! statements -/
def kSeq (b : SM) (k : SRes → Prop) : SRes → Prop
  | .nx u st => srun (b u st) k
  | r => k r
@[simp] theorem kSeq_nx (s : SM) : kSeq s ks (.nx u st) = srun (s u st) ks := rfl
@[simp] theorem kSeq_rt (s : SM) (w) : kSeq s ks (.rt w st) = ks (.rt w st) := rfl
@[simp] theorem kSeq_bk (s : SM) : kSeq s ks (.bk u st) = ks (.bk u st) := rfl
@[simp] theorem kSeq_ct (s : SM) : kSeq s ks (.ct u st) = ks (.ct u st) := rfl
@[simp] theorem kSeq_err (s : SM) (c x) : kSeq s ks (.err c x u st) = ks (.err c x u st) := rfl
@[simp] theorem kSeq_bad (s : SM) : kSeq s ks .bad = ks .bad := rfl
@[simp] theorem run_sSeq (s s' : SM) : srun (sSeq s s' u st) ks = srun (s u st) (kSeq s' ks) := by unfold srun sSeq kSeq; cases s u st <;> rfl
@[simp] theorem run_sNext : srun (sNext u st) ks = ks (.nx u st) := rfl
@[simp] theorem run_sBreak : srun (sBreak u st) ks = ks (.bk u st) := rfl
@[simp] theorem run_sCont : srun (sCont u st) ks = ks (.ct u st) := rfl
@[simp] theorem run_sRetN : srun (sRetN u st) ks = ks (.rt (.val .non) st) := rfl
/-- an expression's end within a statement -/
def kSet (i : Nat) (u : Sl3) (k : SRes → Prop) : Res W → Prop
  | .ok (.val d) st => k (.nx (u.set i (some (.val d))) st)
  | .ok _ _ => k .bad
  | .err c x st => k (.err c x u st)
  | .bad => k .bad
def kRetV (u : Sl3) (k : SRes → Prop) : Res W → Prop
  | .ok (.val d) st => k (.rt (.val d) st)
  | .ok _ _ => k .bad
  | .err c x st => k (.err c x u st)
  | .bad => k .bad
def kDrop (u : Sl3) (k : SRes → Prop) : Res W → Prop
  | .ok _ st => k (.nx u st)
  | .err c x st => k (.err c x u st)
  | .bad => k .bad
def kOwnS (i : Nat) (u : Sl3) (k : SRes → Prop) : Res (List D) → Prop
  | .ok xs st => k (.nx (u.set i (some (.bor xs))) st)
  | .err c x st => k (.err c x u st)
  | .bad => k .bad
def kFor (gm : GM) (s : SM) (u : Sl3) (k : SRes → Prop) : Res (List D) → Prop
  | .ok ds st => srun (forL gm s ds u st) k
  | .err c x st => k (.err c x u st)
  | .bad => k .bad
def kIf (s s' : SM) (u : Sl3) (k : SRes → Prop) : Res Bool → Prop
  | .ok c st => if c = true then srun (s u st) k else srun (s' u st) k
  | .err c x st => k (.err c x u st)
  | .bad => k .bad
@[simp] theorem kSet_ok (i d) : kSet i u ks (.ok (.val d) st) = ks (.nx (u.set i (some (.val d))) st) := rfl
@[simp] theorem kSet_err (i c x) : kSet i u ks (.err c x st) = ks (.err c x u st) := rfl
@[simp] theorem kSet_bad (i) : kSet i u ks .bad = ks .bad := rfl
@[simp] theorem kRetV_ok (d) : kRetV u ks (.ok (.val d) st) = ks (.rt (.val d) st) := rfl
@[simp] theorem kRetV_err (c x) : kRetV u ks (.err c x st) = ks (.err c x u st) := rfl
@[simp] theorem kRetV_bad : kRetV u ks .bad = ks .bad := rfl
@[simp] theorem kDrop_ok (w) : kDrop u ks (.ok w st) = ks (.nx u st) := rfl
@[simp] theorem kDrop_err (c x) : kDrop u ks (.err c x st) = ks (.err c x u st) := rfl
@[simp] theorem kOwnS_ok (i xs) : kOwnS i u ks (.ok xs st) = ks (.nx (u.set i (some (.bor xs))) st) := rfl
@[simp] theorem kFor_ok (gm s ds) : kFor gm s u ks (.ok ds st) = srun (forL gm s ds u st) ks := rfl
@[simp] theorem kFor_err (gm s c x) : kFor gm s u ks (.err c x st) = ks (.err c x u st) := rfl
@[simp] theorem kIf_ok (s s' c) : kIf s s' u ks (.ok c st) = if c = true then srun (s u st) ks else srun (s' u st) ks := rfl
@[simp] theorem kIf_err (s s' c x) : kIf s s' u ks (.err c x st) = ks (.err c x u st) := rfl
@[simp] theorem run_sSet (i : Nat) : srun (sSet i m u st) ks = run (m u st) (kSet i u ks) := by
  unfold srun sSet run kSet
  cases m u st with
  | ok w st' => cases w <;> rfl
  | _ => rfl
@[simp] theorem run_sRetV : srun (sRetV m u st) ks = run (m u st) (kRetV u ks) := by
  unfold srun sRetV run kRetV
  cases m u st with
  | ok w st' => cases w <;> rfl
  | _ => rfl
@[simp] theorem run_sDrop : srun (sDrop m u st) ks = run (m u st) (kDrop u ks) := by unfold srun sDrop run kDrop; cases m u st <;> rfl
@[simp] theorem run_sOwn (i : Nat) : srun (sOwn i fm u st) ks = run (fm u st) (kOwnS i u ks) := by unfold srun sOwn run kOwnS; cases fm u st <;> rfl
@[simp] theorem run_sIf (s s' : SM) : srun (sIf t s s' u st) ks = run (t u st) (kIf s s' u ks) := by
  unfold srun sIf run kIf
  cases t u st with
  | ok c st' => cases c <;> rfl
  | _ => rfl
/-- a slot that holds a list of one's own -/
def kRetOwn (st : Store) (k : SRes → Prop) : Option (Option W) → Prop
  | some (some (.bor xs)) => k (.rt (.bor xs) st)
  | _ => k .bad
@[simp] theorem kRetOwn_bor (xs) : kRetOwn st ks (some (some (.bor xs))) = ks (.rt (.bor xs) st) := rfl
@[simp] theorem run_sRetO (i : Nat) : srun (sRetO i u st) ks = kRetOwn st ks u[i]? := by
  unfold srun sRetO kRetOwn
  cases u[i]? with
  | none => rfl
  | some o =>
    cases o with
    | none => rfl
    | some w => cases w <;> rfl
def kApp (i : Nat) (u : Sl3) (xs : List D) (k : SRes → Prop) : Res W → Prop
  | .ok (.val d) st => if xs.length < 1000000 then k (.nx (u.set i (some (.bor (xs ++ [d])))) st) else k .bad
  | .ok _ _ => k .bad
  | .err c x st => k (.err c x u st)
  | .bad => k .bad
def kAppTo (i : Nat) (m : EM) (u : Sl3) (st : Store) (k : SRes → Prop) : Option (Option W) → Prop
  | some (some (.bor xs)) => run (m u st) (kApp i u xs k)
  | _ => k .bad
@[simp] theorem kApp_ok (i xs d) : kApp i u xs ks (.ok (.val d) st) = if xs.length < 1000000 then ks (.nx (u.set i (some (.bor (xs ++ [d])))) st) else ks .bad := rfl
@[simp] theorem kAppTo_bor (i xs) : kAppTo i m u st ks (some (some (.bor xs))) = run (m u st) (kApp i u xs ks) := rfl
@[simp] theorem run_sApp (i : Nat) : srun (sApp i m u st) ks = kAppTo i m u st ks u[i]? := by
  unfold srun sApp kAppTo run kApp
  cases u[i]? with
  | none => rfl
  | some o =>
    cases o with
    | none => rfl
    | some w =>
      cases w with
      | bor xs =>
        dsimp only
        cases m u st with
        | ok w st' =>
          cases w with
          | val d => dsimp only; split <;> rfl
          | _ => rfl
        | _ => rfl
      | _ => rfl
@[simp] theorem run_sFor {gm : GM} (s : SM) : srun (sFor fm gm s u st) ks = run (fm u st) (kFor gm s u ks) := by unfold srun sFor run kFor; cases fm u st <;> rfl
@[simp] theorem run_forL_nil {gm : GM} (s : SM) : srun (forL gm s [] u st) ks = ks (.nx u st) := rfl
@[simp] theorem wipe3_nil : wipe3 u [] = u := rfl
@[simp] theorem wipe3_cons (v vs) : wipe3 u (v :: vs) = (wipe3 u vs).set v none := rfl
/-- behind a turn -/
def kTurn (f : Sl3 → Store → Prop) (k : SRes → Prop) : SRes → Prop
  | .nx u st => f u st
  | .ct u st => f u st
  | .bk u st => k (.nx u st)
  | r => k r
@[simp] theorem kTurn_nx (f) : kTurn f ks (.nx u st) = f u st := rfl
@[simp] theorem kTurn_ct (f) : kTurn f ks (.ct u st) = f u st := rfl
@[simp] theorem kTurn_bk (f) : kTurn f ks (.bk u st) = ks (.nx u st) := rfl
@[simp] theorem kTurn_rt (f w) : kTurn f ks (.rt w st) = ks (.rt w st) := rfl
@[simp] theorem kTurn_err (f c x) : kTurn f ks (.err c x u st) = ks (.err c x u st) := rfl
@[simp] theorem kTurn_bad (f) : kTurn f ks .bad = ks .bad := rfl
theorem run_forL_cons {gm : GM} (s : SM) {d : D} {ds : List D} {u1 : Sl3} (h : gm d u = some u1) : srun (forL gm s (d :: ds) u st) ks = srun (s u1 st) (kTurn (fun u st => srun (forL gm s ds u st) ks) ks) := by
  unfold srun
  rw [forL, h]
  dsimp only
  unfold kTurn
  cases s u1 st <;> rfl
/-- a loop by what holds between its turns -/
theorem forL_run {gm : GM} {s : SM} {ds : List D} (I : Nat → Sl3 → Store → Prop) (h0 : I 0 u st) (turn : ∀ i d u st, ds[i]? = some d → I i u st → ∃ u1, gm d u = some u1 ∧ srun (s u1 st) (kTurn (I (i + 1)) ks)) (fin : ∀ u st, I ds.length u st → ks (.nx u st)) : srun (forL gm s ds u st) ks := by
  have all : ∀ (n i : Nat) (u : Sl3) (st : Store), i + n = ds.length → I i u st → srun (forL gm s (ds.drop i) u st) ks := by
    intro n
    induction n with
    | zero =>
      intro i u st hi hI
      rw [List.drop_eq_nil_of_le (by omega)]
      have : i = ds.length := by omega
      subst this
      exact fin u st hI
    | succ n ih =>
      intro i u st hi hI
      have hl : i < ds.length := by omega
      rw [List.drop_eq_getElem_cons hl]
      obtain ⟨u1, e, t⟩ := turn i ds[i] u st (List.getElem?_eq_getElem hl) hI
      rw [run_forL_cons s e]
      refine srun_mono t fun r hr => ?_
      cases r with
      | nx u' st' => exact ih (i + 1) u' st' (by omega) hr
      | ct u' st' => exact ih (i + 1) u' st' (by omega) hr
      | _ => exact hr
  have := all ds.length 0 u st (by omega) h0
  simpa using this
/-- a comprehension whose turns leave the store alone -/
theorem lcL_eq {gm : GM} {u0 : Sl3} (p : D → Bool) (f : D → D) : ∀ (ds acc : List D), (∀ d ∈ ds, ∃ u1, gm d u0 = some u1 ∧ t u1 st = .ok (p d) st ∧ (p d = true → m u1 st = .ok (.val (f d)) st)) → acc.length + ds.length ≤ 1000000 →
    lcL gm t m u0 ds acc st = .ok (acc ++ (ds.filter p).map f) st
  | [], acc, _, _ => by simp [lcL, M.pure]
  | d :: ds, acc, h, hz => by
    obtain ⟨u1, e1, e2, e3⟩ := h d List.mem_cons_self
    have ih := fun acc => lcL_eq p f ds acc fun d hd => h d (List.mem_cons_of_mem _ hd)
    simp only [List.length_cons] at hz
    apply of_run
    rw [lcL_cons, e1]
    simp only [run_of_some, kBind_ok, run_bind, run_quiet, e2, run_ok, kQuiet_ok, run_ite]
    cases hp : p d with
    | false =>
      rw [if_neg Bool.false_ne_true, ih acc (by omega)]
      simp [hp]
    | true =>
      rw [if_pos rfl, e3 hp]
      simp only [run_ok, kQuiet_ok, kBind_ok, run_bind, W.d, run_of_some, run_chk]
      rw [if_pos (by omega), ih _ (by simp; omega)]
      simp [hp]
/-! a def -/
def kRet (k : Res D → Prop) : SRes → Prop
  | .nx _ st => k (.ok .non st)
  | .rt (.val d) st => k (.ok d st)
  | .rt (.bor xs) st => k (.ok (.lst xs) st)
  | .err c x _ st => k (.err c x st)
  | _ => k .bad
@[simp] theorem kRet_nx : kRet kd (.nx u st) = kd (.ok .non st) := rfl
@[simp] theorem kRet_rt (d) : kRet kd (.rt (.val d) st) = kd (.ok d st) := rfl
@[simp] theorem kRet_bor (xs) : kRet kd (.rt (.bor xs) st) = kd (.ok (.lst xs) st) := rfl
@[simp] theorem kRet_err (c x) : kRet kd (.err c x u st) = kd (.err c x st) := rfl
@[simp] theorem kRet_bad : kRet kd .bad = kd .bad := rfl
theorem run_mfn (N : Nat) (mb : SM) (ds : List D) : run (mfn N mb ds st) kd = srun (mb (ds.map (fun d => some (.val d)) ++ List.replicate (N - ds.length) none) st) (kRet kd) := by
  unfold run mfn srun kRet
  cases mb (ds.map (fun d => some (.val d)) ++ List.replicate (N - ds.length) none) st with
  | rt w st' => cases w <;> rfl
  | _ => rfl
end
/-! values -/
@[simp] theorem asDs_nil : asDs [] = some [] := rfl
@[simp] theorem asDs_cons (d : D) (ws : List W) : asDs (.val d :: ws) = (asDs ws).map (d :: ·) := rfl
@[simp] theorem W_d_val (d : D) : (W.val d).d = some d := rfl
@[simp] theorem W_bool_bl (b : Bool) : (W.val (.bl b)).bool = some b := rfl
@[simp] theorem W_rd_val (d : D) : (W.val d).rd = some d := rfl
@[simp] theorem W_rd_bor (xs : List D) : (W.bor xs).rd = some (.lst xs) := rfl
@[simp] theorem W_ls_lst (xs : List D) : (W.val (.lst xs)).ls = some xs := rfl
@[simp] theorem W_ls_bor (xs : List D) : (W.bor xs).ls = some xs := rfl
@[simp] theorem walk_tup (xs : List D) : (D.tup xs).walk = some xs := rfl
@[simp] theorem walk_ctup (xs : List D) : (D.ctup xs).walk = some xs := rfl
@[simp] theorem walk_lst (xs : List D) : (D.lst xs).walk = some xs := rfl
@[simp] theorem walk_ro (xs : List D) : (D.ro xs).walk = some xs := rfl
@[simp] theorem walk_str (x : Str) : (D.str x).walk = some (x.cps.toList.map fun c => .str ⟨#[c]⟩) := rfl
@[simp] theorem items_ctup (xs : List D) : (D.ctup xs).items = some xs := rfl
@[simp] theorem items_tup (xs : List D) : (D.tup xs).items = some xs := rfl
@[simp] theorem items_lst (xs : List D) : (D.lst xs).items = some xs := rfl
@[simp] theorem items_ro (xs : List D) : (D.ro xs).items = some xs := rfl
@[simp] theorem tru_non : (W.val .non).tru = some false := rfl
@[simp] theorem tru_bl (b : Bool) : (W.val (.bl b)).tru = some b := rfl
@[simp] theorem tru_int (i : Int) : (W.val (.int i)).tru = some (i != 0) := rfl
@[simp] theorem tru_tup (xs : List D) : (W.val (.tup xs)).tru = some (!xs.isEmpty) := rfl
@[simp] theorem tru_lst (xs : List D) : (W.val (.lst xs)).tru = some (!xs.isEmpty) := rfl
@[simp] theorem tru_bor (xs : List D) : (W.bor xs).tru = some (!xs.isEmpty) := rfl
@[simp] theorem addF_int (i j : Int) : addF (.val (.int i)) (.val (.int j)) = some (.val (.int (i + j))) := rfl
@[simp] theorem addF_str (x y : Str) : addF (.val (.str x)) (.val (.str y)) = if x.length + y.length ≤ 1000000 then some (.val (.str (x ++ y))) else none := rfl
@[simp] theorem addF_tup (xs ys : List D) : addF (.val (.tup xs)) (.val (.tup ys)) = if xs.length + ys.length ≤ 1000000 then some (.val (.tup (xs ++ ys))) else none := rfl
@[simp] theorem addF_lst (xs ys : List D) : addF (.val (.lst xs)) (.val (.lst ys)) = if xs.length + ys.length ≤ 1000000 then some (.val (.lst (xs ++ ys))) else none := rfl
@[simp] theorem addF_bl (xs ys : List D) : addF (.bor xs) (.val (.lst ys)) = if xs.length + ys.length ≤ 1000000 then some (.val (.lst (xs ++ ys))) else none := rfl
@[simp] theorem addF_lb (xs ys : List D) : addF (.val (.lst xs)) (.bor ys) = if xs.length + ys.length ≤ 1000000 then some (.val (.lst (xs ++ ys))) else none := rfl
@[simp] theorem addF_bb (xs ys : List D) : addF (.bor xs) (.bor ys) = if xs.length + ys.length ≤ 1000000 then some (.val (.lst (xs ++ ys))) else none := rfl
@[simp] theorem subF_int (i j : Int) : subF (.val (.int i)) (.val (.int j)) = some (.val (.int (i - j))) := rfl
@[simp] theorem modF_int (i j : Int) : modF (.val (.int i)) (.val (.int j)) = if 0 < j then some (.val (.int (i % j))) else none := by simp [modF, intF]
@[simp] theorem divF_int (i j : Int) : divF (.val (.int i)) (.val (.int j)) = if 0 < j ∧ j < 1073741824 then some (.val (.int (i / j))) else none := by simp [divF, intF]
@[simp] theorem powF_int (i j : Int) : powF (.val (.int i)) (.val (.int j)) = if 0 ≤ j ∧ j ≤ 1000 ∧ i.natAbs < 1000000 then some (.val (.int (i ^ j.toNat))) else none := by simp [powF, intF]
@[simp] theorem mulF_int (i j : Int) : mulF (.val (.int i)) (.val (.int j)) = if mulC i j = true then some (.val (.int (i * j))) else none := rfl
@[simp] theorem mulF_str (x : Str) (j : Int) : mulF (.val (.str x)) (.val (.int j)) = if MulS x j = true then some (.val (.str (Txt.mul x j))) else none := rfl
@[simp] theorem ltF_int (i j : Int) : ltF (.val (.int i)) (.val (.int j)) = some (.val (.bl (decide (i < j)))) := rfl
@[simp] theorem gtF_int (i j : Int) : gtF (.val (.int i)) (.val (.int j)) = some (.val (.bl (decide (j < i)))) := rfl
@[simp] theorem geF_int (i j : Int) : geF (.val (.int i)) (.val (.int j)) = some (.val (.bl (decide (j ≤ i)))) := rfl
@[simp] theorem isNF_non (b : Bool) : isNF b (.val .non) (.val .non) = some (.val (.bl (!b))) := by cases b <;> rfl
@[simp] theorem isNF_int (b : Bool) (i) : isNF b (.val (.int i)) (.val .non) = some (.val (.bl b)) := rfl
@[simp] theorem isNF_str (b : Bool) (i) : isNF b (.val (.str i)) (.val .non) = some (.val (.bl b)) := rfl
@[simp] theorem isNF_tup (b : Bool) (i) : isNF b (.val (.tup i)) (.val .non) = some (.val (.bl b)) := rfl
@[simp] theorem isNF_lst (b : Bool) (i) : isNF b (.val (.lst i)) (.val .non) = some (.val (.bl b)) := rfl
@[simp] theorem lenF_str (z : Str) : lenF [.val (.str z)] = if z.length ≤ 1000000 then some (.val (.int z.length)) else none := rfl
@[simp] theorem lenF_tup (xs : List D) : lenF [.val (.tup xs)] = some (.val (.int xs.length)) := rfl
@[simp] theorem lenF_lst (xs : List D) : lenF [.val (.lst xs)] = some (.val (.int xs.length)) := rfl
@[simp] theorem lenF_ro (xs : List D) : lenF [.val (.ro xs)] = some (.val (.int xs.length)) := rfl
@[simp] theorem lenF_bor (xs : List D) : lenF [.bor xs] = some (.val (.int xs.length)) := rfl
@[simp] theorem intCF_int (i : Int) : intCF [.val (.int i)] = some (.val (.int i)) := rfl
@[simp] theorem intCF_bl (b : Bool) : intCF [.val (.bl b)] = some (.val (.int (if b then 1 else 0))) := rfl
@[simp] theorem tupCF_lst (xs : List D) : tupCF [.val (.lst xs)] = some (.val (.tup xs)) := rfl
@[simp] theorem tupCF_tup (xs : List D) : tupCF [.val (.tup xs)] = some (.val (.tup xs)) := rfl
@[simp] theorem tupCF_bor (xs : List D) : tupCF [.bor xs] = some (.val (.tup xs)) := rfl
@[simp] theorem lstCF_lst (xs : List D) : lstCF [.val (.lst xs)] = some xs := rfl
@[simp] theorem lstCF_tup (xs : List D) : lstCF [.val (.tup xs)] = some xs := rfl
@[simp] theorem lstCF_bor (xs : List D) : lstCF [.bor xs] = some xs := rfl
@[simp] theorem ixF_lst (xs : List D) (i : Int) : ixF (.val (.lst xs)) (.val (.int i)) = (atI xs i).map .val := rfl
@[simp] theorem ixF_tup (xs : List D) (i : Int) : ixF (.val (.tup xs)) (.val (.int i)) = (atI xs i).map .val := rfl
@[simp] theorem ixF_ro (xs : List D) (i : Int) : ixF (.val (.ro xs)) (.val (.int i)) = (atI xs i).map .val := rfl
@[simp] theorem ixF_bor (xs : List D) (i : Int) : ixF (.bor xs) (.val (.int i)) = (atI xs i).map .val := rfl
@[simp] theorem ixF_str (z : Str) (i : Int) : ixF (.val (.str z)) (.val (.int i)) = if z.length ≤ 1000000 then (atI z.cps.toList i).map fun c => .val (.str ⟨#[c]⟩) else none := rfl
theorem atN {α : Type} (xs : List α) (i : Nat) : atI xs (i : Int) = xs[i]? := by
  unfold atI ixN
  rw [if_pos (by omega)]
  by_cases h : i < xs.length
  · rw [if_pos (by omega)]; simp
  · rw [if_neg (by omega)]; simp [List.getElem?_eq_none (by omega : xs.length ≤ i)]
theorem atI_int {α : Type} (xs : List α) {i : Int} (h : 0 ≤ i) : atI xs i = xs[i.toNat]? := by
  have := atN xs i.toNat
  rwa [Int.toNat_of_nonneg h] at this
end M3
namespace M3
open PySem L2
section
variable {α β γ : Type} {k : Res α → Prop} {kw : Res W → Prop} {ks : SRes → Prop} {st : Store} {u : Sl3} {m a b : EM} {g : GM}
@[simp] theorem run_eM1 (g : Str → W → Option W) : run (eM1 g a b u st) kw = run (a u st) (kBind (fun x => M.bind (M.of x.str?) fun z => M.bind (b u) fun y => M.of (g z y)) kw) := run_bind _ _
@[simp] theorem run_eCnt : run (eCnt a b u st) kw = run (a u st) (kBind (fun x => M.bind (M.of x.tup?) fun xs => M.bind (b u) fun y => M.of (cntF xs y)) kw) := run_bind _ _
def kNeg (k : Res W → Prop) : Res W → Prop
  | .ok (.val (.int i)) st => k (.ok (.val (.int (-i))) st)
  | .ok _ _ => k .bad
  | .err c x st => k (.err c x st)
  | .bad => k .bad
@[simp] theorem kNeg_ok (i) : kNeg kw (.ok (.val (.int i)) st) = kw (.ok (.val (.int (-i))) st) := rfl
@[simp] theorem run_eNeg : run (eNeg a u st) kw = run (a u st) (kNeg kw) := by
  unfold run eNeg M.bind kNeg
  cases a u st with
  | ok w st' => cases w with
    | val d => cases d <;> rfl
    | _ => rfl
  | _ => rfl
@[simp] theorem str?_str (x : Str) : (W.val (.str x)).str? = some x := rfl
@[simp] theorem tup?_tup (xs : List D) : (W.val (.tup xs)).tup? = some xs := rfl
@[simp] theorem splitF_str (x y : Str) : splitF x (.val (.str y)) = if y.length ≠ 0 ∧ x.length ≤ 900000 then some (.val (.lst ((Txt.split x y).map .str))) else none := rfl
theorem strs_map : ∀ xs : List Str, D.strs (xs.map .str) = some xs
  | [] => rfl
  | x :: xs => by rw [List.map_cons, D.strs, strs_map xs]; rfl
@[simp] theorem joinF_strs (x : Str) (xs : List Str) : joinF x (.val (.lst (xs.map .str))) = if (xs.map (·.length)).sum + xs.length * x.length ≤ 1000000 then some (.val (.str (Txt.join x xs))) else none := by
  show (D.strs (xs.map .str)).bind _ = _
  rw [strs_map]; rfl
theorem bls_map : ∀ xs : List Bool, D.bls (xs.map .bl) = some xs
  | [] => rfl
  | x :: xs => by rw [List.map_cons, D.bls, bls_map xs]; rfl
@[simp] theorem allF_bls (xs : List Bool) : allF [.val (.lst (xs.map .bl))] = some (.val (.bl (xs.all id))) := by
  show (D.bls (xs.map .bl)).map _ = _
  rw [bls_map]; rfl
@[simp] theorem anyF_bls (xs : List Bool) : anyF [.val (.lst (xs.map .bl))] = some (.val (.bl (xs.any id))) := by
  show (D.bls (xs.map .bl)).map _ = _
  rw [bls_map]; rfl
theorem bls_mapF {α : Type} (f : α → Bool) (xs : List α) : (xs.map fun x => D.bl (f x)) = (xs.map f).map .bl := by rw [List.map_map]; rfl
@[simp] theorem allF_mapF {α : Type} (f : α → Bool) (xs : List α) : allF [.val (.lst (xs.map fun x => D.bl (f x)))] = some (.val (.bl (xs.all f))) := by
  rw [bls_mapF, allF_bls, List.all_map]; rfl
@[simp] theorem anyF_mapF {α : Type} (f : α → Bool) (xs : List α) : anyF [.val (.lst (xs.map fun x => D.bl (f x)))] = some (.val (.bl (xs.any f))) := by
  rw [bls_mapF, anyF_bls, List.any_map]; rfl
/-! statements -/
@[simp] theorem srun_sFrz (i : Nat) (xs : List D) (h : u[i]? = some (some (.bor xs))) : srun (sFrz i u st) ks = ks (.nx (u.set i (some (.val (.lst xs)))) st) := by
  unfold srun sFrz; rw [h]
def kAsg (g : GM) (u : Sl3) (ks : SRes → Prop) : Res W → Prop
  | .ok (.val d) st => (match g d u with
    | some u' => ks (.nx u' st)
    | none => ks .bad)
  | .ok _ _ => ks .bad
  | .err c x st => ks (.err c x u st)
  | .bad => ks .bad
def kAsg2 (st : Store) (ks : SRes → Prop) : Option Sl3 → Prop
  | some u' => ks (.nx u' st)
  | none => ks .bad
@[simp] theorem kAsg2_some (u') : kAsg2 st ks (some u') = ks (.nx u' st) := rfl
@[simp] theorem kAsg_ok (d : D) : kAsg g u ks (.ok (.val d) st) = kAsg2 st ks (g d u) := by unfold kAsg kAsg2; rfl
@[simp] theorem srun_sAsg : srun (sAsg m g u st) ks = run (m u st) (kAsg g u ks) := by
  unfold srun sAsg run kAsg
  cases m u st with
  | ok w st' => cases w with
    | val d => dsimp only; cases g d u <;> rfl
    | _ => rfl
  | _ => rfl
@[simp] theorem srun_sPop (i : Nat) (xs : List D) (h : u[i]? = some (some (.bor xs))) : srun (sPop i u st) ks = if xs.isEmpty = true then ks .bad else ks (.nx (u.set i (some (.bor xs.dropLast))) st) := by
  unfold srun sPop; rw [h]; dsimp only; split <;> rfl
end
end M3
/-! running what the later rules brought -/
namespace M3
open PySem L2
section
variable {α β γ : Type} {k : Res α → Prop} {kw : Res W → Prop} {kf : Res (List D) → Prop} {ks : SRes → Prop} {kd : Res D → Prop} {st : Store} {u : Sl3} {m a b mo : EM} {ma mk : AM} {g : GM}
/-! objects -/
def kIns (st : Store) (k : Res (Nat × String × List (Str × D)) → Prop) (i : Nat) : Option MO → Prop
  | some (.ins c fs) => k (.ok (i, c, fs) st)
  | _ => k .bad
@[simp] theorem kIns_ins {k} (i c fs) : kIns st k i (some (.ins c fs)) = k (.ok (i, c, fs) st) := rfl
@[simp] theorem run_insOf (i : Nat) (k) : run (insOf (.val (.ref i)) st) k = kIns st k i st[i]? := by
  unfold run insOf kIns
  dsimp only
  cases st[i]? with
  | none => rfl
  | some o => cases o <;> rfl
@[simp] theorem run_eFld (cs : List String) (f : Str) : run (eFld cs f m u st) kw = run (m u st) (kBind (fun w => M.bind (insOf w) fun q => M.bind (M.chk (q.2.1 ∈ cs)) fun _ => M.bind (M.of (q.2.2.lookup f)) fun d => M.pure (.val d)) kw) := run_bind _ _
def kNx (u : Sl3) (k : SRes → Prop) : Res Unit → Prop
  | .ok _ st => k (.nx u st)
  | .err c x st => k (.err c x u st)
  | .bad => k .bad
@[simp] theorem kNx_ok (x) : kNx u ks (.ok x st) = ks (.nx u st) := rfl
@[simp] theorem kNx_err (c x) : kNx u ks (.err c x st) = ks (.err c x u st) := rfl
@[simp] theorem kNx_bad : kNx u ks .bad = ks .bad := rfl
@[simp] theorem run_sFldS (cs : List String) (f : Str) : srun (sFldS cs f mo m u st) ks = run (m u st) (kBind (fun w => M.bind (M.of w.d) fun d => M.bind (mo u) fun x => M.bind (insOf x) fun q => M.bind (M.chk (q.2.1 ∈ cs ∧ q.2.2.length < 500)) fun _ => fun st => .ok () (st.set q.1 (.ins q.2.1 (put3 f d q.2.2)))) (kNx u ks)) := by
  rw [← run_bind]
  unfold srun sFldS run kNx
  cases (M.bind (m u) (fun w => M.bind (M.of w.d) fun d => M.bind (mo u) fun x => M.bind (insOf x) fun q => M.bind (M.chk (q.2.1 ∈ cs ∧ q.2.2.length < 500)) fun _ => fun st => Res.ok () (st.set q.1 (.ins q.2.1 (put3 f d q.2.2)))) st) <;> rfl
@[simp] theorem run_fun (f : Store → Res α) : run ((fun st => f st) st) k = run (f st) k := rfl
/-- C(..) -/
def kMade (i : Nat) (k : Res W → Prop) : Res D → Prop
  | .ok .non st => k (.ok (.val (.ref i)) st)
  | .ok _ _ => k .bad
  | .err c x st => k (.err c x st)
  | .bad => k .bad
@[simp] theorem kMade_non (i) : kMade i kw (.ok .non st) = kw (.ok (.val (.ref i)) st) := rfl
@[simp] theorem kMade_err (i c x) : kMade i kw (.err c x st) = kw (.err c x st) := rfl
@[simp] theorem run_mMake (c : String) (mf : List D → M D) (ds : List D) : run (mMake c mf ds st) kw = run (mf (.ref st.length :: ds) (st ++ [.ins c []])) (kMade st.length kw) := by
  unfold run mMake kMade
  cases mf (.ref st.length :: ds) (st ++ [.ins c []]) with
  | ok d st' => cases d <;> rfl
  | _ => rfl
@[simp] theorem run_eMk3 (c : String) (n : Nat) (dd : List D) (mf : List D → M D) : run (eMk3 c n dd mf ma u st) kw = run (ma u st) (kBind (fun ws => M.bind (M.of (asDs ws)) fun ds => M.bind (M.chk (ds.length = n)) fun _ => mMake c mf (ds ++ dd)) kw) := run_bind _ _
@[simp] theorem run_eMkK (c : String) (n k : Nat) (arr) (mf : List D → M D) : run (eMkK c n k arr mf ma mk u st) kw = run (ma u st) (kBind (fun ws => M.bind (mk u) fun zs => M.bind (M.of (asDs ws)) fun ds => M.bind (M.of (asDs zs)) fun es => M.bind (M.chk (ds.length = n ∧ es.length = k)) fun _ => mMake c mf (arr ds es)) kw) := run_bind _ _
@[simp] theorem run_eCallK (n k N : Nat) (arr) (mf : List D → M D) : run (eCallK n k N arr mf ma mk u st) kw = run (ma u st) (kBind (fun ws => M.bind (mk u) fun zs => M.bind (M.of (asDs ws)) fun ds => M.bind (M.of (asDs zs)) fun es => M.bind (M.chk (ds.length = n ∧ es.length = k ∧ (arr ds es).length = N)) fun _ => M.bind (mf (arr ds es)) fun d => M.pure (.val d)) kw) := run_bind _ _
@[simp] theorem run_eMeth (f : Str) (n : Nat) (tab : List (String × (List D → M D))) : run (eMeth f n tab mo ma u st) kw = run (mo u st) (kBind (fun w => M.bind (insOf w) fun q => M.bind (M.chk (q.2.2.lookup f = none)) fun _ => M.bind (M.of (tab.lookup q.2.1)) fun mf =>
  M.bind (ma u) fun ws => M.bind (M.of (asDs ws)) fun ds => M.bind (M.chk (ds.length = n)) fun _ => M.bind (mf (.ref q.1 :: ds)) fun d => M.pure (.val d)) kw) := run_bind _ _
@[simp] theorem run_eProp (c : String) (mf : List D → M D) : run (eProp c mf mo u st) kw = run (mo u st) (kBind (fun w => M.bind (insOf w) fun q => M.bind (M.chk (q.2.1 = c)) fun _ => M.bind (M.quiet (mf [.ref q.1])) fun d => M.pure (.val d)) kw) := run_bind _ _
@[simp] theorem run_eNewDD : run (eNewDD u st) kw = kw (.ok (.val (.ref st.length)) (st ++ [.ddi [] []])) := rfl
/-! exceptions -/
@[simp] theorem run_sRaise (c) : srun (sRaise c u st) ks = ks (.err c .non u st) := rfl
@[simp] theorem run_sBad : srun (sBad u st) ks = ks .bad := rfl
def kTry0 (k : SRes → Prop) : SRes → Prop
  | .err _ _ _ _ => k .bad
  | r => k r
@[simp] theorem kTry0_nx : kTry0 ks (.nx u st) = ks (.nx u st) := rfl
@[simp] theorem kTry0_rt (w) : kTry0 ks (.rt w st) = ks (.rt w st) := rfl
@[simp] theorem run_sTry0 (s : SM) : srun (sTry0 s u st) ks = srun (s u st) (kTry0 ks) := by unfold srun sTry0 kTry0; cases s u st <;> rfl
def kTry (i : Option Nat) (sub : String → Option Bool) (ms : SM) (k : SRes → Prop) : SRes → Prop
  | .err c x u st => srun (match sub c with
    | some true => if noExn u = true then sSuite i ms c x u st else .bad
    | some false => .err c x u st
    | none => .bad) k
  | r => k r
@[simp] theorem kTry_nx (i sub ms) : kTry i sub ms ks (.nx u st) = ks (.nx u st) := rfl
@[simp] theorem kTry_rt (i sub ms w) : kTry i sub ms ks (.rt w st) = ks (.rt w st) := rfl
@[simp] theorem kTry_bk (i sub ms) : kTry i sub ms ks (.bk u st) = ks (.bk u st) := rfl
@[simp] theorem kTry_ct (i sub ms) : kTry i sub ms ks (.ct u st) = ks (.ct u st) := rfl
@[simp] theorem kTry_err (i sub ms c x) : kTry i sub ms ks (.err c x u st) = srun (match sub c with
    | some true => if noExn u = true then sSuite i ms c x u st else .bad
    | some false => .err c x u st
    | none => .bad) ks := rfl
@[simp] theorem run_sTry (i sub) (mb ms : SM) : srun (sTry i sub mb ms u st) ks = srun (mb u st) (kTry i sub ms ks) := by unfold srun sTry kTry; cases mb u st <;> rfl
def kSuite (i : Option Nat) (k : SRes → Prop) : SRes → Prop
  | .nx u2 st2 => if noExn (match i with | some i => u2.set i none | none => u2) = true then k (.nx (match i with | some i => u2.set i none | none => u2) st2) else k .bad
  | .bk u2 st2 => if noExn (match i with | some i => u2.set i none | none => u2) = true then k (.bk (match i with | some i => u2.set i none | none => u2) st2) else k .bad
  | .ct u2 st2 => if noExn (match i with | some i => u2.set i none | none => u2) = true then k (.ct (match i with | some i => u2.set i none | none => u2) st2) else k .bad
  | .rt w st2 => k (.rt w st2)
  | _ => k .bad
@[simp] theorem kSuite_rt (i w) : kSuite i ks (.rt w st) = ks (.rt w st) := rfl
@[simp] theorem kSuite_nx (i) : kSuite i ks (.nx u st) = if noExn (match i with | some i => u.set i none | none => u) = true then ks (.nx (match i with | some i => u.set i none | none => u) st) else ks .bad := rfl
@[simp] theorem run_sSuite (i : Option Nat) (ms : SM) (c x) : srun (sSuite i ms c x u st) ks = srun (ms (match i with | some i => u.set i (some (.exn c x)) | none => u) st) (kSuite i ks) := by
  unfold srun sSuite kSuite
  dsimp only
  cases i <;> (dsimp only; generalize ms _ st = r; cases r <;> (try rfl) <;> (dsimp only; split <;> rfl))
def kIsE (tab : String → Option Bool) (st : Store) (k : Res W → Prop) : Option (Option W) → Prop
  | some (some (.exn c _)) => (match tab c with
    | some b => k (.ok (.val (.bl b)) st)
    | none => k .bad)
  | _ => k .bad
@[simp] theorem run_eIsE (i : Nat) (tab) : run (eIsE i tab u st) kw = kIsE tab st kw u[i]? := by
  unfold run eIsE kIsE
  cases u[i]? with
  | none => rfl
  | some o =>
    cases o with
    | none => rfl
    | some w =>
      cases w with
      | exn c x => dsimp only; cases tab c <;> rfl
      | _ => rfl
@[simp] theorem kIsE_exn (tab) (c x) : kIsE tab st kw (some (some (.exn c x))) = (match tab c with
    | some b => kw (.ok (.val (.bl b)) st)
    | none => kw .bad) := rfl
/-! dicts -/
@[simp] theorem run_sOwnD (i : Nat) : srun (sOwnD i u st) ks = ks (.nx (u.set i (some (.bod [] []))) st) := rfl
@[simp] theorem run_sOwnDD (i : Nat) : srun (sOwnDD i u st) ks = ks (.nx (u.set i (some (.bdd [] []))) st) := rfl
/-- the key of d[k] = e -/
def kPutK (i : Nat) (u : Sl3) (ds : List Key) (us : List D) (d : D) (k : SRes → Prop) : Res W → Prop
  | .ok (.val kd) st => (match kd.key with
    | some x => if ds.length < 1000000 then k (.nx (u.set i (some (.bod (putK3 ds us x d).1 (putK3 ds us x d).2))) st) else k .bad
    | none => k .bad)
  | .err c x st => k (.err c x u st)
  | _ => k .bad
def kSetK (i : Nat) (mi : EM) (u : Sl3) (ds : List Key) (us : List D) (k : SRes → Prop) : Res W → Prop
  | .ok (.val d) st => run (mi u st) (kPutK i u ds us d k)
  | .err c x st => k (.err c x u st)
  | _ => k .bad
@[simp] theorem kPutK_str (i ds us d) (z : Str) : kPutK i u ds us d ks (.ok (.val (.str z)) st) = if ds.length < 1000000 then ks (.nx (u.set i (some (.bod (putK3 ds us (.inr z) d).1 (putK3 ds us (.inr z) d).2))) st) else ks .bad := rfl
@[simp] theorem kSetK_ok (i mi ds us d) : kSetK i mi u ds us ks (.ok (.val d) st) = run (mi u st) (kPutK i u ds us d ks) := rfl
def kPutDD (i : Nat) (u : Sl3) (xs us : List D) (d : D) (k : SRes → Prop) : Res W → Prop
  | .ok (.val kd) st => (match kd.tk with
    | some x => if xs.length < 1000000 then k (.nx (u.set i (some (.bdd (ddPut xs us kd x d).1 (ddPut xs us kd x d).2))) st) else k .bad
    | none => k .bad)
  | .err c x st => k (.err c x u st)
  | _ => k .bad
def kSetDD (i : Nat) (mi : EM) (u : Sl3) (xs us : List D) (k : SRes → Prop) : Res W → Prop
  | .ok (.val d) st => run (mi u st) (kPutDD i u xs us d k)
  | .err c x st => k (.err c x u st)
  | _ => k .bad
@[simp] theorem kSetDD_ok (i mi xs us d) : kSetDD i mi u xs us ks (.ok (.val d) st) = run (mi u st) (kPutDD i u xs us d ks) := rfl
@[simp] theorem run_eInDD (neg : Bool) : run (eInDD neg a b u st) kw = run (a u st) (kBind (fun k => M.bind (b u) fun d => M.bind (M.of k.d) fun kd => M.bind (M.of kd.tk) fun x => M.bind (ddOf d) fun q => M.pure (.val (.bl (if neg then !ddHas q.1 x else ddHas q.1 x)))) kw) := run_bind _ _
@[simp] theorem run_eGetDD : run (eGetDD a b u st) kw = run (a u st) (kBind (fun d => M.bind (b u) fun k => M.bind (M.of k.d) fun kd => M.bind (M.of kd.tk) fun x => M.bind (ddOf d) fun q => M.bind (M.of (ddAt q.1 q.2 x)) fun y => M.pure (.val y)) kw) := run_bind _ _
@[simp] theorem run_ddOf_dd (xs us) (k) : run (ddOf (.val (.dd xs us)) st) k = k (.ok (xs, us) st) := rfl
@[simp] theorem run_ddOf_bdd (xs us) (k) : run (ddOf (.bdd xs us) st) k = k (.ok (xs, us) st) := rfl
def kDdi (st : Store) (k : Res (List D × List D) → Prop) : Option MO → Prop
  | some (.ddi ks us) => k (.ok (ks, us) st)
  | _ => k .bad
@[simp] theorem kDdi_ddi {k} (xs us) : kDdi st k (some (.ddi xs us)) = k (.ok (xs, us) st) := rfl
@[simp] theorem run_ddOf_ref (i : Nat) (k) : run (ddOf (.val (.ref i)) st) k = kDdi st k st[i]? := by
  unfold run ddOf kDdi
  dsimp only
  cases st[i]? with
  | none => rfl
  | some o => cases o <;> rfl
@[simp] theorem run_iKeysDD (xs us) (h : m u st = .ok (.val (.dd xs us)) st) : run (iKeysDD m u st) kf = kf (.ok xs st) := by unfold run iKeysDD M.bind; rw [h]; rfl
@[simp] theorem run_eDc {mi : FM} {c : TM} {own : List Nat} : run (eDc mi g c a b own u st) kw = run (mi u st) (kBind (fun ds => M.bind (dcL g c a b (wipe3 u own) ds [] []) fun q => M.pure (.val (.dd q.1 q.2))) kw) := run_bind _ _
@[simp] theorem dcL_nil {c : TM} {u0 : Sl3} (xs us) : dcL g c a b u0 [] xs us = M.pure (xs, us) := rfl
def kAug (i : Nat) (u : Sl3) (k : SRes → Prop) : Res W → Prop
  | .ok (.val d) st => k (.nx (u.set i (some (.val d))) st)
  | .err c x st => k (.err c x u st)
  | _ => k .bad
@[simp] theorem kAug_ok (i d) : kAug i u ks (.ok (.val d) st) = ks (.nx (u.set i (some (.val d))) st) := rfl
@[simp] theorem run_sSetDS (mi : EM) : srun (sSetDS mo mi m u st) ks = run (m u st) (kBind (fun w => M.bind (M.of w.d) fun d => M.bind (mo u) fun ow => M.bind (mi u) fun k => M.bind (M.of k.d) fun kd => M.bind (M.of kd.tk) fun x => M.bind (ddOf ow) fun q => M.bind (M.chk (q.1.length < 1000000)) fun _ => fun st => match ow with
    | .val (.ref j) => .ok () (st.set j (.ddi (ddPut q.1 q.2 kd x d).1 (ddPut q.1 q.2 kd x d).2))
    | _ => .bad) (kNx u ks)) := by
  rw [← run_bind]
  unfold srun sSetDS run kNx
  generalize (M.bind (m u) _) st = r
  cases r <;> rfl
end
/-! values -/
@[simp] theorem atI_l0 {α : Type} (xs : List α) : atI xs 0 = xs[0]? := atI_int xs (by decide)
@[simp] theorem atI_l1 {α : Type} (xs : List α) : atI xs 1 = xs[1]? := atI_int xs (by decide)
@[simp] theorem atI_l2 {α : Type} (xs : List α) : atI xs 2 = xs[2]? := atI_int xs (by decide)
@[simp] theorem atI_l3 {α : Type} (xs : List α) : atI xs 3 = xs[3]? := atI_int xs (by decide)
@[simp] theorem atI_l4 {α : Type} (xs : List α) : atI xs 4 = xs[4]? := atI_int xs (by decide)
@[simp] theorem atI_l5 {α : Type} (xs : List α) : atI xs 5 = xs[5]? := atI_int xs (by decide)
@[simp] theorem atI_l6 {α : Type} (xs : List α) : atI xs 6 = xs[6]? := atI_int xs (by decide)
@[simp] theorem atI_l7 {α : Type} (xs : List α) : atI xs 7 = xs[7]? := atI_int xs (by decide)
@[simp] theorem atI_l8 {α : Type} (xs : List α) : atI xs 8 = xs[8]? := atI_int xs (by decide)
@[simp] theorem atI_l9 {α : Type} (xs : List α) : atI xs 9 = xs[9]? := atI_int xs (by decide)
@[simp] theorem atI_l10 {α : Type} (xs : List α) : atI xs 10 = xs[10]? := atI_int xs (by decide)
@[simp] theorem atI_l11 {α : Type} (xs : List α) : atI xs 11 = xs[11]? := atI_int xs (by decide)
@[simp] theorem atI_l12 {α : Type} (xs : List α) : atI xs 12 = xs[12]? := atI_int xs (by decide)
@[simp] theorem atI_l13 {α : Type} (xs : List α) : atI xs 13 = xs[13]? := atI_int xs (by decide)
@[simp] theorem atI_l14 {α : Type} (xs : List α) : atI xs 14 = xs[14]? := atI_int xs (by decide)
@[simp] theorem atI_l15 {α : Type} (xs : List α) : atI xs 15 = xs[15]? := atI_int xs (by decide)
@[simp] theorem isi2F_tup (xs : List D) (T) : isi2F [.val (.tup xs), .val (.ty T)] = isiF [.val (.tup xs), .val (.ty T)] := rfl
@[simp] theorem isi2F_ctup (xs : List D) (T) : isi2F [.val (.ctup xs), .val (.ty T)] = isiF [.val (.ctup xs), .val (.ty T)] := rfl
@[simp] theorem isi2F_lst (xs : List D) (T) : isi2F [.val (.lst xs), .val (.ty T)] = isiF [.val (.lst xs), .val (.ty T)] := rfl
@[simp] theorem isi2F_str (x : Str) (T) : isi2F [.val (.str x), .val (.ty T)] = isiF [.val (.str x), .val (.ty T)] := rfl
theorem kit_dict : kitB "dict" "dict" = some true := by decide +kernel
theorem kit_list : kitB "list" "list" = some true := by decide +kernel
theorem kit_str : kitB "str" "str" = some true := by decide +kernel
theorem kit_tup : kitB "tuple" "tuple" = some true := by decide +kernel
@[simp] theorem isi2F_dd (xs us : List D) : isi2F [.val (.dd xs us), .val (.ty "dict")] = some (.val (.bl true)) := by unfold isi2F; simp [kit_dict]
@[simp] theorem isiF_lst (xs : List D) : isiF [.val (.lst xs), .val (.ty "list")] = some (.val (.bl true)) := by unfold isiF; simp [D.tyn, kit_list]
@[simp] theorem isiF_str (x : Str) : isiF [.val (.str x), .val (.ty "str")] = some (.val (.bl true)) := by unfold isiF; simp [D.tyn, kit_str]
@[simp] theorem isiF_ctup (xs : List D) : isiF [.val (.ctup xs), .val (.ty "tuple")] = some (.val (.bl true)) := by unfold isiF; simp [D.tyn, kit_tup]
@[simp] theorem dgF_str (xs : List Key) (us : List D) (z : Str) : dgF (.val (.dict xs us)) (.val (.str z)) = (atK xs us (.inr z)).map .val := by
  show ((some (atK xs us (.inr z) : Option D)).bind fun o => o.map W.val) = _
  rfl
@[simp] theorem dgF_bod (xs : List Key) (us : List D) (z : Str) : dgF (.bod xs us) (.val (.str z)) = (atK xs us (.inr z)).map .val := by
  show ((some (atK xs us (.inr z) : Option D)).bind fun o => o.map W.val) = _
  rfl
theorem lists_map : ∀ xss : List (List D), D.lists (xss.map .lst) = some xss
  | [] => rfl
  | xs :: xss => by rw [List.map_cons, D.lists, lists_map xss]; rfl
@[simp] theorem sumLF_lists (xss : List (List D)) : sumLF [.val (.lst (xss.map .lst)), .val (.lst [])] = if xss.flatten.length ≤ 1000000 then some (.val (.lst xss.flatten)) else none := by
  show (D.lists (xss.map .lst)).bind _ = _
  rw [lists_map]; rfl
end M3
namespace M3
open PySem PySem.Spec PyProof.Rows L2
/-! ### dict displays -/
abbrev QM := Sl3 → M (List (D × D))
inductive RepPs (K : KW) (F : Hp) (io : Io) : List (D × D) → List (V × V) → Prop where
  | nil : RepPs K F io [] []
  | cons {k v x y ps qs} : Rep K F io k x → Rep K F io v y → RepPs K F io ps qs → RepPs K F io ((k, v) :: ps) ((x, y) :: qs)
theorem RepPs.length {K : KW} {F : Hp} {io : Io} : ∀ {ps qs}, RepPs K F io ps qs → ps.length = qs.length
  | _, _, .nil => rfl
  | _, _, .cons _ _ t => congrArg Nat.succ (RepPs.length t)
/-! ### .. with keys that are tuples -/
abbrev BX := List (NestedKey × Addr × V)
abbrev PX : BX → DkX → Prop := Paired fun b x => x.1 = b.1 ∧ x.2.1 = b.2.1 ∧ RelV b.2.2 x.2.2
theorem PX.length : ∀ {bs : BX} {xs : DkX}, PX bs xs → bs.length = xs.length
  | _, _, .nil => rfl
  | _, _, .cons _ t => congrArg Nat.succ (PX.length t)
def ddAll : List (D × D) → List D → List D → Option (List D × List D)
  | [], ks, us => some (ks, us)
  | (k, v) :: r, ks, us => k.tk.bind fun x => ddAll r (ddPut ks us k x v).1 (ddPut ks us k x v).2
end M3
namespace M3
open PySem PySem.Spec PyProof.Rows L2
/-! ### list comprehensions with two fors -/
/-! ### x = {k: v, ..}, x a dict of one's own -/
def sOwnDsD (i : Nat) (q : QM) : SM := fun u st => match q u st with
  | .ok ps st' => if ps.length ≤ 15 then match ddAll ps [] [] with
    | some r => .nx (u.set i (some (.bdd r.1 r.2))) st'
    | none => .bad
    else .bad
  | _ => .bad
/-! ### k in d as a test, d a dict with tuple keys -/
end M3
namespace M3
open PySem PySem.Spec PyProof.Rows L2
/-! ### sorted(ints), t.index(text) -/
section
variable {P : P3} {pos : Pos}
/-- t.index(x), t a tuple of texts -/
def idxF (xs : List D) (w : W) : Option W := match w with
  | .val (.str x) => (D.strs xs).bind fun ys => (ys.findIdx? fun y => decide (y = x)).map fun j => .val (.int (j : Int))
  | _ => none
end
/-! ### d.get(k, x), d with tuple keys -/
def eGetD2 (a b c : EM) : EM := fun u => M.bind (a u) fun d => M.bind (ddOf d) fun _ => M.bind (b u) fun k => M.bind (M.of k.d) fun kd => M.bind (M.of kd.tk) fun x => M.bind (c u) fun z => M.bind (M.of z.d) fun zd => M.bind (ddOf d) fun q => M.pure (.val ((ddAt q.1 q.2 x).getD zd))
end M3
namespace M3
open PySem PySem.Spec PyProof.Rows L2
section
variable {a b c : EM} {u : Sl3} {st : Store} {kw} {ks}
@[simp] theorem run_eGetD2 : run (eGetD2 a b c u st) kw = run (a u st) (kBind (fun d => M.bind (ddOf d) fun _ => M.bind (b u) fun k => M.bind (M.of k.d) fun kd => M.bind (M.of kd.tk) fun x => M.bind (c u) fun z => M.bind (M.of z.d) fun zd => M.bind (ddOf d) fun q => M.pure (.val ((ddAt q.1 q.2 x).getD zd))) kw) := run_bind _ _
end
end M3
/-! a list of one's own, lent for a call -/
namespace M3
open PySem PySem.Spec PyProof.Rows L2
def W.arg : W → Option W
  | .val d => some (.val d)
  | .len xs => some (.len xs)
  | _ => none
def argsW : List W → Option (List W)
  | [] => some []
  | w :: ws => match w.arg, argsW ws with
    | some a, some as => some (a :: as)
    | _, _ => none
def spMW (G : G3) (n : Nat) (m : List W → M D) : Sp := fun vs H Q E => vs.length = n ∧ ∃ (B : Addr → Prop) (s : S3) (st : Store) (ws : List W), s.H = H ∧ Wd G B st s ∧ RepWs G none B s ws vs ∧ (∀ a ∈ ws, a.own = false ∧ ∀ c x, a ≠ .exn c x) ∧
  Post G B (fun s d v => Rep G.R s.F s.io d v) E s Q (m ws st)
theorem RepWs.get {G : G3} {X : Hex} {B : Addr → Prop} {s : S3} : ∀ {ws : List W} {vs : List V} {i : Nat} {w : W}, RepWs G X B s ws vs → ws[i]? = some w → ∃ v, vs[i]? = some v ∧ RepW G X B s w v
  | _, _, _, _, .nil, e => by simp at e
  | _, _, 0, _, .cons r _, e => by simp at e; subst e; exact ⟨_, rfl, r⟩
  | _, _, i + 1, _, .cons _ t, e => by
    obtain ⟨v, h1, h2⟩ := RepWs.get (i := i) t (by simpa using e)
    exact ⟨v, by simpa using h1, h2⟩
theorem RepW.any {G : G3} {X X' : Hex} {B : Addr → Prop} {s : S3} {w : W} {v : V} (r : RepW G X B s w v) (h : ∀ c x, w ≠ .exn c x) : RepW G X' B s w v := by
  cases w with
  | exn c x => exact absurd rfl (h c x)
  | _ => exact r
theorem RepWs.any {G : G3} {X X' : Hex} {B : Addr → Prop} {s : S3} : ∀ {ws : List W} {vs : List V}, RepWs G X B s ws vs → (∀ a ∈ ws, a.own = false ∧ ∀ c x, a ≠ .exn c x) → RepWs G X' B s ws vs
  | _, _, .nil, _ => .nil
  | _, _, .cons r t, h => .cons (r.any (h _ List.mem_cons_self).2) (RepWs.any t fun a ha => h a (List.mem_cons_of_mem _ ha))
structure CalW (Pg : Program) (w : World) (K : PySem.W.Frag) (mg : Str → Option Value) (base : Heap) (G : G3) (k : Nat) (x : Str) (n : Nat) (m : List W → M D) : Prop where
  ex : ∃ f fd ps, mg x = some (.ref f) ∧ PySem.W.keepIn K (.ref f) = true ∧ Binds K fd ps [] ∧ ps.length = n ∧ FnOk Pg w K mg base (L2.CX Pg w) k f fd ps (spMW G n m)
def eCallW (n : Nat) (m : List W → M D) (ma : AM) : EM := fun u => M.bind (ma u) fun ws => M.bind (M.of (argsW ws)) fun as => M.bind (M.chk (as.length = n)) fun _ => M.bind (m as) fun d => M.pure (.val d)
/-! running -/
section
variable {k : Res W → Prop} {kd : Res D → Prop} {st : Store} {u : Sl3} {m : EM} {ma : AM}
@[simp] theorem run_eCallW (n : Nat) (f : List W → M D) : run (eCallW n f ma u st) k = run (ma u st) (kBind (fun ws => M.bind (M.of (argsW ws)) fun as => M.bind (M.chk (as.length = n)) fun _ => M.bind (f as) fun d => M.pure (.val d)) k) := run_bind _ _
def kLend (k : Res W → Prop) : Res W → Prop
  | .ok (.val d) st' => k (.ok (.val d) st')
  | _ => k .bad
@[simp] theorem kLend_ok (d : D) : kLend k (.ok (.val d) st) = k (.ok (.val d) st) := rfl
@[simp] theorem lstCF_len (xs : List D) : lstCF [.len xs] = some xs := rfl
@[simp] theorem lenF_len (xs : List D) : lenF [.len xs] = some (.val (.int xs.length)) := rfl
@[simp] theorem ixF_len (xs : List D) (i : Int) : ixF (.len xs) (.val (.int i)) = (atI xs i).map .val := rfl
@[simp] theorem argsW_nil : argsW [] = some [] := rfl
@[simp] theorem argsW_val (d : D) (ws : List W) : argsW (.val d :: ws) = (argsW ws).map (.val d :: ·) := by
  rw [argsW]; cases argsW ws <;> rfl
@[simp] theorem argsW_len (xs : List D) (ws : List W) : argsW (.len xs :: ws) = (argsW ws).map (.len xs :: ·) := by
  rw [argsW]; cases argsW ws <;> rfl
end
end M3
/-! lists that are shared: objects of the store; x.count(y) on lists -/
namespace M3
open PySem PySem.Spec PyProof.Rows L2
/-! ### x.count(y), x a list -/
def cntL (xs : List D) (w : W) : Option W := w.rd.bind fun d => match D.pys xs, d.py with
  | some ps, some p => if SeqAt.shaped p = true ∧ SeqAt.shaped (.list ps) = true then some (.val (.int ((ps.countP fun z => PyData.eqv z p : Nat) : Int))) else none
  | _, _ => none
def eCntL (a b : EM) : EM := fun u => M.bind (a u) fun x => M.bind (M.of x.ls) fun xs => M.bind (b u) fun y => M.bind (M.of x.ls) fun _ => M.of (cntL xs y)
@[simp] theorem run_eCntL {a b : EM} {u : Sl3} {st : Store} {kw : Res W → Prop} : run (eCntL a b u st) kw = run (a u st) (kBind (fun x => M.bind (M.of x.ls) fun xs => M.bind (b u) fun y => M.bind (M.of x.ls) fun _ => M.of (cntL xs y)) kw) := run_bind _ _
/-! ### a list of one's own becomes an object of the store -/
/-! ### what is done with a shared list -/
def lstOf (w : W) : M (Nat × List D) := fun st => match w with
  | .val (.ref k) => match st[k]? with
    | some (.lst xs) => .ok (k, xs) st
    | _ => .bad
  | _ => .bad
/-- len(x) -/
def eLenS (m : EM) : EM := fun u => M.bind (m u) fun w => M.bind (lstOf w) fun q => M.pure (.val (.int (q.2.length : Int)))
/-- x.pop(0) -/
def ePop0S (m : EM) : EM := fun u => M.bind (m u) fun w => M.bind (lstOf w) fun q => fun st => match q.2 with
  | d :: ds => .ok (.val d) (st.set q.1 (.lst ds))
  | [] => .bad
/-- x.append(y) -/
def eAppS (mo m : EM) : EM := fun u => M.bind (mo u) fun w => M.bind (lstOf w) fun _ => M.bind (m u) fun y => M.bind (M.of y.d) fun d => M.bind (lstOf w) fun q => M.bind (M.chk (q.2.length < 1000000)) fun _ => fun st => .ok (.val .non) (st.set q.1 (.lst (q.2 ++ [d])))
/-! ### [..] * n -/
def mulLF : W → W → Option W
  | .val (.lst xs), .val (.int n) => if 0 ≤ n ∧ n ≤ 1000 ∧ xs.length ≤ 1000 then some (.val (.lst (List.replicate n.toNat xs).flatten)) else none
  | _, _ => none
@[simp] theorem mulLF_lst (xs : List D) (n : Int) : mulLF (.val (.lst xs)) (.val (.int n)) = if 0 ≤ n ∧ n ≤ 1000 ∧ xs.length ≤ 1000 then some (.val (.lst (List.replicate n.toNat xs).flatten)) else none := rfl
/-! ### f(..), the last values are f's defaults -/
structure CalD (Pg : Program) (w : World) (K : PySem.W.Frag) (mg : Str → Option Value) (base : Heap) (G : G3) (k : Nat) (x : Str) (n : Nat) (dd : List D) (mf : List D → M D) : Prop where
  ex : ∃ f fd ps dvs dsv, mg x = some (.ref f) ∧ PySem.W.keepIn K (.ref f) = true ∧ Binds K fd ps dsv ∧ Vals dvs dsv ∧ (∀ F io, RepL G.R F io dd dvs) ∧ FnOk Pg w K mg base (L2.CX Pg w) k f fd ps (spM G (n + dd.length) mf)
def eCallD (n : Nat) (dd : List D) (mf : List D → M D) (ma : AM) : EM := fun u => M.bind (ma u) fun ws => M.bind (M.of (asDs ws)) fun ds => M.bind (M.chk (ds.length = n)) fun _ => M.bind (mf (ds ++ dd)) fun d => M.pure (.val d)
@[simp] theorem run_eCallD {n : Nat} {dd : List D} {mf : List D → M D} {ma : AM} {u : Sl3} {st : Store} {kw : Res W → Prop} : run (eCallD n dd mf ma u st) kw = run (ma u st) (kBind (fun ws => M.bind (M.of (asDs ws)) fun ds => M.bind (M.chk (ds.length = n)) fun _ => M.bind (mf (ds ++ dd)) fun d => M.pure (.val d)) kw) := run_bind _ _
/-! running -/
section
variable {α : Type} {kw : Res W → Prop} {kf : Res (List D) → Prop} {ks : SRes → Prop} {st : Store} {u : Sl3} {mo m : EM} {fm : FM}
def kNewL (k : Res W → Prop) : Res (List D) → Prop
  | .ok xs st => k (.ok (.val (.ref st.length)) (st ++ [.lst xs]))
  | .err c x st => k (.err c x st)
  | .bad => k .bad
@[simp] theorem kNewL_ok (xs) : kNewL kw (.ok xs st) = kw (.ok (.val (.ref st.length)) (st ++ [.lst xs])) := rfl
@[simp] theorem run_eNewL : run (eNewL fm u st) kw = run (fm u st) (kNewL kw) := by
  unfold run eNewL kNewL
  cases fm u st <;> rfl
def kLst (st : Store) (k : Res (Nat × List D) → Prop) (i : Nat) : Option MO → Prop
  | some (.lst xs) => k (.ok (i, xs) st)
  | _ => k .bad
@[simp] theorem kLst_lst {k} (i xs) : kLst st k i (some (.lst xs)) = k (.ok (i, xs) st) := rfl
@[simp] theorem run_lstOf (i : Nat) (k) : run (lstOf (.val (.ref i)) st) k = kLst st k i st[i]? := by
  unfold run lstOf kLst
  dsimp only
  cases st[i]? with
  | none => rfl
  | some o => cases o <;> rfl
@[simp] theorem run_eLenS : run (eLenS m u st) kw = run (m u st) (kBind (fun w => M.bind (lstOf w) fun q => M.pure (.val (.int (q.2.length : Int)))) kw) := run_bind _ _
@[simp] theorem run_ePop0S : run (ePop0S m u st) kw = run (m u st) (kBind (fun w => M.bind (lstOf w) fun q => fun st => match q.2 with
  | d :: ds => .ok (.val d) (st.set q.1 (.lst ds))
  | [] => .bad) kw) := run_bind _ _
@[simp] theorem run_eAppS : run (eAppS mo m u st) kw = run (mo u st) (kBind (fun w => M.bind (lstOf w) fun _ => M.bind (m u) fun y => M.bind (M.of y.d) fun d => M.bind (lstOf w) fun q => M.bind (M.chk (q.2.length < 1000000)) fun _ => fun st => .ok (.val .non) (st.set q.1 (.lst (q.2 ++ [d])))) kw) := run_bind _ _
end
end M3
namespace M3
open PySem PySem.Spec PyProof.Rows L2 NdefX
/-! ### what is asked of an own exception class, and of its __init__ -/
structure SupF (K : PySem.W.Frag) (mg : Str → Option Value) (Pg : Program) (f D : Addr) (cc : Addr) (F : NF) (ps : List Str) (N : List Str) : Prop where
  fn : ∃ oc od doc pm ct osl, K.lookup f = some ⟨oc, od, .func (F.fd doc pm ct), osl⟩
  cd : PySem.W.codeIn K (.ref F.c) F.qual = true
  code : ∃ c d vs sl file t, K.lookup F.c = some ⟨c, d, .fields vs, sl⟩ ∧ vs[2]? = some (.str file t) ∧ ((Pg.main.file : Str) == file) = true
  cl : F.cl = [(("__class__" : Str), cc)]
  cell : ∃ c d sl, K.lookup cc = some ⟨c, d, .cell (some (.ref D)), sl⟩
  cls : ∃ o cd, K.lookup D = some o ∧ o.data = .cls cd
  nosup : mg ("super" : Str) = none
  top : (Pg.main.scope.names.lookup ("super" : Str)).isSome = false
  any : PySem.W.nsIn K cStatics "thirdparty.any" = some none
  sup : F.scope.names.lookup ("super" : Str) = some NameKind.globalImplicit
  dcl : F.scope.names.lookup ("__class__" : Str) = some NameKind.free
  ar : ∃ a, (F.params.posonlyargs ++ F.params.args).head? = some a ∧ F.scope.names.lookup a.arg = some NameKind.local ∧ N[0]? = some a.arg
  sc : NScope N ps [("__class__" : Str)] F.scope
/-- an exception class C that has the __init__ of the class D -/
structure SupC (K : PySem.W.Frag) (C D : Addr) : Prop where
  ox : OexC K C
  mr : PySem.W.mroIn K C (.ref D) = some true
  mv : PySem.W.mroIn K C (.type "ValueError") = some true
  si : PySem.W.ks_superIn K C D "__init__" = some (some (.builtin "ValueError.__init__"))
section
variable {X : Cx} {pins : List (Addr × Obj)} {σ : L2.St} {H : Hp} {s : Shared} {f a C D cc : Addr} {F : NF} {ps N : List Str} {fL : Addr}
/-- super(), in such a body -/
theorem sup_node {whole : Sem Value} {p0 p1 : Pos} {Q : Value → Shared → Prop} {E : Value → Shared → Prop} {body : List Stmt} (S : SupF X.K X.mg X.prog f D cc F ps N) (hmr : PySem.W.mroIn X.K C (.ref D) = some true) {oa : Obj} (hE : X.env = envF F f fL) (hN : X.N = N) (I : Inv X pins σ H s) (ho : s.heap.get? a = some oa) (hoc : oa.cls = .ref C) (hon : ∀ c, oa.data ≠ .cls c) (h0 : σ[0]? = some (some (.ref a)))
    (h : ∀ so h', Inv X pins σ H { s with heap := h' } → h'.get? so = some (PySem.W.ks_superObj D a C) → Q (.ref so) { s with heap := h' }) :
    _root_.PySem.wpAt (model X.prog X.w) X.A (.func body X.env) (attributeBase (.Call (.Name "super" p0) [] [] p1) "__init__" X.env whole) Q E s := by
  obtain ⟨oc, od, doc, pm, ct, osl, hf⟩ := S.fn
  obtain ⟨c1, d1, vs, sl1, file, tf, hcode, hvs, hfile⟩ := S.code
  obtain ⟨ar, har, hloc, har0⟩ := S.ar
  obtain ⟨oD, cdD, hD, hDd⟩ := S.cls
  have X0 := I.kIn
  have ksup : X.env.kindOf "super" = some .globalImplicit := by rw [hE]; exact S.sup
  have kcls : X.env.kindOf "__class__" = some .free := by rw [hE]; exact S.dcl
  refine PySem.ks_wpAt_super_base (f := f) (cc := F.c) ksup kcls (by decide) (by rw [hE]) (X0 _ _ hf) rfl har (by rw [hE]) (X0 _ _ hcode) rfl hvs hfile S.top ?_
  obtain ⟨mb, m1, m2⟩ := I.mod.blt
  refine PySem.W.ks_loadName_global I.ok.kind ksup (PySem.Calls.loadGlobal_builtin (by rw [I.ok.glob]; exact I.mod.glob.keeps I.bk) S.nosup (by rw [I.ok.blt]; exact m1.keeps I.bk) ((m2 "super" (by decide)).trans (show bootBuiltins "super" = some (.type "super") by decide +kernel)) ⟨rfl, ?_⟩)
  obtain ⟨c2, d2, sl2, hcell⟩ := S.cell
  refine wpAny_loadName_free I.ok.kind kcls (c := cc) (by rw [hE]; show F.cl.lookup _ = _; rw [S.cl]; rfl) ⟨_, X0 _ _ hcell, rfl⟩ ?_
  obtain ⟨m, hm, hl⟩ := I.loc
  obtain ⟨u, ru, lk⟩ := hl 0 ar.arg (.ref a) (by rw [hN]; exact har0) h0 (.inl (by rw [hE]; exact hloc))
  obtain rfl : u = Value.ref a := ru
  have hv : m ar.arg = some (.ref a) := by
    rcases lk with ⟨_, z⟩ | ⟨z, _⟩
    · exact z
    · have z' : F.scope.names.lookup ar.arg = some .cell ∨ F.scope.names.lookup ar.arg = some .free := by
        have z2 := z
        rw [hE] at z2
        exact z2
      rw [hloc] at z'
      rcases z' with z' | z' <;> cases z'
  refine wpAny_loadName_local I.ok.kind (by rw [hE]; exact hloc) hm hv ?_
  obtain ⟨hh, g, d, t, os⟩ := s
  refine PySem.ks_wpAny_isType_cls (X0 _ _ hD) hDd ⟨rfl, ?_⟩
  refine PySem.ks_wpAny_call_super (X0 _ _ hD) hDd ho hoc hon (PySem.W.looks_mroIn X0 hmr) (fun h' z k => ?_)
  exact h _ h' (I.kept k) z
end
/-! ### its promise -/
def spX (K : PySem.W.Frag) (fld : Str) (D : Addr) : Sp := fun vs H Q _ => ∃ (a C : Addr) (v : V), vs = [.ref a, v] ∧ SupC K C D ∧ PySem.W.findIn K (.ref C) fld = some none ∧ H a = some (exo a C none) ∧ ∀ dx, H dx = none → dx ≠ a → Q .non (upd (upd H dx (exd dx [(fld, v)])) a (exo a C (some dx)))
section
variable {Pg : Program} {w : World} {K : PySem.W.Frag} {mg : Str → Option Value} {base : Heap} {CX : CXT} {f D cc : Addr} {F : NF} {ps N : List Str} {par fld : Str} {k : Nat} {fd : FuncData} {oc : Value} {od : Option Addr} {osl : Array (Option Value)} {doc pm ct : Value}
theorem cellsAt_of {A : Around} {outer : List Env} {s : Shared} {H : Hp} (S : SupF K mg Pg f D cc F ps N) (e0 : Env0 Pg w K mg base A outer s H) : CellsAt F.cl [("__class__" : Str)] [none] s.heap H := by
  obtain ⟨c2, d2, sl2, hcell⟩ := S.cell
  have hb := e0.mod.kin _ _ hcell
  obtain ⟨k1, k2⟩ := e0.bs _ _ hb
  have look : ∀ {y : Str} {c : Addr}, F.cl.lookup y = some c → y = "__class__" ∧ c = cc := fun {y c} z => by
    rw [S.cl, List.lookup_cons] at z
    split at z
    · rename_i q
      exact ⟨by simpa using q, (Option.some.inj z).symm⟩
    · cases z
  refine ⟨rfl, fun y c z => ?_, fun x y c z1 z2 => ?_, fun i y z => ?_⟩
  · obtain ⟨_, rfl⟩ := look z
    exact ⟨k2, _, _, k1, rfl⟩
  · rw [(look z1).1, (look z2).1]
  · refine ⟨cc, ?_, fun v z2 => ?_⟩
    · have hy : y = "__class__" := by
        have := List.mem_of_getElem? z
        simpa using this
      rw [S.cl, hy]
      rfl
    · cases i with
      | zero => cases z2
      | succ i => simp at z2
end
end M3
namespace M3
open PySem PySem.Spec PyProof.Rows L2 NdefX
/-! ### raise X(e), X an own class with an __init__ that keeps its argument -/
structure XcOk (Pg : Program) (w : World) (K : PySem.W.Frag) (mg : Str → Option Value) (base : Heap) (G : G3) (k : Nat) (x : Str) (c : String) : Prop where
  ex : ∃ (C D f : Addr) (fd : FuncData) (ps : List Str) (fld : Str), G.cls c = some C ∧ G.fld c = some fld ∧ mg x = some (.ref C) ∧ SupC K C D ∧ PySem.W.findIn K (.ref C) fld = some none ∧
    PySem.W.findIn K (.ref C) "__init__" = some (some (.ref f)) ∧ PySem.W.typeIn K (.ref f) = some (.type "function") ∧ Binds K fd ps [] ∧ FnOk Pg w K mg base (L2.CX Pg w) k f fd ps (spX K fld D)
def sRaiseX (c : String) (ma : AM) : SM := fun u st => match ma u st with
  | .ok ws st' => match asDs ws with
    | some [d] => .err c d u st'
    | _ => .bad
  | _ => .bad
end M3
namespace M3
open PySem
/-! rows that run what M3Xc brings -/
section
variable {u : Sl3} {st : Store} {ks : SRes → Prop} {kw : Res W → Prop}
def kRaiseX (c : String) (u : Sl3) (k : SRes → Prop) : Res (List W) → Prop
  | .ok ws st' => (match asDs ws with
    | some [d] => k (.err c d u st')
    | _ => k .bad)
  | _ => k .bad
@[simp] theorem run_sRaiseX (c) (ma : AM) : srun (sRaiseX c ma u st) ks = M3.run (ma u st) (kRaiseX c u ks) := by
  unfold srun sRaiseX M3.run kRaiseX
  cases ma u st with
  | ok ws st' =>
    dsimp only
    cases asDs ws with
    | none => rfl
    | some ds =>
      match ds with
      | [] => rfl
      | [d] => rfl
      | _ :: _ :: _ => rfl
  | err _ _ _ => rfl
  | bad => rfl
@[simp] theorem kRaiseX_ok (c) (d : D) : kRaiseX c u ks (.ok [.val d] st) = ks (.err c d u st) := rfl
def kXf (cs : List String) (st : Store) (k : Res W → Prop) : Option (Option W) → Prop
  | some (some (.exn c x)) => if c ∈ cs then k (.ok (.val x) st) else k .bad
  | _ => k .bad
@[simp] theorem run_eXf (i : Nat) (cs) : M3.run (eXf i cs u st) kw = kXf cs st kw u[i]? := by
  unfold M3.run eXf kXf
  cases u[i]? with
  | none => rfl
  | some o =>
    cases o with
    | none => rfl
    | some w =>
      cases w with
      | exn c x => dsimp only; split <;> rfl
      | _ => rfl
@[simp] theorem kXf_exn (cs) (c x) : kXf cs st kw (some (some (.exn c x))) = if c ∈ cs then kw (.ok (.val x) st) else kw .bad := rfl
def kOwnDsD (i : Nat) (u : Sl3) (k : SRes → Prop) : Res (List (D × D)) → Prop
  | .ok ps st => if ps.length ≤ 15 then (match ddAll ps [] [] with
    | some r => k (.nx (u.set i (some (.bdd r.1 r.2))) st)
    | none => k .bad) else k .bad
  | _ => k .bad
@[simp] theorem run_sOwnDsD (i : Nat) (q : QM) : srun (sOwnDsD i q u st) ks = M3.run (q u st) (kOwnDsD i u ks) := by
  unfold srun sOwnDsD M3.run kOwnDsD
  cases q u st with
  | ok ps st' =>
    dsimp only
    split
    · cases ddAll ps [] [] <;> rfl
    · rfl
  | _ => rfl
end
end M3
namespace M3
open PySem PySem.Spec PyProof.Rows L2 NdefX
/-! ### super().__init__() of an instance, where object's own __init__ is next -/
theorem kxs_object : PySem.W.KxsFacts "object" "object.__init__" := ⟨by show builtinType _ = _; rw [builtinType_eq_fast]; kernel_rfl, by first | kernel_rfl | rfl⟩
theorem check_bound_oi {M : Model} {A : Around} {E : Value → Shared → Prop} {s : Shared} {x : Value} {Q : Unit → Shared → Prop} (q : Q () s) : wpAny M A (checkBoundCall "object.__init__" ⟨[x], []⟩) Q E s := by
  unfold checkBoundCall
  cases hsig : Manifest.signature? "object.__init__" with
  | none => exact wpAny_pure q
  | some sig =>
    have ha := PySem.W.oi_args x
    simp only [argsOk, hsig] at ha
    simp only [PySem.W.oi_kind]
    have h2 : Bind.checkArgs "object.__init__" sig ⟨[x], []⟩ = pure () := ha
    rw [if_pos (by decide), h2]
    exact wpAny_pure q
def SupE0 (p0 p1 p2 p4 : Pos) : Prop := ∀ env : Env, ∃ pl, eval (.Call (.Attribute (.Call (.Name "super" p0) [] [] p1) "__init__" p2) [] [] p4) env = (do
  let ov ← attributeBase (.Call (.Name "super" p0) [] [] p1) "__init__" env (eval (.Call (.Name "super" p0) [] [] p1) env)
  standAt p2.atName
  let (f, first) ← holding [ov] (getMethod ov "__init__" pl)
  callWith p4 f first (backTo p4 (starEach [] env)) [])
/-- what is asked of the instance's class -/
structure SupI (K : PySem.W.Frag) (C D : Addr) : Prop where
  cl : (PySem.W.clsIn K C).isSome = true
  mr : PySem.W.mroIn K C (.ref D) = some true
  mo : PySem.W.mroIn K C (.type "object") = some true
  si : PySem.W.ks_superIn K C D "__init__" = some (some (.builtin "object.__init__"))
section
variable {X : Cx} {pins : List (Addr × Obj)} {σ : L2.St} {H : Hp} {s : Shared} {f a C D cc dx : Addr} {F : NF} {ps N : List Str} {fL : Addr} {fs : List (Str × V)}
theorem sup_ins {p0 p1 p2 p4 p5 : Pos} {body : List Stmt} {Q : Flow → Shared → Prop} {E : Value → Shared → Prop} (hm0 : SupE0 p0 p1 p2 p4) (S : SupF X.K X.mg X.prog f D cc F ps N) (T : SupI X.K C D) (hE : X.env = envF F f fL) (hN : X.N = N) (I : Inv X pins σ H s) (e : H a = some (.ins C dx fs)) (h0 : σ[0]? = some (some (.ref a)))
    (h : ∀ s', Inv X pins σ H s' → Q .next s') :
    _root_.PySem.wpAt (model X.prog X.w) X.A (.func body X.env) (exec (.Expr (.Call (.Attribute (.Call (.Name "super" p0) [] [] p1) "__init__" p2) [] [] p4) p5) X.env) Q E s := by
  have nint : interactive X.env = false := by
    unfold interactive
    rw [I.ok.kind]
    rfl
  obtain ⟨pl, he⟩ := hm0 X.env
  obtain ⟨mA, O, _⟩ := ins_get I.hok e
  refine PySem.ks_wpAt_Expr_any (PySem.ks_wpAt_MethodCall (sup_node S T.mr hE hN I O.obj rfl (fun c z => by cases z) h0 fun so h1 I1 hso => ?_) he) nint rfl
  obtain ⟨cd, hcl⟩ := Option.isSome_iff_exists.mp T.cl
  have hm := T.si
  unfold PySem.W.ks_superIn at hm
  rw [hcl] at hm
  obtain ⟨mB, O1, _⟩ := ins_get I1.hok e
  have hCK := I1.kIn
  have hKC : ∃ o, X.K.lookup C = some o := by
    have z := hcl
    unfold PySem.W.clsIn at z
    split at z
    · rename_i ho; exact ⟨_, ho⟩
    · cases z
  have aC : a ≠ C := fun z => by
    obtain ⟨o, hK⟩ := hKC
    obtain ⟨_, n⟩ := I1.bs C _ (I1.ok.mod.kin _ _ hK)
    rw [← z, e] at n
    cases n
  obtain ⟨hh, g, d, t, os⟩ := s
  have LT : PySem.W.Looks (model X.prog X.w) h1 (typeOf (.ref a)) (.ref C) := fun A Q E s k q => wpAny_typeOf_ref (k _ _ O1.obj) q
  have hI : PySem.W.Looks (model X.prog X.w) h1 (isInstance (.ref a) (.type "object")) true := LT.andThen (PySem.W.looks_mroIn hCK T.mo)
  refine PySem.W.kxs_getMethod kxs_object hso (PySem.W.looks_opaque hCK S.any) (l₀ := cd.mro) (fun A Q E s k q => wpAny_bind ((PySem.W.looks_clsIn hCK hcl) A _ E s k (wpAny_pure q))) rfl hCK hm hI aC (by decide) ?_
  have hsz : (h1.push (PySem.W.kxs_mw "object.__init__" a)).get? h1.objs.size = some (PySem.W.kxs_mw "object.__init__" a) := Heap.get?_push_size _ rfl
  show wpAny _ _ (callWith p4 (.ref h1.objs.size) [] _ []) _ _ _
  refine PySem.W.kxs_callWith (i := "object.__init__") (x := a) rfl (evalArgs_empty ⟨hsz, ?_⟩)
  have J := I1.kept (t' := t + 1) (h' := h1.push (PySem.W.kxs_mw "object.__init__" a)) fun b o q => Heap.get?_push_of_some _ q
  refine wpAny_call (codeAny_of_tree ?_)
  show wpAny _ X.A.in1 (callAny (.ref h1.objs.size) ⟨[], []⟩) _ _ _
  simp only [callAny]
  refine wpAny_bind (wpAny_load hsz ?_)
  simp only [PySem.W.kxs_mw, show (Value.type "method-wrapper" == Value.type "method" || Value.type "method-wrapper" == Value.type "builtin_function_or_method" || Value.type "method-wrapper" == Value.type "method-wrapper") = true by decide, if_true]
  refine PySem.W.KFB.if_so (by decide) ?_
  refine wpAny_bind (check_bound_oi ?_)
  refine wpAny_bind (wpAny_pure (wpAny_pure ⟨plainId_quiet PySem.W.oi_plain _, codeAny_builtin PySem.W.entry_oi ?_⟩))
  rw [PySem.W.oi_run]
  exact wpAny_pure (h _ J)
end
/-! ### a def whose first row is super().__init__() -/
def sSup0 (cs : List String) : SM := fun u st => match u[0]? with
  | some (some (M3.W.val (.ref k))) => match st[k]? with
    | some (.ins c _) => if c ∈ cs then .nx u st else .bad
    | _ => .bad
  | _ => .bad
theorem sSup0_nx {cs : List String} {u : Sl3} {o : Store} (h : sSup0 cs u o ≠ .bad) : ∃ (kk : Nat) (cn : String) (fs : List (Str × D)), u[0]? = some (some (M3.W.val (.ref kk))) ∧ o[kk]? = some (.ins cn fs) ∧ cn ∈ cs ∧ sSup0 cs u o = .nx u o := by
  unfold sSup0 at h ⊢
  split at h
  · rename_i kk e1
    split at h
    · rename_i cn fs e2
      split at h
      · rename_i e3
        exact ⟨kk, cn, fs, e1, e2, e3, if_pos e3⟩
      · exact absurd rfl h
    · exact absurd rfl h
  · exact absurd rfl h
/-- a def with a free cell __class__: the cell's address, its words -/
structure FunC (K : PySem.W.Frag) (mg : Str → Option Value) (Pg : Program) (qual : Str) (st : Stmt) (D : Addr) (ps N : List Str) (f : Addr) (fd : FuncData) : Prop where
  ex : ∃ (cc c : Addr) (oc doc pm ct : Value) (od : Option Addr) (osl : Array (Option Value)), fd = (⟨"__init__", qual, defArgs st, defBody st, defScope st, [(("__class__" : Str), cc)], c⟩ : NF).fd doc pm ct ∧ K.lookup f = some ⟨oc, od, .func fd, osl⟩ ∧
    SupF K mg Pg f D cc ⟨"__init__", qual, defArgs st, defBody st, defScope st, [(("__class__" : Str), cc)], c⟩ ps N
theorem startF_eq {N ps : List Str} {vs : List V} (hl : vs.length = ps.length) (h : ps.length + 1 ≤ N.length) : startF N vs [none] = L2.start N vs := by
  unfold startF L2.start
  congr 1
  obtain ⟨m, hm⟩ : ∃ m, N.length - vs.length = m + 1 := ⟨N.length - vs.length - 1, by omega⟩
  rw [hm]
  simp [List.replicate_succ]
theorem post_fn {G : G3} {N : Nat} {mb : SM} {B : Addr → Prop} {s : S3} {o : Store} {ds : List D} {E : XK} {Q : VK} {wx : WX} (hwx : ∀ cv dd z H, E cv dd H → wx cv dd z H) (hp : Post G B (fun s d v => Rep G.R s.F s.io d v) E s Q (mfn N mb ds o)) :
    PostS G none wx B s { nx := fun _ H' => Q .non H', rt := Q } (mb (ds.map (fun d => some (.val d)) ++ List.replicate (N - ds.length) none) o) := by
  unfold mfn at hp
  cases em : mb (ds.map (fun d => some (.val d)) ++ List.replicate (N - ds.length) none) o with
  | nx u' st' => rw [em] at hp; exact fun B' s' z' b l w sl => hp s' .non l (w.less b) .non
  | rt w st' =>
    rw [em] at hp
    cases w with
    | val d => exact fun B' s' v b l w r => hp s' v l (w.less b) r
    | bor xs =>
      rintro B' s' v b l w ⟨p, vs', rfl, bp, nb, hq, r⟩
      have w' : Wd G (plus B p) st' s' := w.less fun a q => q.elim (b a) fun z => z ▸ bp
      exact hp ⟨s'.io, upd s'.F p (.lst vs'), s'.H⟩ (.ref p) (l.trans (freeze_le w')) (freeze_wd w' nb hq) (.lst upd_same (r.mono (freeze_le w').fr (freeze_le w').io))
    | bod ks us => exact hp.elim
    | bdd ks us => exact hp.elim
    | exn c x => exact hp.elim
    | len xs => exact hp.elim
  | bk u' st' => rw [em] at hp; exact hp.elim
  | ct u' st' => rw [em] at hp; exact hp.elim
  | err c x u' st' => rw [em] at hp; exact fun B' s' z' cv dd b l w sl q => hwx _ _ _ _ (hp s' cv dd l (w.less b) q)
  | bad => rw [em] at hp; exact hp.elim
section
variable {Pg : Program} {w : World} {K : PySem.W.Frag} {mg : Str → Option Value} {base : Heap}
/-- the context of such a body -/
abbrev cxC (Pg : Program) (w : World) (K : PySem.W.Frag) (mg : Str → Option Value) (base : Heap) (N : List Str) (qual : Str) (st : Stmt) (cc c f : Addr) (A : Around) (outer : List Env) (s : Shared) (H : Hp) (E : XK) : Cx :=
  ncx (L2.CX Pg w) Pg w K mg base N ⟨"__init__", qual, defArgs st, defBody st, defScope st, [(("__class__" : Str), cc)], c⟩ f A outer s H E
theorem fnS_ok {G : G3} (hK : K = G.K) (hw : w = G.w) {qual : Str} {st : Stmt} {D f : Addr} {fd : FuncData} {N ps : List Str} {k : Nat} {mb : SM} {cs : List String} (F : FunC K mg Pg qual st D ps N f fd) (hcs : ∀ c ∈ cs, ∃ C, G.cls c = some C ∧ SupI K C D)
    {p0 p1 p2 p4 p5 : Pos} {rest : List Stmt} (hm0 : SupE0 p0 p1 p2 p4) (hbody : defBody st = .Expr (.Call (.Attribute (.Call (.Name "super" p0) [] [] p1) "__init__" p2) [] [] p4) p5 :: rest) (hN : ps.length + 1 ≤ N.length)
    (h : ∀ (cc c : Addr) (A : Around) (outer : List Env) (s : Shared) (H : Hp) (E : XK), Room k (A.deeper (cxC Pg w K mg base N qual st cc c f A outer s H E).env) →
      MSs ⟨cxC Pg w K mg base N qual st cc c f A outer s H E, G, none, fun cls d _ H => E cls d H, hK, hw⟩ rest mb) :
    FnOk Pg w K mg base (L2.CX Pg w) (k + 1) f fd ps (spM G ps.length (mfn N.length (sSeq (sSup0 cs) mb))) := by
  obtain ⟨cc, c, oc, doc, pm, ct, od, osl, hfd, hf, S⟩ := F.ex
  refine ⟨fun vs H Q E h => h.1, fun A outer s0 H args us vs Q E hr e0 hb r ⟨hl, B, s, o, ds, eH, wd, rl, hp⟩ => ?_⟩
  subst eH
  have KX : K.In s0.heap := e0.mod.kin.keeps fun b o z => (e0.bs b o z).1
  have lim : s0.heap.NoLimit := e0.mod.nolimit.keeps fun b o z => (e0.bs b o z).1
  obtain ⟨t, pt, ht⟩ := (h cc c A outer s0 s.H E (hr.deeper _)).out
  have hp2 := post_fn (G := G) (wx := fun cls d _ H => E cls d H) (fun _ _ _ _ z => z) hp
  -- the receiver
  have lds := rl.length
  generalize hu : ds.map (fun d => some (M3.W.val d)) ++ List.replicate (N.length - ds.length) none = u at hp2
  have nb : sSup0 cs u o ≠ .bad := fun z => by
    unfold sSeq at hp2
    rw [z] at hp2
    exact hp2
  obtain ⟨kk, cn, fs, u0, ok, hcn, hsn⟩ := sSup0_nx nb
  have hp3 : PostS G none (fun cls d _ H => E cls d H) B s { nx := fun _ H' => Q .non H', rt := Q } (mb u o) := by
    unfold sSeq at hp2
    rw [hsn] at hp2
    exact hp2
  obtain ⟨C, gC, T⟩ := hcs cn hcn
  have z0 : ∃ (a : Addr) (dx : Addr) (gs : List (Str × V)), (startF N vs [none])[0]? = some (some (.ref a)) ∧ s.H a = some (.ins C dx gs) := by
    rw [← hu] at u0
    have h0 : 0 < ds.length := by
      rcases Nat.eq_zero_or_pos ds.length with q | q
      · rw [List.length_eq_zero_iff.mp q] at u0
        simp at u0
        rw [List.getElem?_replicate] at u0
        split at u0 <;> cases u0
      · exact q
    rw [List.getElem?_append_left (by simpa using h0), List.getElem?_map] at u0
    obtain ⟨d, ed, e2⟩ := Option.map_eq_some_iff.mp u0
    cases e2
    obtain ⟨v, ev, rv⟩ := rl.get ed
    cases rv with
    | ref ek =>
      obtain ⟨a', e1, _, _, oR⟩ := wd.obj kk _ ok rfl
      rw [ek] at e1
      cases e1
      obtain ⟨C', dx, gs, gC', hH, _⟩ := oR
      rw [gC] at gC'
      cases gC'
      refine ⟨_, dx, gs, ?_, hH⟩
      unfold startF
      have hv : 0 < vs.length := by omega
      rw [List.getElem?_append_left (by simpa using hv), List.getElem?_map, ev]
      rfl
  obtain ⟨a, dx, gs, hz0, hHa⟩ := z0
  subst hfd
  refine PySem.ks_codeAny_call_defAt (fd := (⟨"__init__", qual, defArgs st, defBody st, defScope st, [(("__class__" : Str), cc)], c⟩ : NF).fd doc pm ct) (body := defBody st) hr.depth (KX _ _ hf) rfl lim (PySem.W.codeRec_of KX S.cd) rfl hb S.sc.nocell (fun y hy => S.sc.par _ (List.of_mem_zip (show (y.1, y.2) ∈ _ from hy)).1) (fun h₀ hns kp => ?_) S.sc.co S.sc.gen S.sc.kind
  have I : Inv (cxC Pg w K mg base N qual st cc c f A outer s0 s.H E) [] (startF N vs [none]) s.H { s0 with heap := h₀, toks := s0.toks + (ps.zip us).length } := inv_startN S.sc hr.hd e0 hl r (cellsAt_of S e0) hns kp
  have hex : ∀ s', Inv (cxC Pg w K mg base N qual st cc c f A outer s0 s.H E) [] (startF N vs [none]) s.H s' → _root_.PySem.wpAt (model Pg w) (cxC Pg w K mg base N qual st cc c f A outer s0 s.H E).A (.func (defBody st) (cxC Pg w K mg base N qual st cc c f A outer s0 s.H E).env) (execs rest (cxC Pg w K mg base N qual st cc c f A outer s0 s.H E).env) (SP (cxC Pg w K mg base N qual st cc c f A outer s0 s.H E) [] { nx := fun _ H' => Q .non H', rt := Q }) (cxC Pg w K mg base N qual st cc c f A outer s0 s.H E).xe s' := fun s' J => by
    refine wpAt_of_wpAny (pt.run [] s' _ _ _ J (ht B B s o u _ _ (fun _ b => b) wd ?_ hp3))
    rw [startF_eq hl hN, ← hu]
    exact slo_start (N := N) rl
  have hall : _root_.PySem.wpAt (model Pg w) (cxC Pg w K mg base N qual st cc c f A outer s0 s.H E).A (.func (defBody st) (cxC Pg w K mg base N qual st cc c f A outer s0 s.H E).env) (execs (.Expr (.Call (.Attribute (.Call (.Name "super" p0) [] [] p1) "__init__" p2) [] [] p4) p5 :: rest) (cxC Pg w K mg base N qual st cc c f A outer s0 s.H E).env)
      (SP (cxC Pg w K mg base N qual st cc c f A outer s0 s.H E) [] { nx := fun _ H' => Q .non H', rt := Q }) (cxC Pg w K mg base N qual st cc c f A outer s0 s.H E).xe { s0 with heap := h₀, toks := s0.toks + (ps.zip us).length } :=
    PySem.ks_wpAt_execs_cons (sup_ins (X := cxC Pg w K mg base N qual st cc c f A outer s0 s.H E) (body := defBody st) hm0 S T (fL := s0.heap.objs.size) rfl rfl I hHa hz0 fun s' J => hex s' J)
  rw [← hbody] at hall
  refine PySem.ks_wpAt_mono hall (fun fl s' hs => ?_) fun _ _ z => z
  have fin : ∀ {σ' : L2.St} {H' : Hp} {v : V} {u : Value}, Inv (cxC Pg w K mg base N qual st cc c f A outer s0 s.H E) [] σ' H' s' → L2.RelV v u → Q v H' → CE outer Pg w s.H s0 Q u s' :=
    fun {σ' H' v u} J rv z => ⟨v, H', J.os, J.bare, J.base, J.hok, rv, z⟩
  cases fl with
  | next => obtain ⟨σ', H', J, z⟩ := hs; exact fin (v := V.non) (u := Value.none) J rfl z
  | ret u => obtain ⟨v', σ', H', J, rv, z⟩ := hs; exact fin J rv z
  | brk => exact hs.elim fun _ z => z.elim fun _ z => z.2.elim
  | cont => exact hs.elim fun _ z => z.elim fun _ z => z.2.elim
end
theorem isSome_of_dict {K : PySem.W.Frag} {C : Addr} (h : PySem.W.hasDictIn K C = true) : (PySem.W.clsIn K C).isSome = true := by
  unfold PySem.W.hasDictIn at h
  cases q : PySem.W.clsIn K C with
  | none => rw [q] at h; cases h
  | some cd => rfl
theorem cls_of_dict {K : PySem.W.Frag} {C : Addr} (h : PySem.W.hasDictIn K C = true) : ∃ o cd, K.lookup C = some o ∧ o.data = .cls cd := by
  obtain ⟨cd, e⟩ := Option.isSome_iff_exists.mp (isSome_of_dict h)
  unfold PySem.W.clsIn at e
  split at e
  · rename_i ho; exact ⟨_, _, ho, rfl⟩
  · cases e
end M3
namespace M3
open PySem PySem.Spec PyProof.Rows L2
/-! ### return of a new list, still its taker's own -/
def sRetF (m : FM) : SM := fun u st => match m u st with
  | .ok xs st' => .rt (.bor xs) st'
  | .err c x st' => .err c x u st'
  | .bad => .bad
def spML (G : G3) (n : Nat) (m : List D → M (List D)) : Sp := fun vs H Q E => vs.length = n ∧ ∃ (B : Addr → Prop) (s : S3) (st : Store) (ds : List D), s.H = H ∧ Wd G B st s ∧ RepL G.R s.F s.io ds vs ∧ PostF G B E s Q (m ds st)
/-! ### o.f, a property that hands back a new list -/
structure PropOkL (Pg : Program) (w : World) (K : PySem.W.Frag) (mg : Str → Option Value) (base : Heap) (G : G3) (k : Nat) (f : Str) (c : String) (mf : List D → M (List D)) : Prop where
  ex : ∃ C p g fd ps, G.cls c = some C ∧ Cls K C ∧ PropOf K C f p g ∧ Binds K fd ps [] ∧ FnOk Pg w K mg base (L2.CX Pg w) k g fd ps (spML G 1 mf)
def fProp (c : String) (mf : List D → M (List D)) (mo : EM) : FM := fun u => M.bind (mo u) fun w => M.bind (insOf w) fun q => M.bind (M.chk (q.2.1 = c)) fun _ => M.quiet (mf [.ref q.1])
/-! ### constants of a class -/
/-- e.f, e an instance of a class that has the constant d -/
def eCon (cs : List (String × D)) (f : Str) (m : EM) : EM := fun u => M.bind (m u) fun w => M.bind (insOf w) fun q => M.bind (M.chk (q.2.2.lookup f = none)) fun _ => M.bind (M.of (cs.lookup q.2.1)) fun d => M.pure (.val d)
/-! ### list(x), x a list of the store -/
def fListA (ma : AM) : FM := fun u => M.bind (ma u) fun ws => match ws with
  | [w] => M.bind (lstOf w) fun q => M.pure q.2
  | _ => M.bad
/-! ### rows that run them -/
section
variable {u : Sl3} {st : Store} {ks : SRes → Prop} {kw : Res W → Prop} {kl : Res (List D) → Prop}
def kRetF (u : Sl3) (k : SRes → Prop) : Res (List D) → Prop
  | .ok xs st => k (.rt (.bor xs) st)
  | .err c x st => k (.err c x u st)
  | .bad => k .bad
@[simp] theorem kRetF_ok (xs) : kRetF u ks (.ok xs st) = ks (.rt (.bor xs) st) := rfl
@[simp] theorem run_sRetF (m : FM) : srun (sRetF m u st) ks = M3.run (m u st) (kRetF u ks) := by
  unfold srun sRetF M3.run kRetF
  cases m u st <;> rfl
def kRetL (k : Res (List D) → Prop) : SRes → Prop
  | .rt (.bor xs) st => k (.ok xs st)
  | .err c x _ st => k (.err c x st)
  | _ => k .bad
@[simp] theorem kRetL_bor (xs) : kRetL kl (.rt (.bor xs) st) = kl (.ok xs st) := rfl
@[simp] theorem kRetL_err (c x) : kRetL kl (.err c x u st) = kl (.err c x st) := rfl
@[simp] theorem run_fListA (ma : AM) : M3.run (fListA ma u st) kl = M3.run (ma u st) (kBind (fun ws => match ws with
  | [w] => M.bind (lstOf w) fun q => M.pure q.2
  | _ => M.bad) kl) := run_bind _ _
@[simp] theorem run_fProp (c) (mf : List D → M (List D)) (mo : EM) : M3.run (fProp c mf mo u st) kl = M3.run (mo u st) (kBind (fun w => M.bind (insOf w) fun q => M.bind (M.chk (q.2.1 = c)) fun _ => M.quiet (mf [.ref q.1])) kl) := run_bind _ _
@[simp] theorem run_eCon (cs f) (m : EM) : M3.run (eCon cs f m u st) kw = M3.run (m u st) (kBind (fun w => M.bind (insOf w) fun q => M.bind (M.chk (q.2.2.lookup f = none)) fun _ => M.bind (M.of (cs.lookup q.2.1)) fun d => M.pure (.val d)) kw) := run_bind _ _
theorem run_sSup0 {cs : List String} {i : Nat} {c : String} {fs : List (Str × D)} (h0 : u[0]? = some (some (.val (.ref i)))) (h1 : st[i]? = some (.ins c fs)) (h2 : c ∈ cs) : srun (sSup0 cs u st) ks = ks (.nx u st) := by
  unfold srun sSup0
  rw [h0]
  dsimp only
  rw [h1]
  dsimp only
  rw [if_pos h2]
end
end M3
/-! xs.index(x), xs a list of texts -/
namespace M3
open PySem PySem.Spec PyProof.Rows L2
def eIdxL (a b : EM) : EM := fun u => M.bind (a u) fun x => M.bind (M.of x.ls) fun xs => M.bind (b u) fun y => M.bind (M.of x.ls) fun _ => M.of (idxF xs y)
section
variable {a b : EM} {u : Sl3} {st : Store} {kw}
@[simp] theorem run_eIdxL : run (eIdxL a b u st) kw = run (a u st) (kBind (fun x => M.bind (M.of x.ls) fun xs => M.bind (b u) fun y => M.bind (M.of x.ls) fun _ => M.of (idxF xs y)) kw) := run_bind _ _
end
end M3
/-! tuple * int, any int from 0 on -/
namespace M3
open PySem PySem.Spec PyProof.Rows L2
def mulTF : W → W → Option W
  | .val (.tup xs), .val (.int n) => if 0 ≤ n ∧ n ≤ 1000 ∧ xs.length ≤ 1000 then some (.val (.tup (List.replicate n.toNat xs).flatten)) else none
  | _, _ => none
@[simp] theorem mulTF_tup (xs : List D) (n : Int) : mulTF (.val (.tup xs)) (.val (.int n)) = if 0 ≤ n ∧ n ≤ 1000 ∧ xs.length ≤ 1000 then some (.val (.tup (List.replicate n.toNat xs).flatten)) else none := rfl
end M3
/-! frames whose cells are captured: their calls -/
namespace M3
open PySem PySem.Spec PyProof.Rows L2
def G3.at (G : G3) (b : Heap) : G3 := { G with base := b, own := fun _ => none }
def G3.owning (G : G3) (w : Nat → Option Addr) : G3 := { G with own := w }
/-- what is known of cells over the one base is known over the other -/
def KnowsTo (b b' : Heap) : Prop := ∀ a v, b.IsCell a v → b'.IsCell a v
theorem KnowsTo.refl (b : Heap) : KnowsTo b b := fun _ _ h => h
/-! ### what a call leaves of the store -/
def MO.cut (o : MO) : MO := if o.tr = true then o else .dead
def MO.nap : MO → MO
  | .slp _ => .dead
  | o => o
theorem MO.nap_tr (o : MO) : o.nap.tr = o.tr := by cases o <;> rfl
def MO.pick (o o' : MO) : MO := if o.tr = true then o'.cut else o
/-- the store behind a call: cells are as they were in front of it -/
def back : Store → Store → Store
  | o :: st, o' :: st' => o.pick o' :: back st st'
  | [], st' => st'.map MO.cut
  | _, [] => []
theorem back_length : ∀ st st' : Store, (back st st').length = st'.length
  | [], st' => by simp [back]
  | _ :: _, [] => rfl
  | _ :: st, _ :: st' => by simp [back, back_length st st']
theorem back_get : ∀ (st st' : Store) (k : Nat), (back st st')[k]? = (st'[k]?).map fun o' => match st[k]? with
    | some o => o.pick o'
    | none => o'.cut
  | [], st', k => by simp [back]
  | _ :: _, [], k => by simp [back]
  | _ :: _, _ :: _, 0 => by simp [back]
  | _ :: st, _ :: st', k + 1 => by simpa [back] using back_get st st' k
theorem cut_tr {o o' : MO} (h : o.cut = o') (t : o'.tr = true) : o = o' := by
  unfold MO.cut at h
  split at h
  · exact h
  · subst h; cases t
theorem cut_un {o o' : MO} (h : o.cut = o') (t : o'.tr = false) : o' = .dead := by
  unfold MO.cut at h
  split at h
  · rename_i q; rw [h] at q; rw [q] at t; cases t
  · exact h.symm
section
variable {G : G3} {b b' : Heap} {B : Addr → Prop} {st st' : Store} {s s' : S3}
theorem UntR.at_ {a : Addr} {o : MO} (hb : KnowsTo G.base b) (x : UntR G s a o) : UntR (G.at b) s a o.nap := by
  cases o with
  | kc d => obtain ⟨v, u, r, q, z⟩ := x; exact ⟨v, u, r, hb _ _ q, z⟩
  | slp i => exact True.intro
  | dead => exact True.intro
  | _ => exact False.elim x
/-- the state as a callee has it -/
theorem Wd.nap (hb : KnowsTo G.base b) (w : Wd G B st s) : Wd (G.at b) B (st.map MO.nap) s := by
  have get : ∀ {k : Nat} {o : MO}, (st.map MO.nap)[k]? = some o → ∃ o' : MO, st[k]? = some o' ∧ o'.nap = o := fun {k o} e => by
    rw [List.getElem?_map] at e
    exact Option.map_eq_some_iff.mp e
  refine ⟨w.sub, w.hid, w.ftb, fun k a e => by rw [List.length_map]; exact w.dom k a e, fun j k a oj ok e1 e2 q1 t1 q2 t2 => ?_, fun k o e t => ?_, fun k o e t => ?_, w.tabs⟩
  · obtain ⟨oj', q1', rfl⟩ := get q1
    obtain ⟨ok', q2', rfl⟩ := get q2
    rw [MO.nap_tr] at t1 t2
    exact w.inj j k a oj' ok' e1 e2 q1' t1 q2' t2
  · obtain ⟨o', e', rfl⟩ := get e
    rw [MO.nap_tr] at t
    obtain ⟨a, e1, b1, f1, x⟩ := w.obj k o' e' t
    have : o'.nap = o' := by cases o' <;> first | rfl | cases t
    rw [this]
    exact ⟨a, e1, b1, f1, x⟩
  · obtain ⟨o', e', rfl⟩ := get e
    rw [MO.nap_tr] at t
    obtain ⟨a, e1, x⟩ := w.unt k o' e' t
    exact ⟨a, e1, x.at_ hb⟩
/-- .. as the caller has it behind the call -/
theorem Wd.back {B0 B1 : Addr → Prop} (w : Wd G B0 st s) (l : Le B1 s s') (w' : Wd (G.at b) B st' s') : Wd G B (back st st') s' := by
  have old : ∀ {k : Nat} {o : MO}, (M3.back st st')[k]? = some o → o.tr = true → st'[k]? = some o := fun {k o} e t => by
    rw [back_get] at e
    obtain ⟨o', e1, e2⟩ := Option.map_eq_some_iff.mp e
    rw [e1]
    split at e2
    · unfold MO.pick at e2
      split at e2
      · rw [cut_tr e2 t]
      · rename_i q; subst e2; exact absurd t q
    · rw [cut_tr e2 t]
  refine ⟨w'.sub, w'.hid, w'.ftb, fun k a e => by rw [back_length]; exact w'.dom k a e, fun j k a oj ok e1 e2 q1 t1 q2 t2 => ?_, fun k o e t => w'.obj k o (old e t) t, fun k o e t => ?_, w'.tabs⟩
  · exact w'.inj j k a oj ok e1 e2 (old q1 t1) t1 (old q2 t2) t2
  · rw [back_get] at e
    obtain ⟨o', e1, e2⟩ := Option.map_eq_some_iff.mp e
    have dead : o = .dead → ∃ a, s'.io k = some a ∧ UntR G s' a o := fun z => by
      subst z
      by_cases q : o'.tr = true
      · obtain ⟨a, e3, _⟩ := w'.obj k o' e1 q
        exact ⟨a, e3, True.intro⟩
      · obtain ⟨a, e3, _⟩ := w'.unt k o' e1 (by simpa using q)
        exact ⟨a, e3, True.intro⟩
    split at e2
    · rename_i o0 e0
      unfold MO.pick at e2
      split at e2
      · exact dead (cut_un e2 t)
      · rename_i q
        subst e2
        obtain ⟨a, e3, x⟩ := w.unt k o0 e0 (by simpa using q)
        exact ⟨a, l.io _ _ e3, x.mono l.io l.fr⟩
    · exact dead (cut_un e2 t)
/-- the mirror of a def as a frame with captured cells sees it -/
def nap {α β : Type} (m : α → M β) : α → M β := fun ds st => match m ds (st.map MO.nap) with
  | .ok d st' => .ok d (M3.back st st')
  | .err c x st' => .err c x (M3.back st st')
  | .bad => .bad
theorem nap_post {α β γ : Type} {m : α → M β} {ds : α} {R R' : S3 → β → γ → Prop} {E : XK} {Q : γ → Hp → Prop} (hR : ∀ s d v, R' s d v → R s d v) (w : Wd G B st s) (h : Post G B R E s Q (nap m ds st)) : Post (G.at b) B R' E s Q (m ds (st.map MO.nap)) := by
  unfold nap at h
  cases em : m ds (st.map MO.nap) with
  | ok d st' => rw [em] at h; exact fun s' v l w' r => h s' v l (w.back l w') (hR _ _ _ r)
  | err c x st' => rw [em] at h; exact fun s' cv dd l w' r => h s' cv dd l (w.back l w') r
  | bad => rw [em] at h; exact h
theorem spM_nap (hb : KnowsTo G.base b) {n : Nat} {m : List D → M D} {vs : List V} {H : Hp} {Q : VK} {E : XK} (h : spM G n (nap m) vs H Q E) : spM (G.at b) n m vs H Q E := by
  obtain ⟨hl, B, s, st, ds, e, wd, rl, hp⟩ := h
  exact ⟨hl, B, s, _, ds, e, wd.nap hb, rl, nap_post (fun _ _ _ r => r) wd hp⟩
theorem spMW_nap (hb : KnowsTo G.base b) {n : Nat} {m : List M3.W → M D} {vs : List V} {H : Hp} {Q : VK} {E : XK} (h : spMW G n (nap m) vs H Q E) : spMW (G.at b) n m vs H Q E := by
  obtain ⟨hl, B, s, st, ws, e, wd, rl, ha, hp⟩ := h
  refine ⟨hl, B, s, _, ws, e, wd.nap hb, ?_, ha, nap_post (fun _ _ _ r => r) wd hp⟩
  clear hl ha hp
  induction rl with
  | nil => exact .nil
  | cons r _ ih => exact .cons (by cases ‹W› <;> exact r) ih
theorem spML_nap (hb : KnowsTo G.base b) {n : Nat} {m : List D → M (List D)} {vs : List V} {H : Hp} {Q : VK} {E : XK} (h : spML G n (nap m) vs H Q E) : spML (G.at b) n m vs H Q E := by
  obtain ⟨hl, B, s, st, ds, e, wd, rl, hp⟩ := h
  refine ⟨hl, B, s, _, ds, e, wd.nap hb, rl, ?_⟩
  unfold nap at hp
  cases em : m ds (st.map MO.nap) with
  | ok d st' => rw [em] at hp; exact fun s' p vs l w nb hq r => hp s' p vs l (wd.back l w) nb hq r
  | err c x st' => rw [em] at hp; exact fun s' cv dd l w' r => hp s' cv dd l (wd.back l w') r
  | bad => rw [em] at hp; exact hp
end
section
variable {Pg : Program} {w : World} {K : PySem.W.Frag} {mg : Str → Option Value} {base b : Heap} {G : G3} {k n : Nat} {x : Str} {c cn : String} {m : List D → M D}
theorem Cal.nap (h : Cal Pg w K mg base (G.at b) k x n m) (hb : KnowsTo G.base b) : Cal Pg w K mg base G k x n (nap m) := by
  obtain ⟨f, fd, ps, a1, a2, a3, a4, F⟩ := h.ex
  exact ⟨f, fd, ps, a1, a2, a3, a4, F.imp fun _ _ _ _ h => spM_nap hb h⟩
end
end M3
/-! functions as values: lambdas, their making, their calls -/
namespace M3
open PySem PySem.Spec PyProof.Rows L2 LamX NdefX
/-! ### a call at another base -/
/-- the base tells of all that is neither tracked nor a frame -/
structure Rebased (X : Cx) (z : L2.St) (b : Heap) : Prop where
  le : ∀ a o, X.base.get? a = some o → b.get? a = some o
  cells : ∀ (i : Nat) (y : Str) (a : Addr) (v : V), X.fn y = true → X.N[i]? = some y → (X.env.scope.names.lookup y = some .cell ∨ X.env.scope.names.lookup y = some .free) → X.env.cells.lookup y = some a → z[i]? = some (some v) → ∃ u, L2.RelV v u ∧ b.IsCell a (some u)
theorem funF_base {h b b' : Heap} : ∀ {l : List Env}, h.FunFrames b l → (∀ a ∈ frs l, b'.get? a = none) → h.FunFrames b' l
  | [], _, _ => trivial
  | env :: l, ⟨hk, ⟨L, o, hf, hn, ho, hd⟩, hr⟩, q => by
    have hm : L ∈ frs (env :: l) := List.mem_filterMap.mpr ⟨env, List.mem_cons_self, hf⟩
    refine ⟨hk, ⟨L, o, hf, q L hm, ho, hd⟩, funF_base hr fun a ha => q a ?_⟩
    obtain ⟨e, he, ef⟩ := List.mem_filterMap.mp ha
    exact List.mem_filterMap.mpr ⟨e, List.mem_cons_of_mem _ he, ef⟩
theorem rebase {X : Cx} {pins : List (Addr × Obj)} {z : L2.St} {H : Hp} {s : Shared} (I : Inv X pins z H s) : ∃ b, Rebased X z b ∧ Env0 X.prog X.w X.K X.mg b X.A X.stack s H := by
  have e0 := I.env0
  have keep : ∀ {a o}, s.heap.get? a = some o → H a = none → a ∉ frs X.stack → (PySem.W.hideAll s.heap (trk s.heap H ++ frs X.stack)).get? a = some o := fun {a o} e n nf =>
    PySem.W.hideAll_get _ e fun hm => by
      rcases List.mem_append.mp hm with q | q
      · have q : (H a).isSome = true := (List.mem_filter.mp q).2
        rw [n] at q; simp at q
      · exact nf q
  have nofr : ∀ {a o}, X.base.get? a = some o → a ∉ frs X.stack := fun {a o} e hm => by
    have := (e0.funs.mem hm).1
    rw [e] at this; cases this
  have le : ∀ a o, X.base.get? a = some o → (PySem.W.hideAll s.heap (trk s.heap H ++ frs X.stack)).get? a = some o := fun a o e => by
    obtain ⟨q1, q2⟩ := e0.bs a o e
    exact keep q1 q2 (nofr e)
  have sub : ∀ {a o}, (PySem.W.hideAll s.heap (trk s.heap H ++ frs X.stack)).get? a = some o → s.heap.get? a = some o ∧ H a = none := fun {a o} e => by
    have e' := PySem.W.of_hideAll _ e
    refine ⟨e', ?_⟩
    cases q : H a with
    | none => rfl
    | some x =>
      have hm : a ∈ trk s.heap H ++ frs X.stack := List.mem_append_left _ (List.mem_filter.mpr ⟨List.mem_range.mpr (Heap.lt_size e'), by simp [q]⟩)
      have z : (PySem.W.hideAll s.heap (trk s.heap H ++ frs X.stack)).get? a = none := PySem.W.hideAll_none _ hm
      rw [z] at e; cases e
  refine ⟨PySem.W.hideAll s.heap (trk s.heap H ++ frs X.stack), ⟨le, fun i y a v hf hN hk hc hz => ?_⟩, ⟨e0.frames, ?_, fun b o e => sub e, Nat.le_of_eq (PySem.W.hideAll_size _ _), funF_base e0.funs fun a ha => PySem.W.hideAll_none _ (List.mem_append_right _ ha), e0.frf, e0.hok, e0.bare⟩⟩
  · obtain ⟨m, hns, hl⟩ := I.loc
    obtain ⟨u, r, q⟩ := hl i y v hN hz (hk.elim (fun z => .inr (.inl z)) fun z => .inr (.inr z))
    refine ⟨u, r, ?_⟩
    rcases q with ⟨q, _⟩ | ⟨_, c, ec, hcell⟩
    · have q : X.env.scope.names.lookup y = some .local := q
      rcases hk with k | k <;> rw [k] at q <;> cases q
    · rw [hc] at ec
      cases ec
      obtain ⟨o, ho, hd⟩ := hcell
      refine ⟨o, keep ho (I.freeC y a hc) fun hm => ?_, hd⟩
      rcases List.mem_cons.mp (I.stkSub a hm) with z | z
      · exact I.cne y a hc z
      · obtain ⟨_, o', e', nf⟩ := I.ok.funs.mem z
        exact absurd (Nat.lt_of_lt_of_le (Heap.lt_size e') (I.ok.cab y a hf hc)) (Nat.lt_irrefl _)
  · obtain ⟨h1, h2, ⟨mb, h3, h4⟩, h5⟩ := e0.mod
    exact ⟨h1.keeps le, h2.keeps le, ⟨mb, h3.keeps le, h4⟩, h5.keeps le⟩
/-- the base b0, perhaps with more -/
def Over (b0 b : Heap) : Prop := ∀ a o, b0.get? a = some o → b.get? a = some o
theorem Over.refl (b : Heap) : Over b b := fun _ _ e => e
theorem Over.trans {b0 b1 b2 : Heap} (h : Over b0 b1) (g : Over b1 b2) : Over b0 b2 := fun a o e => g a o (h a o e)
section
variable {X : Cx} {CX : CXT} {k : Nat} {f : Addr} {x : Str} {p pos : Pos} {e : Expr} {es : List Expr} {t : TA} {E : L2.St → XK} {sp : Heap → Sp}
/-- f(..), the promise taken at a base that knows the frame's own cells -/
theorem pe_callB' (F : ∀ b, Over X.base b → ∃ fd ps, Binds X.K fd ps [] ∧ FnOk X.prog X.w X.K X.mg b CX k f fd ps (sp b)) (hr : Room k X.A) (hg : Gl X x) (hm : X.mg x = some (.ref f)) (hk : PySem.W.keepIn X.K (.ref f) = true) (hx : ∀ z, PassesAt CX X z (E z))
    (ha : PA X (e :: es) t) (hdb : (x == ("__debug__" : Str)) = false := by decide) (he : starEach (e :: es) X.env = (false, eval e X.env) :: starEach es X.env := by rfl) (hpl : (backTo pos (starEach es X.env)).any (·.1) = false := by rfl) :
    PE X (.Call (.Name x p) (e :: es) [] pos) (fun z H Q => t z H fun vs H1 => ∀ b, Rebased X z b → sp b vs H1 Q (E z)) := by
  refine ⟨fun pins s z H Q I h => ?_⟩
  refine wpAny_Call_Name_kw (ld_glob I hg hm ?_ hdb)
  refine PySem.W.callWith_K (h₀ := X.base) I.ok.mod.kin hk (thn (ha.run pos pins s z H _ I h) fun us s1 ⟨vs, H1, I1, r, q⟩ => ⟨I1.kIn, ?_⟩) he hpl
  obtain ⟨b, rb, e0⟩ := rebase I1
  obtain ⟨fd, ps, hb, F⟩ := F b rb.le
  have h := q b rb
  have hl : us.length = ps.length := by rw [← r.length]; exact F.len _ _ _ _ h
  have bb := hb s1 us I1.kIn (by rw [List.append_nil]; exact hl)
  rw [List.append_nil] at bb
  show wpAny _ _ (call (.ref f) us) _ _ _
  refine wpAny_call (codeAny_mono (F.run X.A X.stack s1 H1 ⟨us, []⟩ us vs Q (E z) hr e0 bb r h) fun r s' hq => ?_)
  cases r with
  | error e => exact hx z pins H1 s1 e s' I1 hq
  | ok fl =>
    cases fl with
    | ret u => exact I1.after hq
    | next => exact False.elim hq
    | brk => exact False.elim hq
    | cont => exact False.elim hq
end
/-! ### the store while a frame's cells are lent -/
def MO.lent (u : Sl3) : MO → MO
  | .slp i => match u[i]? with
    | some (some (.val d)) => .kc d
    | _ => .dead
  | o => o
theorem MO.lent_tr (u : Sl3) (o : MO) : (o.lent u).tr = o.tr := by
  cases o with
  | slp i => unfold MO.lent; dsimp only; split <;> rfl
  | _ => rfl
def OwnOk (P : P3) : Prop := ∀ i a, P.G.own i = some a → ∃ y, P.X.N[i]? = some y ∧ P.X.fn y = true ∧ (P.X.env.scope.names.lookup y = some .cell ∨ P.X.env.scope.names.lookup y = some .free) ∧ P.X.env.cells.lookup y = some a
theorem Wd.lend {P : P3} {B0 B : Addr → Prop} {st : Store} {s : S3} {u : Sl3} {z : L2.St} {b : Heap} (ho : OwnOk P) (hb : P.X.base = P.G.base) (w : Wd P.G B st s) (sl : Slo P.G P.hx B0 B s u z) (rb : Rebased P.X z b) : Wd (P.G.at b) B (st.map (MO.lent u)) s := by
  have get : ∀ {k : Nat} {o : MO}, (st.map (MO.lent u))[k]? = some o → ∃ o' : MO, st[k]? = some o' ∧ o'.lent u = o := fun {k o} e => by
    rw [List.getElem?_map] at e
    exact Option.map_eq_some_iff.mp e
  refine ⟨w.sub, w.hid, w.ftb, fun k a e => by rw [List.length_map]; exact w.dom k a e, fun j k a oj ok e1 e2 q1 t1 q2 t2 => ?_, fun k o e t => ?_, fun k o e t => ?_, w.tabs⟩
  · obtain ⟨oj', q1', rfl⟩ := get q1
    obtain ⟨ok', q2', rfl⟩ := get q2
    rw [MO.lent_tr] at t1 t2
    exact w.inj j k a oj' ok' e1 e2 q1' t1 q2' t2
  · obtain ⟨o', e', rfl⟩ := get e
    rw [MO.lent_tr] at t
    obtain ⟨a, e1, b1, f1, x⟩ := w.obj k o' e' t
    have : o'.lent u = o' := by cases o' <;> first | rfl | cases t
    rw [this]
    exact ⟨a, e1, b1, f1, x⟩
  · obtain ⟨o', e', rfl⟩ := get e
    rw [MO.lent_tr] at t
    obtain ⟨a, e1, x⟩ := w.unt k o' e' t
    refine ⟨a, e1, ?_⟩
    cases o' with
    | kc d =>
      obtain ⟨v, uu, r, ⟨o, q1, q2⟩, zz⟩ := x
      exact ⟨v, uu, r, ⟨o, rb.le a o (by rw [hb]; exact q1), q2⟩, zz⟩
    | slp i =>
      unfold MO.lent
      dsimp only
      split
      · rename_i d hd
        obtain ⟨v, ez, rv⟩ := sl.get hd
        obtain ⟨y, h1, h2, h3, h4⟩ := ho i a x
        obtain ⟨uu, r, c⟩ := rb.cells i y a v h2 h1 h3 h4 ez
        exact ⟨v, uu, r, c, rv⟩
      · exact True.intro
    | dead => exact True.intro
    | _ => cases t
/-- a call while the frame's cells are lent -/
def lend {α β : Type} (u : Sl3) (m : α → M β) : α → M β := fun ds st => match m ds (st.map (MO.lent u)) with
  | .ok d st' => .ok d (M3.back st st')
  | .err c x st' => .err c x (M3.back st st')
  | .bad => .bad
theorem lend_post {α β γ : Type} {G : G3} {b : Heap} {B B0 : Addr → Prop} {st : Store} {s : S3} {u : Sl3} {m : α → M β} {ds : α} {R R' : S3 → β → γ → Prop} {E : XK} {Q : γ → Hp → Prop} (hR : ∀ s d v, R' s d v → R s d v) (w : Wd G B0 st s) (h : Post G B R E s Q (lend u m ds st)) : Post (G.at b) B R' E s Q (m ds (st.map (MO.lent u))) := by
  unfold lend at h
  cases em : m ds (st.map (MO.lent u)) with
  | ok d st' => rw [em] at h; exact fun s' v l w' r => h s' v l (w.back l w') (hR _ _ _ r)
  | err c x st' => rw [em] at h; exact fun s' cv dd l w' r => h s' cv dd l (w.back l w') r
  | bad => rw [em] at h; exact h
/-- f(..), the frame's cells lent -/
def eCallR (n : Nat) (m : List D → M D) (ma : AM) : EM := fun u => M.bind (ma u) fun ws => M.bind (M.of (asDs ws)) fun ds => M.bind (M.chk (ds.length = n)) fun _ => M.bind (lend u m ds) fun d => M.pure (.val d)
/-- a def that may be called at any base -/
def CalB (Pg : Program) (w : World) (K : PySem.W.Frag) (mg : Str → Option Value) (base : Heap) (G : G3) (k : Nat) (x : Str) (n : Nat) (m : List D → M D) : Prop := ∀ b, Over base b → Cal Pg w K mg b (G.at b) k x n m
theorem me_callR {P : P3} {pos p : Pos} {x : Str} {e : Expr} {es : List Expr} {ma : AM} {m : List D → M D} {k j n : Nat} (ho : OwnOk P) (hb : P.X.base = P.G.base) (c : CalB P.X.prog P.X.w P.X.K P.X.mg P.X.base P.G k x n m) (hr : Room j P.X.A) (hk : k ≤ j) (tk : Takes P.X P.wx) (hg : Gl P.X x) (ha : MA P (e :: es) ma)
    (hdb : (x == ("__debug__" : Str)) = false := by decide) (he : starEach (e :: es) P.X.env = (false, eval e P.X.env) :: starEach es P.X.env := by rfl) (hpl : (backTo pos (starEach es P.X.env)).any (·.1) = false := by rfl) :
    ME P (.Call (.Name x p) (e :: es) [] pos) (eCallR n m ma) := by
  obtain ⟨f, _, _, hm, hkp, _, _, _⟩ := (c P.X.base (Over.refl _)).ex
  obtain ⟨t, pt, ht⟩ := ha.out
  refine ME.mk' (pe_callB' (k := k) (f := f) (sp := fun b => spM (P.G.at b) n m) (fun b ob => ?_) (hr.mono hk) hg hm hkp (fun σ => passAt tk σ) pt hdb he hpl) fun B0 B s st u z Q wd sl h => ht B0 B s st u z _ wd sl (Post.bind h fun ws st1 s1 vs l1 wd1 r1 h1 => ?_)
  · obtain ⟨f', fd, ps, hm', _, hbd, _, F⟩ := (c b ob).ex
    rw [hm] at hm'
    cases hm'
    exact ⟨fd, ps, hbd, F⟩
  · obtain ⟨ds, e, h1⟩ := Post.of_of h1
    obtain ⟨hl, h1⟩ := Post.of_chk h1
    have rl := asDs_ok r1 e
    intro b rb
    refine ⟨by rw [← rl.length]; exact hl, B, s1, _, ds, rfl, wd1.lend ho hb (sl.mono' l1) rb, rl, ?_⟩
    refine lend_post (R := fun s d v => RepW P.G P.hx B s (.val d) v) (fun _ _ _ r => r) wd1 ?_
    unfold M.bind at h1
    cases em : lend u m ds st1 with
    | ok d st' => rw [em] at h1; exact fun s' v l w r => h1 s' v l w r
    | err c x st' => rw [em] at h1; exact h1
    | bad => rw [em] at h1; exact h1
end M3
/-! lambdas: made, called -/
namespace M3
open PySem PySem.Spec PyProof.Rows L2 LamX NdefX
/-- a lambda's words, the cells that it captured, its code object -/
structure LF where
  qual : Str
  params : Arguments
  body : Expr
  scope : Scope
  cl : List (Str × Addr)
  c : Addr
abbrev LF.fd (F : LF) (pm ctv : Value) : FuncData := PySem.W.kla_fn "<lambda>" F.qual F.params F.body F.scope F.cl pm (.ref F.c) ctv
def LamO (f : Addr) (F : LF) : HO := .ext fun h => ∃ (od : Option Addr) (sl : Array (Option Value)) (pm ctv : Value), h.get? f = some (⟨.type "function", od, .func (F.fd pm ctv), sl⟩ : Obj)
theorem lamO_at {P : Program} {w : World} {H : Hp} {h : Heap} {f : Addr} {F : LF} (hok : HOk P w H h) (e : H f = some (LamO f F)) : ∃ (od : Option Addr) (sl : Array (Option Value)) (pm ctv : Value), h.get? f = some (⟨.type "function", od, .func (F.fd pm ctv), sl⟩ : Obj) := by
  obtain ⟨z, _, _⟩ := hok f _ e
  exact z
def LF.fv (F : LF) : FV := ⟨fun p => LamO p F, F.c, F.qual, F.cl⟩
section
variable {X : Cx} {pins : List (Addr × Obj)} {σ : L2.St} {H : Hp} {s : Shared}
theorem inv_lam {F : LF} {o : Obj} {t' : Nat} {pm ctv : Value} (I : Inv X pins σ H s) (ho : o = { cls := .type "function", data := .func (F.fd pm ctv) }) :
    Inv X pins σ (upd H s.heap.objs.size (LamO s.heap.objs.size F)) { s with heap := s.heap.push o, toks := t' } := by
  subst ho
  refine I.laid (a := s.heap.objs.size) (fun b u e => Heap.get?_push_of_some _ e) (Nat.le_refl _) ?_
  have e : (s.heap.push ({ cls := .type "function", data := .func (F.fd pm ctv) } : Obj)).get? s.heap.objs.size = some ({ cls := .type "function", data := .func (F.fd pm ctv) } : Obj) := Heap.get?_push_size _ rfl
  exact ⟨⟨_, _, pm, ctv, e⟩, ⟨_, e⟩, fun h1 h2 ⟨od, sl, p, t, z⟩ st => ⟨od, sl, p, t, st _ z⟩⟩
/-- the lambda is made: its code object is new, or found in the table -/
theorem lam_makeN {T : List NTab} {nm : Nat → Nat → Str} {c P : Addr} {params : Arguments} {body : Expr} {scope : Scope} {pos : Pos} {E : Value → Shared → Prop} {Q : Value → Shared → Prop} (I : Inv X pins σ H s) (TB : TabB X.base X.mg c P) (hcode : X.env.code = .ref c)
    (hm : (P, nm) ∈ T) (hn : nm pos.line pos.col = X.env.qual ++ "<lambda>") (hu : ∀ p ∈ T, p.1 = P → p.2 = nm) (hT : TabsN T H) (hdef : defaultsOf params X.env = ([], [])) (hfree : ∀ y ∈ scope.names, y.2 = .free → ∃ c, X.env.cells.lookup y.1 = some c)
    (h : ∀ (f c' : Addr) (H1 : Hp) (s' : Shared), Inv X pins σ H1 s' → ExtN H H1 → (∀ b, H1 b = Option.none → H b = Option.none) → TabsN T H1 → H f = none → H1 f = some (LamO f ⟨X.env.qual ++ "<lambda>", params, body, scope, cloFrom X.env.cells scope.names [], c'⟩) → H1 c' = some (CodeO c' (X.env.qual ++ "<lambda>")) → f ≠ c' → Q (.ref f) s') :
    wpAny (model X.prog X.w) X.A (eval (.Lambda params body scope pos) X.env) Q E s := by
  obtain ⟨ps, hP, ht, ha⟩ := (show TabN H P nm from hT _ hm)
  refine PySem.W.kla_eval hdef ?_
  have bP : s.heap.BuiltinsAt X.mg P := TB.bm.keeps I.bk
  have hP' : s.heap.get? P = some { cls := .none, data := .fields ps } := I.hok P _ hP
  cases hc : codeAmong pos ps.toList with
  | none =>
    refine PySem.W.kla_makeFunction (mg := X.mg) (c := c) (P := P) (ps := ps) (closure_ok hfree) I.ok.glob (I.mod.glob.keeps I.bk) hcode (TB.code.keeps I.bk) hP' ht hc TB.gP bP fun c' ctv h' tk hx hge hlt hrec htb => ?_
    obtain ⟨c2, oc, vs, t, e2, hoc, hd, hv⟩ := hrec
    cases e2
    have nC : H c' = none := I.hok.fresh hge
    have I1 := inv_table (t' := tk) (more := #[rawInt pos.line, rawInt pos.col, .ref c']) (h' := h') I hP (fun b o hb e => hx b o hb e) htb hge ⟨oc, vs, t, hoc, hd, hv⟩
    have hE : ExtN H (upd (upd H P (.tbl (ps ++ #[rawInt pos.line, rawInt pos.col, .ref c']))) c' (CodeO c' (X.env.qual ++ "<lambda>"))) := fun b o e n => by
      rw [upd_ne (ne_of_none e nC), upd_ne (fun z => n ps (Option.some.inj (e.symm.trans (by rw [z]; exact hP))))]
      exact e
    have eL : (ps ++ #[rawInt pos.line, rawInt pos.col, .ref c']).toList = ps.toList ++ [rawInt pos.line, rawInt pos.col, .ref c'] := by simp
    have T1 : TabsN T (upd (upd H P (.tbl (ps ++ #[rawInt pos.line, rawInt pos.col, .ref c']))) c' (CodeO c' (X.env.qual ++ "<lambda>"))) := fun p hp => by
      by_cases hb : p.1 = P
      · rw [hu p hp hb, hb]
        refine ⟨_, by rw [upd_ne (ne_of_none hP nC), upd_same], by rw [eL]; exact PySem.TriplesOk_snoc _ _ _ _ ht, fun p' cv hcv => ?_⟩
        rw [eL] at hcv
        rcases among_app2 _ ht hcv with z | ⟨z, z1, z2⟩
        · obtain ⟨c0, e1, e2⟩ := ha p' cv z
          exact ⟨c0, e1, hE _ _ e2 codeO_ne⟩
        · refine ⟨c', z, ?_⟩
          rw [← z1, ← z2, hn]
          exact upd_same
      · obtain ⟨ps', a1, a2, a3⟩ := hT p hp
        refine ⟨ps', by rw [upd_ne (ne_of_none a1 nC), upd_ne hb]; exact a1, a2, fun p' cv hcv => ?_⟩
        obtain ⟨c0, e1, e2⟩ := a3 p' cv hcv
        exact ⟨c0, e1, hE _ _ e2 codeO_ne⟩
    have nF := I1.hok.fresh (Nat.le_refl _)
    have I2 := inv_lam (F := ⟨X.env.qual ++ "<lambda>", params, body, scope, cloFrom X.env.cells scope.names [], c'⟩) (t' := tk) (pm := (X.mg "__name__").getD .none) (ctv := ctv) I1 rfl
    refine h h'.objs.size c' _ _ I2 (fun b o e n => ?_) (fun b e => upd_none (upd_none (upd_none e))) (T1.ext fun b o e => ?_) (I.hok.fresh (Nat.le_trans hge (Nat.le_of_lt hlt))) upd_same ?_ (Nat.ne_of_gt hlt)
    · have e1 := hE b o e n
      exact (upd_ne (ne_of_none e1 nF)).trans e1
    · exact (upd_ne (ne_of_none e nF)).trans e
    · exact (upd_ne (Nat.ne_of_lt hlt)).trans upd_same
  | some cv =>
    obtain ⟨c', e, hco⟩ := ha pos cv hc
    subst e
    rw [hn] at hco
    refine PySem.W.kla_makeFunctionHit (mg := X.mg) (c := c) (P := P) (ps := ps) (closure_ok hfree) I.ok.glob (I.mod.glob.keeps I.bk) hcode (TB.code.keeps I.bk) hP' ht hc bP fun ctv h' tk hx hsz => ?_
    have I1 : Inv X pins σ H { s with heap := h', toks := tk } := I.kept hx
    have nF : H h'.objs.size = none := I1.hok.fresh (Nat.le_refl _)
    have I2 := inv_lam (F := ⟨X.env.qual ++ "<lambda>", params, body, scope, cloFrom X.env.cells scope.names [], c'⟩) (t' := tk) (pm := (X.mg "__name__").getD .none) (ctv := ctv) I1 rfl
    refine h h'.objs.size c' _ _ I2 (fun b o e n => ?_) (fun b e => upd_none e) (hT.ext fun b o e => ?_) nF upd_same ?_ (fun z => by rw [z, hco] at nF; cases nF)
    · exact (upd_ne (ne_of_none e nF)).trans e
    · exact (upd_ne (ne_of_none e nF)).trans e
    · exact (upd_ne (ne_of_none hco nF)).trans hco
end
/-- the making's reading -/
def tLam3 (T : List NTab) (mk : Addr → LF) (lk : Str → Option Addr) : TE := fun σ H Q => TabsN T H ∧ ∀ (f c' : Addr) (H1 : Hp), ExtN H H1 → (∀ b, H1 b = Option.none → H b = Option.none) → TabsN T H1 → H f = none → H1 f = some (LamO f (mk c')) → H1 c' = some (CodeO c' (mk c').qual) → f ≠ c' → ((mk c').cl.map (·.2)).Nodup → (∀ p ∈ (mk c').cl, lk p.1 = some p.2) → Q (.ref f) H1
theorem nodup_of {α β : Type} : ∀ {l : List (α × β)}, (l.map (·.1)).Nodup → (∀ x ∈ l, ∀ y ∈ l, x.2 = y.2 → x.1 = y.1) → (l.map (·.2)).Nodup
  | [], _, _ => List.nodup_nil
  | p :: l, h, q => by
    rw [List.map_cons, List.nodup_cons] at h ⊢
    refine ⟨fun hm => ?_, nodup_of h.2 fun x hx y hy => q x (List.mem_cons_of_mem _ hx) y (List.mem_cons_of_mem _ hy)⟩
    obtain ⟨r, hr, e⟩ := List.mem_map.mp hm
    exact h.1 (List.mem_map.mpr ⟨r, hr, q r (List.mem_cons_of_mem _ hr) p List.mem_cons_self e⟩)
theorem clo_at {cells : List (Str × Addr)} {names : List (Str × NameKind)} (hfree : ∀ y ∈ names, y.2 = .free → ∃ c, cells.lookup y.1 = some c) {n : Str} {c : Addr} (h : (n, c) ∈ cloFrom cells names []) : cells.lookup n = some c := by
  rcases cloFrom_mem h with h | ⟨h1, h2⟩
  · cases h
  · obtain ⟨c', e⟩ := hfree _ h1 rfl
    have e : cells.lookup n = some c' := e
    rw [e] at h2
    rw [e, h2]; rfl
theorem clo_nodup {X : Cx} {names : List (Str × NameKind)} (ok : X.Ok) (hfree : ∀ y ∈ names, y.2 = .free → ∃ c, X.env.cells.lookup y.1 = some c) (hnd : ((cloFrom X.env.cells names []).map (·.1)).Nodup) : ((cloFrom X.env.cells names []).map (·.2)).Nodup :=
  nodup_of hnd fun x hx y hy e => ok.inj x.1 y.1 x.2 (clo_at hfree hx) (by rw [e]; exact clo_at hfree hy)
theorem pe_lam3 {X : Cx} {T : List NTab} {nm : Nat → Nat → Str} {c P : Addr} {params : Arguments} {body : Expr} {scope : Scope} {pos : Pos} (TB : TabB X.base X.mg c P) (hcode : X.env.code = .ref c) (hm : (P, nm) ∈ T) (hn : nm pos.line pos.col = X.env.qual ++ "<lambda>") (hu : ∀ p ∈ T, p.1 = P → p.2 = nm)
    (hdef : defaultsOf params X.env = ([], [])) (hfree : ∀ y ∈ scope.names, y.2 = .free → X.env.scope.names.lookup y.1 = some .cell ∨ X.env.scope.names.lookup y.1 = some .free) (hnd : ((cloFrom X.env.cells scope.names []).map (·.1)).Nodup) :
    PE X (.Lambda params body scope pos) (tLam3 T (fun c' => ⟨X.env.qual ++ "<lambda>", params, body, scope, cloFrom X.env.cells scope.names [], c'⟩) fun y => X.env.cells.lookup y) := by
  refine ⟨fun pins s σ H Q I ⟨hT, h⟩ => ?_⟩
  exact lam_makeN I TB hcode hm hn hu hT hdef (fun y hy e => (hfree y hy e).elim (fun z => I.ok.has _ (.inl z)) fun z => I.ok.has _ (.inr z)) fun f c' H1 s' I1 e n T1 f0 f1 c1 ne => ⟨.ref f, H1, I1, rfl, h f c' H1 e n T1 f0 f1 c1 ne (clo_nodup I.ok (fun y hy e => (hfree y hy e).elim (fun z => I.ok.has _ (.inl z)) fun z => I.ok.has _ (.inr z)) hnd) fun p hp => clo_at (fun y hy e => (hfree y hy e).elim (fun z => I.ok.has _ (.inl z)) fun z => I.ok.has _ (.inr z)) hp⟩
/-! ### a lambda of a frame, as data -/
def ownOf (N : List Str) (sc : Scope) (cells : List (Str × Addr)) : Nat → Option Addr := fun i => match N[i]? with
  | some y => if sc.names.lookup y = some .cell ∨ sc.names.lookup y = some .free then cells.lookup y else none
  | none => none
structure Owner (P : P3) : Prop where
  own : P.G.own = ownOf P.X.N P.X.env.scope P.X.env.cells
  fn : ∀ y, P.X.fn y = true
  base : P.X.base = P.G.base
theorem Owner.ok {P : P3} (o : Owner P) : OwnOk P := fun i a e => by
  rw [o.own] at e
  unfold ownOf at e
  split at e
  · rename_i y hy
    split at e
    · rename_i hk
      exact ⟨y, hy, o.fn y, hk, e⟩
    · cases e
  · cases e
def ioApp (io : Io) (n : Nat) (as : List Addr) : Io := fun k => if k < n then io k else as[k - n]?
/-- a function of the code c over the slots js -/
def eLam (c : String) (js : List Nat) : EM := fun _ st => .ok (.val (.fn c (List.range' st.length js.length))) (st ++ js.map .slp)
theorem ioApp_new {io : Io} {n : Nat} {as : List Addr} : (List.range' n as.length).map (ioApp io n as) = as.map some := by
  apply List.ext_getElem?
  intro i
  rw [List.getElem?_map, List.getElem?_map]
  by_cases hi : i < as.length
  · rw [List.getElem?_range' (by simpa using hi)]
    simp only [Option.map_some]
    unfold ioApp
    rw [if_neg (by omega), show n + 1 * i - n = i by omega, List.getElem?_eq_getElem hi]
    rfl
  · rw [List.getElem?_eq_none (by simpa using hi), List.getElem?_eq_none (by omega)]
    rfl
open Classical in
theorem Wd.lam {G : G3} {B : Addr → Prop} {st : Store} {s : S3} {H1 : Hp} {f : Addr} {js : List Nat} {as : List Addr} (w : Wd G B st s) (eN : ExtN s.H H1) (T1 : TabsN G.tabs H1) (f0 : s.H f = none) {o : HO} (f1 : H1 f = some o) (nt : NoTbl o)
    (hjs : ∀ i j : Nat, js[i]? = some j → ∃ a, as[i]? = some a ∧ G.own j = some a) (hl : as.length = js.length) :
    ∃ F1, Wd G B (st ++ js.map .slp) ⟨ioApp s.io st.length as, F1, H1⟩ ∧ Le B s ⟨ioApp s.io st.length as, F1, H1⟩ ∧ F1 f = some o ∧ ∀ c q, H1 c = some (CodeO c q) → F1 c = some (CodeO c q) := by
  refine ⟨fun a => if a = f ∨ ∃ q, H1 a = some (CodeO a q) then H1 a else s.F a, ?_, ?_, if_pos (.inl rfl) |>.trans f1, fun c q e => (if_pos (.inr ⟨q, e⟩)).trans e⟩
  · have keepF : Same s.F (fun a => if a = f ∨ ∃ q, H1 a = some (CodeO a q) then H1 a else s.F a) := fun b o e => by
      show (if b = f ∨ ∃ q, H1 b = some (CodeO b q) then H1 b else s.F b) = some o
      split
      · exact eN b o (w.sub b o e) (w.ftb b o e)
      · exact e
    have hio : IoLe s.io (ioApp s.io st.length as) := fun k a e => by unfold ioApp; rw [if_pos (w.dom k a e)]; exact e
    have away : ∀ a u, s.H a = some u → (∀ q, u ≠ CodeO a q) → NoTbl u → ¬ (a = f ∨ ∃ q, H1 a = some (CodeO a q)) := fun a u e n t z => by
      rcases z with z | ⟨q, z⟩
      · rw [z, f0] at e; cases e
      · rw [eN a u e t] at z; cases z; exact n q rfl
    refine ⟨fun b o e => ?_, fun a b => ?_, fun a o e => ?_, fun k a e => ?_, fun j k a oj ok e1 e2 q1 t1 q2 t2 => ?_, fun k o e t => ?_, fun k o e t => ?_, fun p hp => ?_⟩
    · have e : (if b = f ∨ ∃ q, H1 b = some (CodeO b q) then H1 b else s.F b) = some o := e
      split at e
      · exact e
      · exact eN b o (w.sub b o e) (w.ftb b o e)
    · obtain ⟨h1, o, h2, h3⟩ := w.hid a b
      refine ⟨?_, o, eN a o h2 h3.tbl, h3⟩
      show (if a = f ∨ ∃ q, H1 a = some (CodeO a q) then H1 a else s.F a) = none
      rw [if_neg (away a o h2 (fun q => h3.code a q) h3.tbl)]
      exact h1
    · have e : (if a = f ∨ ∃ q, H1 a = some (CodeO a q) then H1 a else s.F a) = some o := e
      split at e
      · rename_i z
        rcases z with z | ⟨q, z⟩
        · rw [z, f1] at e; cases e; exact nt
        · rw [z] at e; cases e; exact fun ps => codeO_ne ps
      · exact w.ftb a o e
    · have e : (if k < st.length then s.io k else as[k - st.length]?) = some a := e
      rw [List.length_append, List.length_map]
      split at e
      · omega
      · have := (List.getElem?_eq_some_iff.mp e).1
        omega
    · have old : ∀ {j : Nat} {o : MO}, (st ++ js.map .slp)[j]? = some o → o.tr = true → j < st.length ∧ st[j]? = some o := fun {j o} e t => by
        by_cases q : j < st.length
        · rw [List.getElem?_append_left q] at e
          exact ⟨q, e⟩
        · rw [List.getElem?_append_right (by omega), List.getElem?_map] at e
          obtain ⟨i, _, rfl⟩ := Option.map_eq_some_iff.mp e
          cases t
      obtain ⟨l1, p1⟩ := old q1 t1
      obtain ⟨l2, p2⟩ := old q2 t2
      have e1 : (if j < st.length then s.io j else as[j - st.length]?) = some a := e1
      have e2 : (if k < st.length then s.io k else as[k - st.length]?) = some a := e2
      rw [if_pos l1] at e1
      rw [if_pos l2] at e2
      exact w.inj j k a oj ok e1 e2 p1 t1 p2 t2
    · by_cases q : k < st.length
      · rw [List.getElem?_append_left q] at e
        obtain ⟨a, e1, b1, f2, o1⟩ := w.obj k o e t
        obtain ⟨u, hu⟩ := o1.there
        have nt' : NoTbl u := fun ps z => o1.ntbl ps (by rw [hu, z])
        have nc : ∀ q, u ≠ CodeO a q := fun q z => by
          subst z
          cases o with
          | lst xs => obtain ⟨vs, y, _⟩ := o1; rw [hu] at y; unfold CodeO at y; cases y
          | dic ks us => obtain ⟨vs, y, _⟩ := o1; rw [hu] at y; unfold CodeO at y; cases y
          | ddi ks us => obtain ⟨xs, y, _⟩ := o1; rw [hu] at y; exact dkO_code (Option.some.inj y).symm
          | ins c fs => obtain ⟨_, _, _, _, y, _⟩ := o1; rw [hu] at y; unfold CodeO at y; cases y
          | cell d => obtain ⟨v, y, _⟩ := o1; rw [hu] at y; exact cellO_code (Option.some.inj y).symm
          | _ => exact False.elim o1
        refine ⟨a, hio k a e1, b1, ?_, ObjR.mono (s := s) (s' := ⟨ioApp s.io st.length as, _, H1⟩) hio keepF ((eN a u hu nt').trans hu.symm) o1⟩
        show (if a = f ∨ ∃ q, H1 a = some (CodeO a q) then H1 a else s.F a) = none
        rw [if_neg (away a u hu nc nt')]
        exact f2
      · rw [List.getElem?_append_right (by omega), List.getElem?_map] at e
        obtain ⟨i, _, rfl⟩ := Option.map_eq_some_iff.mp e
        cases t
    · by_cases q : k < st.length
      · rw [List.getElem?_append_left q] at e
        exact w.untM (s' := ⟨ioApp s.io st.length as, _, H1⟩) hio keepF k o e t
      · rw [List.getElem?_append_right (by omega), List.getElem?_map] at e
        obtain ⟨j, ej, rfl⟩ := Option.map_eq_some_iff.mp e
        obtain ⟨a, ea, ow⟩ := hjs _ j ej
        refine ⟨a, ?_, ow⟩
        show (if k < st.length then s.io k else as[k - st.length]?) = some a
        rw [if_neg q]
        exact ea
    · obtain ⟨ps, e, t, r⟩ := T1 p hp
      refine ⟨ps, e, t, fun pos cv q => ?_⟩
      obtain ⟨c, e1, e2⟩ := r pos cv q
      exact ⟨c, e1, (if_pos (.inr ⟨_, e2⟩)).trans e2⟩
  · refine ⟨fun k a e => by show ioApp s.io st.length as k = some a; unfold ioApp; rw [if_pos (w.dom k a e)]; exact e, fun b o e => ?_, fun a b => ?_⟩
    · show (if b = f ∨ ∃ q, H1 b = some (CodeO b q) then H1 b else s.F b) = some o
      split
      · exact eN b o (w.sub b o e) (w.ftb b o e)
      · exact e
    · obtain ⟨h1, o, h2, h3⟩ := w.hid a b
      exact (eN a o h2 h3.tbl).trans h2.symm
theorem Wd.tabsN {G : G3} {B : Addr → Prop} {st : Store} {s : S3} (w : Wd G B st s) : TabsN G.tabs s.H := fun p hp => by
  obtain ⟨ps, e, t, r⟩ := w.tabs p hp
  exact ⟨ps, e, t, fun pos cv q => let ⟨c, e1, e2⟩ := r pos cv q; ⟨c, e1, w.sub _ _ e2⟩⟩
theorem me_lam {P : P3} {cd : String} {nm : Nat → Nat → Str} {c T : Addr} {params : Arguments} {body : Expr} {scope : Scope} {pos : Pos} {fr : List Str} {js : List Nat} (ow : Owner P) (TB : TabB P.X.base P.X.mg c T) (hcode : P.X.env.code = .ref c) (hm : (T, nm) ∈ P.G.tabs) (hu : ∀ p ∈ P.G.tabs, p.1 = T → p.2 = nm)
    (hn : nm pos.line pos.col = P.X.env.qual ++ "<lambda>") (hnf : ∀ (c' : Addr) (cl : List (Str × Addr)), cl.map (·.1) = fr → P.G.nf cd (LF.fv ⟨P.X.env.qual ++ "<lambda>", params, body, scope, cl, c'⟩))
    (hdef : defaultsOf params P.X.env = ([], []) := by rfl) (hfree : ∀ y ∈ scope.names, y.2 = .free → P.X.env.scope.names.lookup y.1 = some .cell ∨ P.X.env.scope.names.lookup y.1 = some .free)
    (hfr : (cloFrom P.X.env.cells scope.names []).map (·.1) = fr := by rfl) (hnd : fr.Nodup := by decide) (hjs : js.map (fun j => P.X.N[j]?) = fr.map some := by rfl) : ME P (.Lambda params body scope pos) (eLam cd js) := by
  refine ME.mk' (pe_lam3 TB hcode hm hn hu hdef hfree (by rw [hfr]; exact hnd)) fun B0 B s st u z Q wd sl h => ⟨wd.tabsN, fun f c' H1 eN _ T1 f0 f1 c1 ne hN2 hlk => ?_⟩
  have hl : (cloFrom P.X.env.cells scope.names []).length = js.length := by
    have q := congrArg List.length hfr
    have q2 := congrArg List.length hjs
    simp only [List.length_map] at q q2
    omega
  have hq : ∀ i j : Nat, js[i]? = some j → ∃ a, ((cloFrom P.X.env.cells scope.names []).map (·.2))[i]? = some a ∧ P.G.own j = some a := fun i j ej => by
    have hj : (js.map (fun j => P.X.N[j]?))[i]? = some (P.X.N[j]?) := by rw [List.getElem?_map, ej]; rfl
    rw [hjs, List.getElem?_map] at hj
    obtain ⟨y, ey, eN'⟩ := Option.map_eq_some_iff.mp hj
    rw [← hfr, List.getElem?_map] at ey
    obtain ⟨⟨y', a⟩, ey2, rfl⟩ := Option.map_eq_some_iff.mp ey
    refine ⟨a, by rw [List.getElem?_map, ey2]; rfl, ?_⟩
    have hmem : (y', a) ∈ cloFrom P.X.env.cells scope.names [] := List.mem_of_getElem? ey2
    have hmf : (y', NameKind.free) ∈ scope.names := by
      rcases cloFrom_mem hmem with z | ⟨z, _⟩
      · cases z
      · exact z
    rw [ow.own]
    unfold ownOf
    rw [← eN']
    dsimp only
    rw [if_pos (hfree _ hmf rfl)]
    exact hlk _ hmem
  obtain ⟨F1, w1, l1, e1, e2⟩ := wd.lam (js := js) (as := (cloFrom P.X.env.cells scope.names []).map (·.2)) eN T1 f0 f1 (by intro ps q; cases q) hq (by rw [List.length_map]; exact hl)
  refine h ⟨_, F1, H1⟩ (.ref f) l1 w1 ?_
  refine Rep.fn (Fn := LF.fv ⟨P.X.env.qual ++ "<lambda>", params, body, scope, cloFrom P.X.env.cells scope.names [], c'⟩) e1 (hnf c' _ hfr) (e2 c' _ c1) ?_ hN2
  have q := ioApp_new (io := s.io) (n := st.length) (as := (cloFrom P.X.env.cells scope.names []).map (·.2))
  rw [List.length_map, hl, List.map_map] at q
  exact q
end M3
/-! functions as values: their promises, their calls -/
namespace M3
open PySem PySem.Spec PyProof.Rows L2 LamX NdefX
/-- what the captured cells hold -/
def CapsAt (cl : List (Str × Addr)) (ws : List V) (h : Heap) (H : Hp) : Prop := ws.length = cl.length ∧ ∀ (i : Nat) (p : Str × Addr) (v : V), cl[i]? = some p → ws[i]? = some v → H p.2 = none ∧ ∃ u, L2.RelV v u ∧ h.IsCell p.2 (some u)
/-- the promise of a function value -/
structure VOk (P : Program) (w : World) (K : PySem.W.Frag) (mg : Str → Option Value) (base : Heap) (CX : CXT) (k : Nat) (F : FV) (sp : Sp) : Prop where
  fn : ∀ (H : Hp) (h : Heap) (f : Addr), HOk P w H h → H f = some (F.ob f) → PySem.W.FnAt f h
  run : ∀ (A : Around) (outer : List Env) (s : Shared) (H : Hp) (f : Addr) (us : List Value) (vs : List V) (Q : VK) (E : XK), Room k A → Env0 P w K mg base A outer s H → H f = some (F.ob f) → H F.c = some (CodeO F.c F.qual) →
    (F.cl.map (·.2)).Nodup → Vals vs us → sp vs H Q E → codeAny (model P w) A (.call (.ref f) ⟨us, []⟩) (CR CX outer P w H s Q E) s
theorem VOk.mono {P : Program} {w : World} {K : PySem.W.Frag} {mg : Str → Option Value} {base : Heap} {CX : CXT} {j k : Nat} {F : FV} {sp : Sp} (o : VOk P w K mg base CX j F sp) (h : j ≤ k) : VOk P w K mg base CX k F sp :=
  ⟨o.fn, fun A outer s H f us vs Q E hr => o.run A outer s H f us vs Q E (hr.mono h)⟩
/-- the def that stands for a lambda's frame -/
def LF.nf (F : LF) : NF := ⟨"<lambda>", F.qual, F.params, [], F.scope, F.cl, F.c⟩
theorem look_nodup {cl : List (Str × Addr)} : ∀ {i : Nat} {p : Str × Addr}, (cl.map (·.1)).Nodup → cl[i]? = some p → cl.lookup p.1 = some p.2 := by
  induction cl with
  | nil => intro i p _ e; simp at e
  | cons q cl ih =>
    intro i p nd e
    rw [List.map_cons, List.nodup_cons] at nd
    rw [List.lookup_cons]
    cases i with
    | zero => simp at e; subst e; simp
    | succ i =>
      have e : cl[i]? = some p := by simpa using e
      have ne : (p.1 == q.1) = false := by
        rw [beq_eq_false_iff_ne]
        intro z
        exact nd.1 (z ▸ List.mem_map.mpr ⟨p, List.mem_of_getElem? e, rfl⟩)
      rw [ne]
      exact ih nd.2 e
theorem caps_cells {cl : List (Str × Addr)} {fr : List Str} {ws : List V} {h : Heap} {H : Hp} (hfr : cl.map (·.1) = fr) (nd : fr.Nodup) (nd2 : (cl.map (·.2)).Nodup) (c : CapsAt cl ws h H) : CellsAt cl fr (ws.map some) h H := by
  subst hfr
  have mem : ∀ {y : Str} {c : Addr}, cl.lookup y = some c → ∃ i, cl[i]? = some (y, c) := fun {y c} e => List.mem_iff_getElem?.mp (PySem.mem_of_lookup e)
  refine ⟨by rw [List.length_map, List.length_map]; exact c.1, fun y a e => ?_, fun x y a e1 e2 => ?_, fun i y e => ?_⟩
  · obtain ⟨i, hi⟩ := mem e
    obtain ⟨v, hv⟩ : ∃ v, ws[i]? = some v := ⟨ws[i]'(by rw [c.1]; exact (List.getElem?_eq_some_iff.mp hi).1), List.getElem?_eq_getElem _⟩
    obtain ⟨h1, u, _, h2⟩ := c.2 i _ v hi hv
    exact ⟨h1, _, h2⟩
  · obtain ⟨i, hi⟩ := mem e1
    obtain ⟨j, hj⟩ := mem e2
    have e3 : (cl.map (·.2))[i]? = (cl.map (·.2))[j]? := by rw [List.getElem?_map, List.getElem?_map, hi, hj]; rfl
    have li : i < (cl.map (·.2)).length := by rw [List.length_map]; exact (List.getElem?_eq_some_iff.mp hi).1
    obtain rfl : i = j := (List.getElem?_inj li nd2).mp e3
    rw [hi] at hj
    exact congrArg Prod.fst (Option.some.inj hj)
  · rw [List.getElem?_map] at e
    obtain ⟨p, ep, rfl⟩ := Option.map_eq_some_iff.mp e
    refine ⟨p.2, look_nodup nd ep, fun v ev => ?_⟩
    rw [List.getElem?_map] at ev
    obtain ⟨v', ev', z⟩ := Option.map_eq_some_iff.mp ev
    cases z
    obtain ⟨_, u, r, q⟩ := c.2 i p v ep ev'
    exact ⟨u, r, q⟩
section
variable {P : Program} {w : World} {K : PySem.W.Frag} {mg : Str → Option Value} {base : Heap} {CX : CXT} {N ps fr : List Str} {k : Nat}
/-- a lambda, by its body -/
theorem lok_of {F : LF} {sp : List V → Sp} (hfr : F.cl.map (·.1) = fr) (S : NScope N ps fr F.scope) (hb : ∀ (pm ctv : Value) (us : List Value), us.length = ps.length → bindArgs (F.fd pm ctv) ⟨us, []⟩ = pure (ps.zip us)) (len : ∀ ws vs H Q E, sp ws vs H Q E → vs.length = ps.length)
    (hbody : ∀ (A : Around) (outer : List Env) (s : Shared) (H : Hp) (f : Addr) (vs ws : List V) (Q : VK) (E : XK), Room k (A.deeper (envF F.nf f s.heap.objs.size)) → ws.length = fr.length → sp ws vs H Q E →
      ∃ t, PE (ncx CX P w K mg base N F.nf f A outer s H E) F.body t ∧ t (startF N vs (ws.map some)) H Q) :
    VOk P w K mg base CX (k + 1) F.fv (fun vs H Q E => ∃ ws, sp ws vs H Q E ∧ ws.length = F.cl.length ∧ ∀ (i : Nat) (p : Str × Addr) (v : V), F.cl[i]? = some p → ws[i]? = some v → ∃ u, L2.RelV v u ∧ base.IsCell p.2 (some u)) := by
  have ndf : fr.Nodup := by
    have q := S.nd.sublist (List.take_sublist (ps.length + fr.length) N)
    rw [S.pre] at q
    exact (List.nodup_append.mp q).2.1
  refine ⟨fun H h f ok e => ?_, fun A outer s H f us vs Q E hr e0 hf hc nd2 r ⟨ws, hsp, hwl, hcell⟩ => ?_⟩
  · obtain ⟨od, sl, pm, ctv, ho⟩ := lamO_at ok (F := F) e
    exact ⟨_, od, _, sl, ho⟩
  have hl := len _ _ _ _ _ hsp
  have lim : s.heap.NoLimit := e0.mod.nolimit.keeps fun b o e => (e0.bs b o e).1
  obtain ⟨od, sl, pm, ctv, ho⟩ := lamO_at e0.hok (F := F) hf
  have cr := codeO_at e0.hok (c := F.c) (q := F.qual) hc
  have C : CapsAt F.cl ws s.heap H := ⟨hwl, fun i p v e1 e2 => by
    obtain ⟨u, ru, o, ho, hd⟩ := hcell i p v e1 e2
    obtain ⟨h1, h2⟩ := e0.bs p.2 o ho
    exact ⟨h2, u, ru, o, h1, hd⟩⟩
  have CC := caps_cells hfr ndf nd2 C
  refine PySem.W.kla_callFunE hr.depth ho rfl S.co S.gen rfl cr ?_
  rw [hb pm ctv us (by rw [← r.length]; exact hl)]
  refine wpAny_pure (wpAny_newFunctionEnv S.nocell (fun ⟨n, _⟩ hy => S.par n (List.of_mem_zip hy).1) (fun h₁ hns hsb => ⟨lim.fresh _ hsb, ?_⟩) S.kind)
  show codeAny _ _ (.expr F.body (envF F.nf f s.heap.objs.size)) _ _
  have kp : ∀ b o, s.heap.get? b = some o → h₁.get? b = some o := fun b o e => hsb.extBut b o (Nat.ne_of_lt (Heap.lt_size e)) (Heap.get?_push_of_some _ e)
  have wl : ws.length = fr.length := by rw [← hfr, List.length_map]; exact C.1
  obtain ⟨t, ht, hq⟩ := hbody A outer s H f vs ws Q E (hr.deeper _) wl hsp
  have I : Inv (ncx CX P w K mg base N F.nf f A outer s H E) [] (startF N vs (ws.map some)) H { s with heap := h₁, toks := s.toks + (ps.zip us).length } := inv_startN (F := F.nf) S hr.hd e0 hl r CC hns kp
  refine PySem.W.kla_codeExpr (wpAny_mono (ht.run [] _ (startF N vs (ws.map some)) H Q I hq) (fun u s' hs => ?_) fun e s' hs => hs)
  obtain ⟨v, H', J, rv, q⟩ := hs
  exact ⟨v, H', J.os, J.bare, J.base, J.hok, rv, q⟩
end
/-! ### .. by mirrors -/
/-- a lambda's mirror -/
def mfnE (N : Nat) (e : EM) : List D → M D := fun ds => M.bind (e (ds.map (fun d => some (.val d)) ++ List.replicate (N - ds.length) none)) fun w => M.of w.d
def spV (G : G3) (F : FV) (n : Nat) (m : List Nat → List D → M D) : Sp := fun vs H Q E => vs.length = n ∧ ∃ (B : Addr → Prop) (s : S3) (st : Store) (ds : List D) (ks : List Nat), s.H = H ∧ Wd G B st s ∧ RepL G.R s.F s.io ds vs ∧ ks.map s.io = F.cl.map (fun y => some y.2) ∧
  Post G B (fun s d v => Rep G.R s.F s.io d v) E s Q (m ks ds st)
theorem startF_start {N : List Str} {vs ws : List V} : startF N vs (ws.map some) = L2.start N (vs ++ ws) := by
  unfold startF L2.start
  rw [List.map_append, List.append_assoc, List.length_map, List.length_append, Nat.sub_sub]
def capsS (st : Store) : List Nat → Option (List D)
  | [] => some []
  | k :: ks => match st[k]?, capsS st ks with
    | some (.kc d), some ds => some (d :: ds)
    | _, _ => none
def capsM (ks : List Nat) : M (List D) := fun st => match capsS st ks with
  | some ds => .ok ds st
  | none => .bad
theorem caps_ok {G : G3} {B : Addr → Prop} {st : Store} {s : S3} (w : Wd G B st s) : ∀ {ks : List Nat} {cs : List D} {cl : List (Str × Addr)}, capsS st ks = some cs → ks.map s.io = cl.map (fun y => some y.2) →
    ∃ ws : List V, ws.length = cl.length ∧ RepL G.R s.F s.io cs ws ∧ ∀ (i : Nat) (p : Str × Addr) (v : V), cl[i]? = some p → ws[i]? = some v → ∃ u, L2.RelV v u ∧ G.base.IsCell p.2 (some u)
  | [], cs, [], e, _ => by cases e; exact ⟨[], rfl, .nil, fun i p v h => by simp at h⟩
  | [], _, _ :: _, _, h => by cases h
  | _ :: _, _, [], _, h => by cases h
  | k :: ks, cs, p :: cl, e, h => by
    rw [List.map_cons, List.map_cons, List.cons.injEq] at h
    unfold capsS at e
    split at e
    · rename_i d ds ek es
      cases e
      obtain ⟨ws, hl, rl, q⟩ := caps_ok w es h.2
      obtain ⟨a, ea, v, u, r, c, rv⟩ := w.unt k _ ek rfl
      rw [h.1] at ea
      cases ea
      refine ⟨v :: ws, by simp [hl], .cons rv rl, fun i p' v' h1 h2 => ?_⟩
      cases i with
      | zero => simp at h1 h2; subst h1; subst h2; exact ⟨u, r, c⟩
      | succ i => exact q i p' v' (by simpa using h1) (by simpa using h2)
    · cases e
/-- a lambda's mirror over the cells that it captured -/
def capd (m : List D → M D) : List Nat → List D → M D := fun ks ds => M.bind (capsM ks) fun cs => m (ds ++ cs)
theorem lam_ok {P : Program} {w : World} {K : PySem.W.Frag} {mg : Str → Option Value} {base : Heap} {G : G3} (hK : K = G.K) (hw : w = G.w) (hB : base = G.base) {N ps fr : List Str} {k : Nat} {e : EM} {F : LF} (hfr : F.cl.map (·.1) = fr) (S : NScope N ps fr F.scope)
    (hb : ∀ (pm ctv : Value) (us : List Value), us.length = ps.length → bindArgs (F.fd pm ctv) ⟨us, []⟩ = pure (ps.zip us))
    (h : ∀ (f : Addr) (A : Around) (outer : List Env) (s : Shared) (H : Hp) (E : XK), Room k (A.deeper (envF F.nf f s.heap.objs.size)) → ME ⟨ncx (L2.CX P w) P w K mg base N F.nf f A outer s H E, G, none, fun cls d _ H => E cls d H, hK, hw⟩ F.body e) :
    VOk P w K mg base (L2.CX P w) (k + 1) F.fv (spV G F.fv ps.length (capd (mfnE N.length e))) := by
  have main := lok_of (P := P) (w := w) (K := K) (mg := mg) (base := base) (CX := L2.CX P w) (k := k) (N := N) (ps := ps) (sp := fun ws vs H Q E => vs.length = ps.length ∧ ∃ (B : Addr → Prop) (s : S3) (st : Store) (ds cs : List D), s.H = H ∧ Wd G B st s ∧ RepL G.R s.F s.io ds vs ∧ RepL G.R s.F s.io cs ws ∧
      Post G B (fun s d v => Rep G.R s.F s.io d v) E s Q (mfnE N.length e (ds ++ cs) st)) hfr S hb (fun ws vs H Q E h => h.1) fun A outer s0 H f vs ws Q E hr wl ⟨hl, B, s, st, ds, cs, eH, wd, rd, rc, hp⟩ => by
    subst eH
    obtain ⟨t, pt, ht⟩ := (h f A outer s0 s.H E hr).out
    refine ⟨t, pt, ?_⟩
    rw [startF_start]
    refine ht B B s st _ _ _ wd (slo_start (N := N) (rd.append rc)) ?_
    unfold mfnE at hp
    refine Post.bind hp fun w st1 s1 v l1 wd1 r1 h1 => ?_
    cases ed : w.d with
    | none => rw [ed] at h1; exact h1.elim
    | some d => rw [ed] at h1; exact (by obtain rfl := d_val ed; exact h1 s1 v (Le.refl _) wd1 r1)
  refine ⟨main.fn, fun A outer s H f us vs Q E hr e0 hf hc nd r ⟨hl, B, s3, st, ds, ks, eH, wd, rl, hio, hp⟩ => main.run A outer s H f us vs Q E hr e0 hf hc nd r ?_⟩
  have hp2 : ∃ cs, capsS st ks = some cs ∧ Post G B (fun s d v => Rep G.R s.F s.io d v) E s3 Q (mfnE N.length e (ds ++ cs) st) := by
    unfold capd capsM M.bind at hp
    cases e2 : capsS st ks with
    | none => simp only [e2] at hp; exact hp.elim
    | some cs => simp only [e2] at hp; exact ⟨cs, rfl, hp⟩
  obtain ⟨cs, e2, hp⟩ := hp2
  obtain ⟨ws, hwl, rc, hcell⟩ := caps_ok wd e2 hio
  exact ⟨ws, ⟨hl, B, s3, st, ds, cs, eH, wd, rl, rc, hp⟩, hwl, fun i p v h1 h2 => by
    obtain ⟨u, q1, q2⟩ := hcell i p v h1 h2
    exact ⟨u, q1, by rw [hB]; exact q2⟩⟩
/-! ### calls -/
def fnOf (w : W) : Option (String × List Nat) := match w with
  | .val (.fn c ks) => some (c, ks)
  | _ => none
abbrev FnTab := List (String × (List Nat → List D → M D))
/-- the functions of a table keep their promises -/
def TabOk (Pg : Program) (w : World) (K : PySem.W.Frag) (mg : Str → Option Value) (base : Heap) (G : G3) (k n : Nat) (tab : FnTab) : Prop := ∀ c mf, (c, mf) ∈ tab → ∀ F, G.nf c F → VOk Pg w K mg base (L2.CX Pg w) k F (spV G F n mf)
/-- the call of a function value -/
def fcall (n : Nat) (tab : FnTab) (w : W) (ds : List D) : M D := M.bind (M.of (fnOf w)) fun q => M.bind (M.of (tab.lookup q.1)) fun mf => M.bind (M.chk (ds.length = n)) fun _ => mf q.2 ds
/-- what a call of the function at f wants, the arguments at hand -/
def WantV (X : Cx) (CX : CXT) (k : Nat) (E : XK) (f : Addr) : List V → Hp → VK → Prop := fun vs H Q => ∃ (F : FV) (sp : Sp), H f = some (F.ob f) ∧ H F.c = some (CodeO F.c F.qual) ∧ (F.cl.map (·.2)).Nodup ∧ VOk X.prog X.w X.K X.mg X.base CX k F sp ∧ sp vs H Q E
theorem run_v {X : Cx} {CX : CXT} {k : Nat} {E : L2.St → XK} {pins : List (Addr × Obj)} {z : L2.St} {H : Hp} {s : Shared} {Q : VK} {f : Addr} {us : List Value} {vs : List V} (hr : Room k X.A) (hx : PassesAt CX X z (E z)) (I : Inv X pins z H s) (r : Vals vs us) (h : WantV X CX k (E z) f vs H Q) :
    wpAny (model X.prog X.w) X.A (call (.ref f) us) (EP X pins z Q) X.xe s := by
  obtain ⟨F, sp, hf, hc, nd, vo, q⟩ := h
  refine wpAny_call (codeAny_mono (vo.run X.A X.stack s H f us vs Q (E z) hr I.env0 hf hc nd r q) fun r s' hq => ?_)
  cases r with
  | error e => exact hx pins H s e s' I hq
  | ok fl =>
    cases fl with
    | ret u => exact I.after hq
    | next => exact False.elim hq
    | brk => exact False.elim hq
    | cont => exact False.elim hq
/-- a lambda or a def -/
def FnL (F : FV) : Prop := (∃ L : LF, F = L.fv) ∨ ∃ N : NF, F = ⟨fun p => FnO p N, N.c, N.qual, N.cl⟩
abbrev FnA (X : Cx) (F : FV) : Prop := ∀ (H : Hp) (h : Heap) (f : Addr), HOk X.prog X.w H h → H f = some (F.ob f) → PySem.W.FnAt f h
theorem FnL.at_ {X : Cx} {F : FV} (h : FnL F) : FnA X F := fun H hp f ok e => by
  rcases h with ⟨L, rfl⟩ | ⟨N, rfl⟩
  · obtain ⟨od, sl, pm, ctv, ho⟩ := lamO_at ok (F := L) e
    exact ⟨_, od, _, sl, ho⟩
  · obtain ⟨od, sl, doc, pm, ctv, ho⟩ := fnO_at ok (F := N) e
    exact ⟨_, od, _, sl, ho⟩
section
variable {X : Cx} {CX : CXT} {k i : Nat} {E : L2.St → XK} {x m : Str} {p pos apos : Pos} {e o : Expr} {es : List Expr} {t : TA} {to : TE} {C : Addr}
theorem pe_callV0 (hr : Room k X.A) (hx : ∀ z, PassesAt CX X z (E z)) (hN : X.N[i]? = some x) (hv : Vis X.env.scope x) (hd : (x == ("__debug__" : Str)) = false := by decide) (hcd : (x == ("__classdict__" : Str)) = false := by decide) :
    PE X (.Call (.Name x p) [] [] pos) (fun z H Q => ∃ f F, z[i]? = some (some (.ref f)) ∧ H f = some (FV.ob F f) ∧ FnA X F ∧ WantV X CX k (E z) f [] H Q) := by
  refine ⟨fun pins s σ H Q I h => ?_⟩
  obtain ⟨f, F, hs, hf, fa, q⟩ := h
  refine wpAny_Call_Name_kw (thn ((pe_var (pos := p) hN hv hd hcd).run pins s σ H (fun v H1 => v = .ref f ∧ H1 = H) I ⟨.ref f, hs, rfl, rfl⟩) fun u s1 ⟨v, H1, I1, r1, q1⟩ => ?_)
  obtain ⟨ev, eH⟩ := q1
  subst ev
  rw [eH] at I1
  obtain rfl : u = Value.ref f := r1
  refine PySem.W.callWith_F0 (first := []) (fa _ _ f I1.hok hf) ?_
  exact run_v hr (hx σ) I1 .nil q
end
/-! ### .. by mirrors -/
/-- x(..), x at slot i -/
def eCallV (n : Nat) (tab : FnTab) (i : Nat) (ma : AM) : EM := fun u => M.bind (eVar i u) fun w => M.bind (M.of (fnOf w)) fun _ => M.bind (ma u) fun ws => M.bind (M.of (asDs ws)) fun ds => M.bind (fcall n tab w ds) fun d => M.pure (.val d)
def eCallA (n : Nat) (tab : FnTab) (cs : List String) (f : Str) (mo : EM) (ma : AM) : EM := fun u => M.bind (mo u) fun w => M.bind (insOf w) fun q => M.bind (M.chk (q.2.1 ∈ cs)) fun _ => M.bind (M.of (q.2.2.lookup f)) fun d => M.bind (M.of (fnOf (.val d))) fun _ =>
  M.bind (ma u) fun ws => M.bind (M.of (asDs ws)) fun ds => M.bind (fcall n tab (.val d) ds) fun d => M.pure (.val d)
theorem fnOf_eq {w : W} {q : String × List Nat} (e : fnOf w = some q) : w = .val (.fn q.1 q.2) := by
  unfold fnOf at e
  split at e
  · cases e; rfl
  · cases e
section
variable {P : P3} {pos p apos : Pos} {x m : Str} {e o : Expr} {es : List Expr} {ma : AM} {mo : EM} {tab : FnTab} {k j n i : Nat} {cs : List String}
/-- the call's wish, met by the mirror -/
theorem want_ok (h : TabOk P.X.prog P.X.w P.X.K P.X.mg P.X.base P.G k n tab) (hk : k ≤ j) {B : Addr → Prop} {s0 s : S3} {st : Store} {z : L2.St} {Q : VK} {f : Addr} {c : String} {ks : List Nat} {ds : List D} {vs : List V} {E : XK}
    (wd : Wd P.G B st s) (r : Rep P.G.R s.F s.io (.fn c ks) (.ref f)) (rl : RepL P.G.R s.F s.io ds vs) (hp : Post P.G B (RepW P.G P.hx B) E s Q (M.bind (fcall n tab (.val (.fn c ks)) ds) (fun d => M.pure (.val d)) st)) :
    WantV P.X (L2.CX P.X.prog P.X.w) j E f vs s.H Q := by
  cases r with
  | @fn _ _ _ F hf hnf hc hio nd =>
    have hp2 : ∃ mf, tab.lookup c = some mf ∧ ds.length = n ∧ Post P.G B (RepW P.G P.hx B) E s Q (M.bind (mf ks ds) (fun d => M.pure (.val d)) st) := by
      unfold fcall fnOf at hp
      simp only [M.bind, M.of, M.pure] at hp
      cases e1 : tab.lookup c with
      | none => rw [e1] at hp; exact hp.elim
      | some mf =>
        rw [e1] at hp
        by_cases hn : ds.length = n
        · refine ⟨mf, rfl, hn, ?_⟩
          simp only [M.of, M.pure, M.chk, hn, if_true] at hp
          exact hp
        · simp only [M.of, M.pure, M.chk, hn, if_false] at hp
          exact hp.elim
    obtain ⟨mf, e1, hn, hp⟩ := hp2
    refine ⟨F, spV P.G F n mf, wd.sub _ _ hf, wd.sub _ _ hc, nd, (h c mf (lookup_mem e1) F hnf).mono hk, by rw [← rl.length]; exact hn, B, s, st, ds, ks, rfl, wd, rl, hio, ?_⟩
    unfold M.bind at hp
    cases em : mf ks ds st with
    | ok d st' => rw [em] at hp; exact fun s' v l w r => hp s' v l w r
    | err c x st' => rw [em] at hp; exact hp
    | bad => rw [em] at hp; exact hp
theorem me_callV0 (h : TabOk P.X.prog P.X.w P.X.K P.X.mg P.X.base P.G k n tab) (hf : ∀ c F, P.G.nf c F → FnL F) (hr : Room j P.X.A) (hk : k ≤ j) (tk : Takes P.X P.wx) (i : Nat) (hN : P.X.N[i]? = some x := by rfl) (hv : Vis P.X.env.scope x := by first | exact .inl rfl | exact .inr (.inl rfl) | exact .inr (.inr rfl))
    (hd : (x == ("__debug__" : Str)) = false := by decide) (hcd : (x == ("__classdict__" : Str)) = false := by decide) : ME P (.Call (.Name x p) [] [] pos) (eCallV n tab i aNil) := by
  refine ME.mk' (pe_callV0 (CX := L2.CX P.X.prog P.X.w) (i := i) hr (fun σ => passAt tk σ) hN hv hd hcd) fun B0 B s st u z Q wd sl hp => ?_
  unfold eCallV eVar at hp
  cases eu : u[i]? with
  | none => simp only [eu] at hp; exact hp.elim
  | some ow =>
    cases ow with
    | none => simp only [eu] at hp; exact hp.elim
    | some w =>
      obtain ⟨v, ez, rv⟩ := sl.get eu
      have hp : Post P.G B (RepW P.G P.hx B) (fun c d H => P.wx c d z H) s Q (M.bind (M.of (fnOf w)) (fun _ => M.bind (fcall n tab w []) fun d => M.pure (.val d)) st) := by
        simpa only [eu, M.bind, M.pure, aNil, asDs, M.of] using hp
      obtain ⟨q, eq, hp⟩ := Post.of_of hp
      obtain rfl := fnOf_eq eq
      have rv : Rep P.G.R s.F s.io (.fn q.1 q.2) v := rv
      cases rv with
      | @fn _ _ f F hF hnf hc hio nd =>
        exact ⟨f, F, ez, wd.sub _ _ hF, (hf _ _ hnf).at_, want_ok h hk (s0 := s) (z := z) wd (Rep.fn hF hnf hc hio nd) .nil hp⟩
end
end M3
/-! defs with a star parameter, their calls; a, *b = e -/
namespace M3
open PySem PySem.Spec PyProof.Rows L2
/-! ### a, *b = a tuple -/
section
variable {X : Cx}
theorem pg_star {e0 e1 : Expr} {g0 g1 : TG} {k : Nat} {pos p1 : Pos} (hc : X.calm = true) (h0 : PG X e0 g0) (h1 : PG X e1 g1)
    (hn : (assignEach [e0, .Starred e1 p1] X.env).length = 2 := by rfl) (hst : (assignEach [e0, .Starred e1 p1] X.env).findIdx? (·.1) = some 1 := by rfl)
    (hs : (assignEach [e0, .Starred e1 p1] X.env).map (·.2) = [assign e0 X.env, assign e1 X.env] := by rfl) :
    PG X (.Tuple [e0, .Starred e1 p1] k pos) (fun v z H Q => ∃ a v0 vs, v = .ref a ∧ SqT X.K H a (v0 :: vs) ∧ vs.length ≤ 1000 ∧ ∀ D, H D = none → g0 v0 z (upd H D (.lst vs)) fun z1 H1 => g1 (.ref D) z1 H1 Q) := by
  refine ⟨fun pins s z H v u Q I r hw => ?_⟩
  obtain ⟨l, v0, vs, e1, hq, hz, hw⟩ := hw
  subst e1
  cases r
  obtain ⟨its, rv, ht, hzz⟩ := I.tuple hq
  cases rv with
  | @cons _ i0 _ its r0 rv =>
  have hsz : (i0 :: its).toArray.size = its.length + 1 := by simp
  have hl := rv.length
  have hh := I.ok.hd hc
  rw [assign_Tuple]
  refine wpAny_bind (wpAny_standAt ?_)
  unfold PySem.unpack
  rw [hn, hst]
  have hlt : l ≠ s.heap.objs.size := by obtain ⟨o, ho, _⟩ := ht; exact Nat.ne_of_lt (Heap.lt_size ho)
  refine wpAny_bind (wpAny_holding ?_)
  unfold unpackItems
  refine wpAny_bind ?_
  unfold notIterableAtAll
  refine wpAny_bind (wpAny_specialOf ht.typeIs slot_tuple_iter.lookup ?_)
  refine wpAny_pure ?_
  simp only [Bool.false_eq_true, if_false]
  refine wpAny_bind (wpAny_holding (iter_tuple ht ?_))
  refine wpAny_bind (wpAny_holding (draw_tuple hlt 1 0 _ _ ⟨_, Heap.get?_push_size _ rfl, rfl, rfl⟩ (ht.push _) (by rw [hsz]; omega) fun h₁ hit₁ hs₁ => ?_))
  have ht₁ : IsTup h₁ l (i0 :: its).toArray := (ht.push _).extBut hs₁.extBut hlt
  rw [Nat.zero_add] at hit₁
  have hit₁' := hit₁
  obtain ⟨oi, hoi, _⟩ := hit₁'
  have ht₁' := ht₁
  obtain ⟨ol, hol, _⟩ := ht₁'
  have etake : ((i0 :: its).toArray.toList.drop 0).take 1 = [i0] := by simp
  rw [etake]
  rw [if_neg (show ¬ ([i0].length < 1) by simp)]
  refine wpAny_bind (wpAny_holding (PySem.W.kun_collect (s := { s with heap := h₁ }) (T := "tuple_iterator") (.inr (.inr (.inr rfl))) (Walks.tuple (A := X.A.in1) hh s.heap.objs.size l hlt (i0 :: its).toArray) (fun j u st => st.1.typeIs) (k := 1) (by rw [hsz]; omega) ⟨hit₁, ht₁⟩ (Heap.lt_size hoi) (Heap.lt_size hol) (fun h₂ tk hk => ?_) (by rw [hsz, sizeLine_eq]; omega)))
  have edrop : (i0 :: its).toArray.toList.drop 1 = its := by simp
  rw [edrop]
  show wpAny _ _ (if its.length < 2 - 1 - 1 then _ else _) _ _ _
  rw [if_neg (by omega)]
  show wpAny _ _ (newList (its.take (its.length - (2 - 1 - 1))) >>= fun d => pure ([i0] ++ [d] ++ its.drop (its.length - (2 - 1 - 1)))) _ _ _
  rw [show its.length - (2 - 1 - 1) = its.length by omega, List.take_length, List.drop_length]
  have keep : ∀ b o, s.heap.get? b = some o → h₂.get? b = some o := fun b o e => by
    have hb : b ≠ s.heap.objs.size := Nat.ne_of_lt (Heap.lt_size e)
    exact hk b o hb (hs₁.extBut b o hb (Heap.get?_push_of_some _ e))
  have I1 : Inv X pins z H { s with heap := h₂, toks := tk } := I.kept keep
  have vsz : vs.length ≤ sizeLine := by rw [sizeLine_eq]; omega
  refine wpAny_bind (wpAny_newList (wpAny_pure ?_) (by rw [← hl]; exact vsz))
  show wpAny _ _ (assignInOrder ((assignEach [e0, .Starred _ p1] X.env).map (·.2)) [i0, .ref h₂.objs.size]) _ _ _
  rw [hs]
  have I2 : Inv X pins z (upd H h₂.objs.size (.lst vs)) { s with heap := h₂.push { cls := .type "list", data := .seq its.toArray }, toks := tk } :=
    I1.laid (fun b u e => Heap.get?_push_of_some _ e) (Nat.le_refl _) ⟨vsz, its, 0, rv, Heap.get?_push_size _ rfl⟩
  refine assignInOrder_cons (thn (h0.run pins _ z _ v0 i0 _ I2 r0 (hw _ (I1.hok.fresh (Nat.le_refl _)))) fun _ s1 ⟨z1, H1, J1, q1⟩ => ?_)
  refine assignInOrder_cons (thn (h1.run pins s1 z1 H1 (.ref h₂.objs.size) _ Q J1 rfl q1) fun _ s2 q => ?_)
  exact wpAny_pure q
end
/-- a, *b = e: e is data; b is a new list that nobody changes -/
def sAsgStar (m : EM) (g : GM) (i : Nat) : SM := fun u st => match m u st with
  | .ok (.val d) st' => match d with
    | .ctup (x :: xs) => if xs.length ≤ 1000 then match g x u with
        | some u' => .nx (u'.set i (some (.val (.lst xs)))) st'
        | none => .bad
      else .bad
    | .tup (x :: xs) => if xs.length ≤ 1000 then match g x u with
        | some u' => .nx (u'.set i (some (.val (.lst xs)))) st'
        | none => .bad
      else .bad
    | _ => .bad
  | .ok _ _ => .bad
  | .err c x st' => .err c x u st'
  | .bad => .bad
section
variable {P : P3} {pos : Pos}
theorem ms_asgStar {e0 e : Expr} {m : EM} {g : GM} {gs : List Nat} {x : Str} {k i : Nat} {p0 p1 p2 : Pos} (hc : P.X.calm = true) (he : ME P e m) (hg : MG P e0 g gs) (hi : MG P (.Name x p2) (gName3 i) [i])
    (hn : (assignEach [e0, .Starred (.Name x p2) p1] P.X.env).length = 2 := by rfl) (hst : (assignEach [e0, .Starred (.Name x p2) p1] P.X.env).findIdx? (·.1) = some 1 := by rfl)
    (hss : (assignEach [e0, .Starred (.Name x p2) p1] P.X.env).map (·.2) = [assign e0 P.X.env, assign (.Name x p2) P.X.env] := by rfl)
    (hs : swapsWithSole [.Tuple [e0, .Starred (.Name x p2) p1] k p0] e pos.line P.X.env = pure false := by rfl) (hw : swappedStores [.Tuple [e0, .Starred (.Name x p2) p1] k p0] e P.X.env = pure none := by rfl)
    (h1 : (assignEach [.Tuple [e0, .Starred (.Name x p2) p1] k p0] P.X.env).map (·.2) = [assign (.Tuple [e0, .Starred (.Name x p2) p1] k p0) P.X.env] := by rfl) : MS P (.Assign [.Tuple [e0, .Starred (.Name x p2) p1] k p0] e pos) (sAsgStar m g i) := by
  obtain ⟨t, pt, ht⟩ := he.out
  refine MS.mk' (ps_asg pt (pg_star hc hg.pg hi.pg hn hst hss) hs hw h1) fun B0 B s o u z Dn b0 wd sl h => ht B0 B s o u z _ wd sl ?_
  unfold sAsgStar at h
  cases e : m u o with
  | bad => rw [e] at h; exact h
  | err c x st' => rw [e] at h; exact fun s' cv dd l w q => h B s' z cv dd b0 (l.less b0) w (sl.mono' l) q
  | ok w st' =>
    rw [e] at h
    cases w with
    | val d =>
      have core : ∀ (y : D) (ys : List D) (s' : S3) (v : V) (a : Addr) (vs : List V), Le B s s' → Wd P.G B st' s' → v = .ref a → SqT P.X.K s'.H a vs → RepL P.G.R s'.F s'.io (y :: ys) vs →
          PostS P.G P.hx P.wx B0 s Dn (if ys.length ≤ 1000 then match g y u with
            | some u' => SRes.nx (u'.set i (some (.val (.lst ys)))) st'
            | none => .bad
          else .bad) → ∃ a v0 vs, v = .ref a ∧ SqT P.X.K s'.H a (v0 :: vs) ∧ vs.length ≤ 1000 ∧ ∀ Dl, s'.H Dl = none → tG P.G P.hx g gs v0 z (upd s'.H Dl (.lst vs)) fun z1 H1 => tG P.G P.hx (gName3 i) [i] (.ref Dl) z1 H1 (fun z' H' => Dn.nx z' H') := by
        intro y ys s' v a vs l w ev hq rl h
        cases rl with
        | @cons _ _ v0 vs r0 rl =>
          split at h
          · rename_i hle
            refine ⟨a, v0, vs, ev, hq, by rw [← rl.length]; exact hle, fun Dl hD => ?_⟩
            cases eg : g y u with
            | none => rw [eg] at h; exact h.elim
            | some u' =>
              rw [eg] at h
              obtain ⟨w2, l2⟩ := w.froz hD (.lst vs)
              refine ⟨B0, B, s'.froz Dl (.lst vs), st', u, y, u', rfl, w2, sl.mono' (l.trans l2), r0.mono l2.fr l2.io, eg, fun z' sl' _ => ?_⟩
              refine ⟨B0, B, s'.froz Dl (.lst vs), st', u', .lst ys, u'.set i (some (.val (.lst ys))), rfl, w2, sl', .lst upd_same (rl.mono l2.fr l2.io), rfl, fun z2 sl2 _ => ?_⟩
              exact h B _ z2 b0 ((l.trans l2).less b0) w2 sl2
          · exact h.elim
      cases d with
      | ctup ds =>
        cases ds with
        | nil => exact h.elim
        | cons y ys =>
          intro s' v l w r
          cases r with
          | ctup hq rl => exact core y ys s' _ _ _ l w rfl (by rw [P.hK]; exact same_sqT w.sub hq) rl h
      | tup ds =>
        cases ds with
        | nil => exact h.elim
        | cons y ys =>
          intro s' v l w r
          cases r with
          | tup hq rl => exact core y ys s' _ _ _ l w rfl (hq.mono w.sub).sq rl h
      | _ => exact h.elim
    | _ => exact h.elim
end
/-! ### a def with a star parameter -/
def mfnS (N np : Nat) (mb : SM) : List D → M D := fun ds => if np ≤ ds.length ∧ ds.length - np ≤ 1000 then mfn N mb (ds.take np ++ [.ctup (ds.drop np)]) else M.bad
def spR (G : G3) (m : List D → M D) : Sp := fun vs H Q E => ∃ (B : Addr → Prop) (s : S3) (st : Store) (ds : List D), s.H = H ∧ Wd G B st s ∧ RepL G.R s.F s.io ds vs ∧ Post G B (fun s d v => Rep G.R s.F s.io d v) E s Q (m ds st)
section
variable {P : Program} {w : World} {K : PySem.W.Frag} {mg : Str → Option Value} {base : Heap}
/-- what a body's mirror gives, wished of the def -/
theorem body_post {G : G3} {wx : WX} {B : Addr → Prop} {s : S3} {o : Store} {u : Sl3} {Q : VK} {E : XK} {mb : SM} {N : Nat} {ds : List D} (hwx : wx = fun cls d _ H => E cls d H) (hu : u = ds.map (fun d => some (.val d)) ++ List.replicate (N - ds.length) none)
    (hp : Post G B (fun s d v => Rep G.R s.F s.io d v) E s Q (mfn N mb ds o)) : PostS G none wx B s { nx := fun _ H' => Q .non H', rt := Q } (mb u o) := by
  subst hwx hu
  unfold mfn at hp
  cases em : mb (ds.map (fun d => some (.val d)) ++ List.replicate (N - ds.length) none) o with
  | nx u' st' => rw [em] at hp; exact fun B' s' z' b l w sl => hp s' .non l (w.less b) .non
  | rt w st' =>
    rw [em] at hp
    cases w with
    | val d => exact fun B' s' v b l w r => hp s' v l (w.less b) r
    | bor xs =>
      rintro B' s' v b l w ⟨p, vs', rfl, bp, nb, hq, r⟩
      have w' : Wd G (plus B p) st' s' := w.less fun a q => q.elim (b a) fun z => z ▸ bp
      exact hp ⟨s'.io, upd s'.F p (.lst vs'), s'.H⟩ (.ref p) (l.trans (freeze_le w')) (freeze_wd w' nb hq) (.lst upd_same (r.mono (freeze_le w').fr (freeze_le w').io))
    | bod ks us => exact hp.elim
    | bdd ks us => exact hp.elim
    | exn c x => exact hp.elim
    | len xs => exact hp.elim
  | bk u' st' => rw [em] at hp; exact hp.elim
  | ct u' st' => rw [em] at hp; exact hp.elim
  | err c x u' st' => rw [em] at hp; exact fun B' s' z' cv dd b l w sl q => hp s' cv dd l (w.less b) q
  | bad => rw [em] at hp; exact hp.elim
theorem fn_okR {G : G3} (hK : K = G.K) (hw : w = G.w) {x qual : Str} {st : Stmt} {f : Addr} {fd : FuncData} {N ps : List Str} {pv : Str} {k : Nat} {mb : SM} (F : Fun K x qual st f fd) (S : FnScope N (ps ++ [pv]) (defScope st))
    (hb : ∀ us rest : List Value, us.length = ps.length → bindArgs fd ⟨us ++ rest, []⟩ = (newTuple rest >>= fun t => pure (ps.zip us ++ [(pv, t)])))
    (h : ∀ (cdv : Value) (A : Around) (outer : List Env) (s : Shared) (H : Hp) (E : XK), Room k (A.deeper (envOfC qual (defScope st) s.heap.objs.size f cdv)) →
      MSs ⟨cxOf (L2.CX P w) P w K mg base N qual (defScope st) f cdv A outer s H E, G, none, fun cls d _ H => E cls d H, hK, hw⟩ (defBody st) mb) :
    FnR P w K mg base (L2.CX P w) (k + 1) f (spR G (mfnS N.length ps.length mb)) := by
  obtain ⟨oc, od, kV, doc, pm, an, cdv, ct, osl, rfl, lk, hcd⟩ := F.ex
  have z := StX.fn_star (P := P) (w := w) (mg := mg) (base := base) (k := k) (sp := fun vs H Q E => ∃ (B : Addr → Prop) (s : S3) (st : Store) (ds : List D), s.H = H ∧ Wd G B st s ∧ RepL G.R s.F s.io ds vs ∧ Post G B (fun s d v => Rep G.R s.F s.io d v) E s Q (mfn N.length mb ds st)) lk hcd S (StX.cxUp (P := P) (w := w)) hb
    (fun A outer s0 H vs Q E hr ⟨B, s, o, ds, e, wd, rl, hp⟩ => by
      subst e
      obtain ⟨t, pt, ht⟩ := (h cdv A outer s0 s.H E hr).out
      exact ⟨t, pt, ht B B s o _ _ _ (fun _ b => b) wd (slo_start (N := N) rl) (body_post rfl rfl hp)⟩)
  refine z.imp fun vs H Q E ⟨B, s, st, ds, e, wd, rl, hp⟩ => ?_
  subst e
  unfold mfnS at hp
  split at hp
  · rename_i hl
    have e2 := rl.length
    refine ⟨vs.take ps.length, vs.drop ps.length, (List.take_append_drop _ _).symm, by rw [List.length_take]; omega, by rw [List.length_drop, sizeLine_eq]; omega, fun p hp0 => ?_⟩
    obtain ⟨w2, l2⟩ := wd.froz hp0 (.tup (vs.drop ps.length))
    refine ⟨B, s.froz p (.tup (vs.drop ps.length)), st, _, rfl, w2, ((rl.take ps.length).mono l2.fr l2.io).append (.cons (.ctup (.inl (.inl upd_same)) ((rl.drop ps.length).mono l2.fr l2.io)) .nil), Post.mono l2 hp⟩
  · exact hp.elim
end
end M3
/-! calls of defs with a star parameter, calls with a starred argument -/
namespace M3
open PySem PySem.Spec PyProof.Rows L2
section
variable {X : Cx} {CX : CXT} {k : Nat} {f g C : Addr} {x m : Str} {p pos apos sp_ : Pos} {e e1 e2 o : Expr} {es : List Expr} {t : TA} {te ta t1 t2 : TE} {E : L2.St → XK} {sp : Sp}
theorem run_fnRA {base : Heap} {pins : List (Addr × Obj)} {z : L2.St} {H : Hp} {s : Shared} {Q : VK} {us : List Value} {vs : List V} {Ez : XK} (F : FnR X.prog X.w X.K X.mg base CX k f sp) (hr : Room k X.A) (hx : PassesAt CX X z Ez) (I : Inv X pins z H s) (e0 : Env0 X.prog X.w X.K X.mg base X.A X.stack s H) (r : Vals vs us) (h : sp vs H Q Ez) :
    codeAny (model X.prog X.w) X.A (.call (.ref f) ⟨us, []⟩) (fun r s' => match r with | .ok (.ret v) => EP X pins z Q v s' | .ok _ => False | .error e => X.xe e s') s := by
  refine codeAny_mono (F X.A X.stack s H us vs Q Ez hr e0 r h) fun r s' hq => ?_
  cases r with
  | error e => exact hx pins H s e s' I hq
  | ok fl =>
    cases fl with
    | ret u => exact I.after hq
    | next => exact False.elim hq
    | brk => exact False.elim hq
    | cont => exact False.elim hq
/-- o.m(a, ..) -/
theorem pe_methRp {pl : Sem Bool} (he : PE X o ta) (hr : Room k X.A) (hx : ∀ σ, PassesAt CX X σ (E σ)) (ha : PA X (e :: es) t) (one : starEach (e :: es) X.env = (false, eval e X.env) :: starEach es X.env := by rfl)
    (plain : (backTo pos (starEach es X.env)).any (·.1) = false := by rfl) (parts : MethParts X o m apos pos (e :: es) pl := by rfl) :
    PE X (.Call (.Attribute o m apos) (e :: es) [] pos) (fun z H Q => ta z H fun x H1 => ∃ a C dx fs f sp, x = .ref a ∧ H1 a = some (.ins C dx fs) ∧ fs.lookup m = none ∧ Cls X.K C ∧ Meth X.K C m f ∧ FnR X.prog X.w X.K X.mg X.base CX k f sp ∧ t z H1 fun vs H2 => sp (x :: vs) H2 Q (E z)) :=
  ⟨fun pins now z H Q inv wish => PySem.W.methodCall_KW (pl := pl) (thn (he.run pins now z H _ inv wish) fun v later got => by
    obtain ⟨_, H1, J, rx, a, C, dx, fs, f, sp, rfl, at_, no, cls, mth, F, rest⟩ := got
    obtain rfl : v = .ref a := rx
    have args := ha.run pos pins later z H1 _ J rest
    exact getmeth_ok J at_ cls mth no (PySem.W.callWith_K (first := [.ref a]) (h₀ := X.base) J.ok.mod.kin mth.kp (thn args fun us last ⟨vs, H2, J2, rs, q⟩ => ⟨J2.kIn, wpAny_call (run_fnRA (us := .ref a :: us) (vs := .ref a :: vs) F hr (hx z) J2 J2.env0 (.cons rfl rs) q)⟩) one plain)) parts⟩
/-- o.m(a, *y) -/
theorem pe_methRs {R : L2.St → Heap → Prop} (hR : ∀ (pins : List (Addr × Obj)) (z : L2.St) (H : Hp) (s : Shared), Inv X pins z H s → ∃ b, R z b ∧ Env0 X.prog X.w X.K X.mg b X.A X.stack s H) (he : PE X o ta) (hr : Room k X.A) (hx : ∀ z, PassesAt CX X z (E z)) (h1 : PE X e1 t1) (h2 : PE X e2 t2) (hbase : attributeBase o m X.env (eval o X.env) = eval o X.env := by rfl)
    (hst : starEach [e1, .Starred e2 p] X.env = [(false, eval e1 X.env), (true, eval e2 X.env)] := by rfl) : PE X (.Call (.Attribute o m apos) [e1, .Starred e2 p] [] pos)
      (fun z H Q => ta z H fun x H1 => ∃ (a C dx : Addr) (fs : List (Str × V)) (g : Addr) (sp : Heap → Sp), x = .ref a ∧ H1 a = some (.ins C dx fs) ∧ fs.lookup m = none ∧ Cls X.K C ∧ BMeth X.K C m g ∧ (∀ b, R z b → FnR X.prog X.w X.K X.mg b CX k g (sp b)) ∧
        ∀ q, H1 q = none → t1 z (upd H1 q (.met g a)) fun y1 H2 => t2 z H2 fun y2 H3 => ∃ b vs, y2 = .ref b ∧ (SqT X.K H3 b vs ∨ SqL X.K H3 b vs) ∧ H3 q = some (.met g a) ∧ ∀ b, R z b → sp b (.ref a :: y1 :: vs) H3 Q (E z)) := by
  refine ⟨fun pins s z H Q I h => ?_⟩
  refine starcall2_of hbase hst (thn (he.run pins s z H _ I h) fun u s1 ⟨x, H1, I1, rx, a, C, dx, fs, g, sp, ex, ea, l, c, b, F, q⟩ => ?_)
  subst ex
  obtain rfl : u = Value.ref a := rx
  refine getbound_ok I1 ea c b l fun q1 s2 hq1 I2 => ?_
  refine PySem.W.ks_call (P := PySem.W.MethP X.K q1 g (.ref a)) rfl (PySem.W.keeps_M b.fi) (Calls.evalArgs_plain (Calls.spliced_cons (thn (h1.run pins s2 z _ _ I2 (q q1 hq1)) fun v1 s3 ⟨y1, H2, I3, ry1, q2⟩ =>
    PySem.W.ks_spliced (thn (h2.run pins s3 z H2 _ I3 q2) fun v2 s4 ⟨y2, H3, I4, ry2, tt, vs, ey, ht, hm, hsp⟩ => ?_))))
  subst ey
  obtain rfl : v2 = Value.ref tt := ry2
  refine StX.star_any I4 ht fun us s5 I5 rv => Calls.spliced_nil ?_
  show PySem.W.MethP X.K q1 g (.ref a) s5.heap ∧ wpAny (model X.prog X.w) X.A (call (.ref q1) (v1 :: (us ++ [])) []) (EP X pins z Q) X.xe s5
  rw [List.append_nil]
  obtain ⟨bb, rb, e0⟩ := hR _ _ _ _ I5
  exact ⟨met_P I5 hm, wpAny_call (PySem.W.method_call (met_P I5 hm).1 (run_fnRA (us := Value.ref a :: v1 :: us) (vs := V.ref a :: y1 :: vs) (F bb rb) hr (hx z) I5 e0 (.cons rfl (.cons ry1 rv)) (hsp bb rb)))⟩
end
theorem plainR {X : Cx} : ∀ (pins : List (Addr × Obj)) (z : L2.St) (H : Hp) (s : Shared), Inv X pins z H s → ∃ b, (fun _ b => b = X.base : L2.St → Heap → Prop) z b ∧ Env0 X.prog X.w X.K X.mg b X.A X.stack s H := fun _ _ _ _ I => ⟨_, rfl, I.env0⟩
/-! ### by mirrors -/
/-- a star def of the top -/
structure CalR (Pg : Program) (w : World) (K : PySem.W.Frag) (mg : Str → Option Value) (base : Heap) (G : G3) (k : Nat) (x : Str) (m : List D → M D) : Prop where
  ex : ∃ f, mg x = some (.ref f) ∧ PySem.W.keepIn K (.ref f) = true ∧ FnR Pg w K mg base (L2.CX Pg w) k f (spR G m)
/-- a star method -/
structure MthR (Pg : Program) (w : World) (K : PySem.W.Frag) (mg : Str → Option Value) (base : Heap) (G : G3) (k : Nat) (m : Str) (c : String) (mf : List D → M D) : Prop where
  ex : ∃ C f, G.cls c = some C ∧ Cls K C ∧ BMeth K C m f ∧ FnR Pg w K mg base (L2.CX Pg w) k f (spR G mf)
theorem spR_nap {G : G3} {b : Heap} (hb : KnowsTo G.base b) {m : List D → M D} {vs : List V} {H : Hp} {Q : VK} {E : XK} (h : spR G (nap m) vs H Q E) : spR (G.at b) m vs H Q E := by
  obtain ⟨B, s, st, ds, e, wd, rl, hp⟩ := h
  exact ⟨B, s, _, ds, e, wd.nap hb, rl, nap_post (fun _ _ _ r => r) wd hp⟩
theorem CalR.nap {Pg : Program} {w : World} {K : PySem.W.Frag} {mg : Str → Option Value} {base b : Heap} {G : G3} {k : Nat} {x : Str} {m : List D → M D} (h : CalR Pg w K mg base (G.at b) k x m) (hb : KnowsTo G.base b) : CalR Pg w K mg base G k x (M3.nap m) := by
  obtain ⟨f, a1, a2, F⟩ := h.ex
  exact ⟨f, a1, a2, F.imp fun _ _ _ _ h => spR_nap hb h⟩
theorem MthR.nap {Pg : Program} {w : World} {K : PySem.W.Frag} {mg : Str → Option Value} {base b : Heap} {G : G3} {k : Nat} {x : Str} {c : String} {m : List D → M D} (h : MthR Pg w K mg base (G.at b) k x c m) (hb : KnowsTo G.base b) : MthR Pg w K mg base G k x c (M3.nap m) := by
  obtain ⟨C, f, a1, a2, a3, F⟩ := h.ex
  exact ⟨C, f, a1, a2, a3, F.imp fun _ _ _ _ h => spR_nap hb h⟩
def eCallRp (m : List D → M D) (ma : AM) : EM := fun u => M.bind (ma u) fun ws => M.bind (M.of (asDs ws)) fun ds => M.bind (m ds) fun d => M.pure (.val d)
def eMethRp (m : Str) (tab : List (String × (List D → M D))) (mo : EM) (ma : AM) : EM := fun u => M.bind (mo u) fun w => M.bind (insOf w) fun q => M.bind (M.chk (q.2.2.lookup m = none)) fun _ => M.bind (M.of (tab.lookup q.2.1)) fun mf =>
  M.bind (ma u) fun ws => M.bind (M.of (asDs ws)) fun ds => M.bind (mf (.ref q.1 :: ds)) fun d => M.pure (.val d)
/-- o.m(a, *y); W: what is done to the mirror of the method -/
def eMethRs (W : Sl3 → (List D → M D) → List D → M D) (m : Str) (tab : List (String × (List D → M D))) (mo m1 m2 : EM) : EM := fun u => M.bind (mo u) fun w => M.bind (insOf w) fun q => M.bind (M.chk (q.2.2.lookup m = none)) fun _ => M.bind (M.of (tab.lookup q.2.1)) fun mf =>
  M.bind (m1 u) fun w1 => M.bind (M.of w1.d) fun d1 => M.bind (m2 u) fun w2 => M.bind (M.of (w2.d.bind D.items)) fun ds => M.bind (W u mf (.ref q.1 :: d1 :: ds)) fun d => M.pure (.val d)
theorem spR_post {G : G3} {X : Hex} {B : Addr → Prop} {s : S3} {st : Store} {E : XK} {Q : VK} {mf : List D → M D} {ds : List D} {vs : List V} (wd : Wd G B st s) (rl : RepL G.R s.F s.io ds vs)
    (h : Post G B (RepW G X B) E s Q (M.bind (mf ds) (fun d => M.pure (.val d)) st)) : spR G mf vs s.H Q E := by
  refine ⟨B, s, st, ds, rfl, wd, rl, ?_⟩
  unfold M.bind at h
  cases em : mf ds st with
  | ok d st' => rw [em] at h; exact fun s' v l w r => h s' v l w r
  | err c x st' => rw [em] at h; exact h
  | bad => rw [em] at h; exact h
/-- the items of what is handed over with a star -/
theorem star_ok {G : G3} {X : Hex} {B : Addr → Prop} {s : S3} {st : Store} {w : W} {v : V} {xs : List D} {K : PySem.W.Frag} (hK : K = G.K) (wd : Wd G B st s) (r : RepW G X B s w v) (e : w.d.bind D.items = some xs) : ∃ p vs, v = .ref p ∧ (SqT K s.H p vs ∨ SqL K s.H p vs) ∧ RepL G.R s.F s.io xs vs := by
  subst hK
  cases w with
  | val d =>
    have r : Rep G.R s.F s.io d v := r
    have e : D.items d = some xs := e
    cases r with
    | tup hq rl => cases e; exact ⟨_, _, rfl, .inl (hq.mono wd.sub).sq, rl⟩
    | ctup hq rl => cases e; exact ⟨_, _, rfl, .inl (same_sqT wd.sub hq), rl⟩
    | lst hq rl => cases e; exact ⟨_, _, rfl, .inr (.inl (.inl (wd.sub _ _ hq))), rl⟩
    | ro hq rl => cases e; exact ⟨_, _, rfl, .inr (same_sqL wd.sub hq), rl⟩
    | _ => cases e
  | _ => cases e
section
variable {P : P3} {pos p apos sp_ : Pos} {x m : Str} {e o e1 e2 : Expr} {es : List Expr} {ma : AM} {mo me m1 m2 : EM} {mf : List D → M D} {k j : Nat} {tab : List (String × (List D → M D))}
theorem me_methRp (h : ∀ p ∈ tab, MthR P.X.prog P.X.w P.X.K P.X.mg P.X.base P.G k m p.1 p.2) (hr : Room j P.X.A) (hk : k ≤ j) (tk : Takes P.X P.wx) (ho : ME P o mo) (ha : MA P (e :: es) ma)
    (he : starEach (e :: es) P.X.env = (false, eval e P.X.env) :: starEach es P.X.env := by rfl) (hpl : (backTo pos (starEach es P.X.env)).any (·.1) = false := by rfl) {pl : Sem Bool} (hT : MethParts P.X o m apos pos (e :: es) pl := by rfl) :
    ME P (.Call (.Attribute o m apos) (e :: es) [] pos) (eMethRp m tab mo ma) := by
  obtain ⟨t, pt, ht⟩ := ha.out
  obtain ⟨to, po, hto⟩ := ho.out
  refine ME.mk' (pe_methRp po (hr.mono hk) (fun σ => passAt tk σ) pt he hpl hT) fun B0 B s st u z Q wd sl hp => hto B0 B s st u z _ wd sl (Post.bind hp fun w st1 s1 v l1 wd1 r1 h1 => ?_)
  obtain ⟨i, c, fs, a, C, dx, gs, rfl, rfl, eio, ek, ec, eh, rf, nb, hF, h1⟩ := Post.of_ins wd1 r1 h1
  obtain ⟨hn, h1⟩ := Post.of_chk h1
  obtain ⟨mf, et, h1⟩ := Post.of_of h1
  obtain ⟨C', f, ec', hc, hm, F⟩ := (h _ (lookup_mem et)).ex
  rw [ec] at ec'
  cases ec'
  refine ⟨a, C, dx, gs, f, _, rfl, eh, (rf.look (f := m)).2 hn, hc, hm.mt, F, ?_⟩
  refine ht B0 B s1 st1 u z _ wd1 (sl.mono' l1) (Post.bind h1 fun ws st2 s2 vs l2 wd2 r2 h2 => ?_)
  obtain ⟨ds, e, h2⟩ := Post.of_of h2
  exact spR_post wd2 (.cons (.ref (l2.io _ _ eio)) (asDs_ok r2 e)) h2
end
end M3
namespace M3
open PySem PySem.Spec PyProof.Rows L2
section
variable {P : P3} {pos p apos : Pos} {m : Str} {o e1 e2 : Expr} {mo m1 m2 : EM} {k j : Nat} {tab : List (String × (List D → M D))}
/-- the same for both kinds of bases -/
theorem me_methRs {R : L2.St → Heap → Prop} {W : Sl3 → (List D → M D) → List D → M D} (hR : ∀ (pins : List (Addr × Obj)) (z : L2.St) (H : Hp) (s : Shared), Inv P.X pins z H s → ∃ b, R z b ∧ Env0 P.X.prog P.X.w P.X.K P.X.mg b P.X.A P.X.stack s H) {Gb : Heap → G3}
    (h : ∀ q ∈ tab, ∀ z b, R z b → MthR P.X.prog P.X.w P.X.K P.X.mg b (Gb b) k m q.1 q.2) (hcl : ∀ z b, R z b → (Gb b).cls = P.G.cls)
    (hW : ∀ {B0 B : Addr → Prop} {s : S3} {st : Store} {u : Sl3} {z : L2.St} {E : XK} {Q : VK} {mf : List D → M D} {ds : List D} {vs : List V} {b : Heap}, Wd P.G B st s → Slo P.G P.hx B0 B s u z → RepL P.G.R s.F s.io ds vs → R z b → Post P.G B (RepW P.G P.hx B) E s Q (M.bind (W u mf ds) (fun d => M.pure (.val d)) st) → spR (Gb b) mf vs s.H Q E)
    (hex : ∃ z b, R z b) (hr : Room j P.X.A) (hk : k ≤ j) (tk : Takes P.X P.wx) (ho : ME P o mo) (h1 : ME P e1 m1) (h2 : ME P e2 m2) (hbase : attributeBase o m P.X.env (eval o P.X.env) = eval o P.X.env := by rfl)
    (hst : starEach [e1, .Starred e2 p] P.X.env = [(false, eval e1 P.X.env), (true, eval e2 P.X.env)] := by rfl) : ME P (.Call (.Attribute o m apos) [e1, .Starred e2 p] [] pos) (eMethRs W m tab mo m1 m2) := by
  obtain ⟨to, po, hto⟩ := ho.out
  obtain ⟨t1, p1, ht1⟩ := h1.out
  obtain ⟨t2, p2, ht2⟩ := h2.out
  refine ME.mk' (pe_methRs hR po (hr.mono hk) (fun σ => passAt tk σ) p1 p2 hbase hst) fun B0 B s st u z Q wd sl hp => hto B0 B s st u z _ wd sl (Post.bind hp fun w st1 s1 v l1 wd1 r1 h1 => ?_)
  obtain ⟨i, c, fs, a, C, dx, gs, rfl, rfl, eio, ek, ec, eh, rf, nb, hF, h1⟩ := Post.of_ins wd1 r1 h1
  obtain ⟨hn, h1⟩ := Post.of_chk h1
  obtain ⟨mf, et, h1⟩ := Post.of_of h1
  obtain ⟨z0, b0, rb0⟩ := hex
  obtain ⟨C', g, ec', hc, hm, _⟩ := (h _ (lookup_mem et) z0 b0 rb0).ex
  rw [hcl z0 b0 rb0, ec] at ec'
  cases ec'
  have uniq : ∀ z b, R z b → FnR P.X.prog P.X.w P.X.K P.X.mg b (L2.CX P.X.prog P.X.w) k g (spR (Gb b) mf) := fun z b rb => by
    obtain ⟨C', g', ec', _, hm', F⟩ := (h _ (lookup_mem et) z b rb).ex
    rw [hcl z b rb, ec] at ec'
    cases ec'
    have e1 := hm.mt.at_
    have e2 := hm'.mt.at_
    rw [e1] at e2
    cases e2
    exact F
  refine ⟨a, C, dx, gs, g, fun b => spR (Gb b) mf, rfl, eh, (rf.look (f := m)).2 hn, hc, hm, fun b rb => uniq z b rb, fun q hq => ?_⟩
  obtain ⟨wq, lq⟩ := own_wd (ho := .met g a) wd1 hq
  have slq : Slo P.G P.hx B0 (plus B q) ⟨s1.io, s1.F, upd s1.H q (.met g a)⟩ u z := (sl.mono' (l1.trans lq)).more fun a b => .inl b
  have nB : ¬ B q := wd1.freshB hq
  -- from the wider B to B
  have down : ∀ {α : Type} {β : Type} {R' R'' : S3 → α → β → Prop} {E : XK} {s : S3} {Q : β → Hp → Prop} {r : Res α}, (∀ s a b, R'' s a b → R' s a b) → Post P.G B R' E s Q r → Post P.G (plus B q) R'' E s Q r := fun {α β R' R'' E s Q r} hRR hp => by
    cases r with
    | ok d st' => exact fun s' v l w r => hp s' v (l.less fun a b => .inl b) (w.less fun a b => .inl b) (hRR _ _ _ r)
    | err c x st' => exact fun s' cv dd l w r => hp s' cv dd (l.less fun a b => .inl b) (w.less fun a b => .inl b) r
    | bad => exact hp
  have h1q := Post.mono lq h1
  have step1 : Post P.G (plus B q) (RepW P.G P.hx (plus B q)) (fun c d H => P.wx c d z H) ⟨s1.io, s1.F, upd s1.H q (.met g a)⟩ (fun y1 H2 => t2 z H2 fun y2 H3 => ∃ b vs, y2 = .ref b ∧ (SqT P.X.K H3 b vs ∨ SqL P.X.K H3 b vs) ∧ H3 q = some (.met g a) ∧ ∀ b, R z b → spR (Gb b) mf (.ref a :: y1 :: vs) H3 Q (WE P.wx z)) (m1 u st1) := by
    unfold M.bind at h1q
    cases em : m1 u st1 with
    | bad => rw [em] at h1q; exact h1q
    | err c x st' => rw [em] at h1q; exact fun s' cv dd l w r => h1q s' cv dd (l.less fun a b => .inl b) (w.less fun a b => .inl b) r
    | ok w1 st2 =>
      rw [em] at h1q
      intro s2 v1 l2 wd2 r2
      have h2 := Post.mono (l2.less fun a b => .inl b) h1q
      cases w1 with
      | val d1 =>
        have h2 : Post P.G B (RepW P.G P.hx B) (fun c d H => P.wx c d z H) s2 Q (M.bind (m2 u) (fun w2 => M.bind (M.of (w2.d.bind D.items)) fun ds => M.bind (W u mf (.ref i :: d1 :: ds)) fun d => M.pure (.val d)) st2) := h2
        refine ht2 B0 (plus B q) s2 st2 u z _ wd2 (slq.mono' l2) ?_
        unfold M.bind at h2
        cases em2 : m2 u st2 with
        | bad => rw [em2] at h2; exact h2
        | err c x st' => rw [em2] at h2; exact fun s' cv dd l w r => h2 s' cv dd (l.less fun a b => .inl b) (w.less fun a b => .inl b) r
        | ok w2 st3 =>
          rw [em2] at h2
          intro s3 v2 l3 wd3 r3
          have h3 := Post.mono (l3.less fun a b => .inl b) h2
          have h3 : Post P.G B (RepW P.G P.hx B) (fun c d H => P.wx c d z H) s3 Q (M.bind (M.of (w2.d.bind D.items)) (fun ds => M.bind (W u mf (.ref i :: d1 :: ds)) fun d => M.pure (.val d)) st3) := h3
          obtain ⟨ds, e3, h3⟩ := Post.of_of h3
          obtain ⟨b, vs, rfl, hq2, rl⟩ := star_ok P.hK wd3 r3 e3
          refine ⟨b, vs, rfl, hq2, ?_, fun bb rb => ?_⟩
          · rw [l3.hid q (.inr rfl), l2.hid q (.inr rfl)]
            exact upd_same
          · have r2' : Rep P.G.R s2.F s2.io d1 v1 := r2
            refine hW (B0 := B0) (B := B) (wd3.less fun a b => .inl b) ?_ (.cons (.ref (l3.io _ _ (l2.io _ _ eio))) (.cons (r2'.mono l3.fr l3.io) rl)) rb h3
            have lB : Le B s1 s3 := (lq.trans (l2.less fun a b => .inl b)).trans (l3.less fun a b => .inl b)
            exact sl.mono' (l1.trans lB)
      | _ => exact h2.elim
  exact ht1 B0 (plus B q) _ st1 u z _ wq slq step1
/-- o.m(a, *y), nothing lent -/
theorem me_methS (h : ∀ q ∈ tab, MthR P.X.prog P.X.w P.X.K P.X.mg P.X.base P.G k m q.1 q.2) (hr : Room j P.X.A) (hk : k ≤ j) (tk : Takes P.X P.wx) (ho : ME P o mo) (h1 : ME P e1 m1) (h2 : ME P e2 m2) (hbase : attributeBase o m P.X.env (eval o P.X.env) = eval o P.X.env := by rfl)
    (hst : starEach [e1, .Starred e2 p] P.X.env = [(false, eval e1 P.X.env), (true, eval e2 P.X.env)] := by rfl) : ME P (.Call (.Attribute o m apos) [e1, .Starred e2 p] [] pos) (eMethRs (fun _ mf => mf) m tab mo m1 m2) :=
  me_methRs (R := fun _ b => b = P.X.base) (Gb := fun _ => P.G) (plainR (X := P.X)) (fun q hq z b rb => by subst rb; exact h q hq) (fun _ _ _ => rfl) (fun wd _ rl rb h => spR_post wd rl h) ⟨[], _, rfl⟩ hr hk tk ho h1 h2 hbase hst
end
end M3
/-! defs that are called while an exception is handled: they raise nothing, and nothing in them asks what is handled -/
namespace M3
open PySem PySem.Spec PyProof.Rows L2
def startO (N : List Str) (ws : List (Option V)) : L2.St := ws ++ List.replicate (N.length - ws.length) none
abbrev RoomQ := L2H.RoomH
/-- the context of such a def's body -/
def cxQ (P : Program) (w : World) (K : PySem.W.Frag) (mg : Str → Option Value) (base : Heap) (N : List Str) (qual : Str) (scope : Scope) (f : Addr) (cd : Value) (A : Around) (outer : List Env) (s : Shared) (H : Hp) : Cx :=
  { cxOf C8.CX0 P w K mg base N qual scope f cd A outer s H C8.E0 with calm := false }
theorem inv_startQ {P : Program} {w : World} {K : PySem.W.Frag} {mg : Str → Option Value} {base : Heap} {N ps : List Str} {qual : Str} {scope : Scope} {f : Addr} {cd : Value} {A : Around} {outer : List Env} {s s1 : Shared} {H : Hp} {us : List Value} {ws : List (Option V)}
    (S : FnScope N ps scope) (e0 : Env0 P w K mg base A outer s H) (hl : ws.length = ps.length) (hu : us.length = ps.length) (r : ∀ (i : Nat) (v : V), ws[i]? = some (some v) → ∃ u, us[i]? = some u ∧ L2.RelV v u)
    (x : InCallC s s.heap.objs.size (bindL (envOfC qual scope s.heap.objs.size f cd).kindOf (ps.zip us) fun _ => none) (cellsFrom (s.heap.objs.size + 1) scope.names []) (bindC (envOfC qual scope s.heap.objs.size f cd).kindOf (ps.zip us) fun _ => none) s1) :
    Inv (cxQ P w K mg base N qual scope f cd A outer s H) [] (startO N ws) H s1 := by
  have hpl : ps.length ≤ N.length := by have := congrArg List.length S.pre; rw [List.length_take] at this; omega
  obtain ⟨h1, tk, rfl, hk⟩ := x.done
  have noA : ∀ b : Addr, b ∉ (cxQ P w K mg base N qual scope f cd A outer s H).ex := fun b z => absurd (show b ∈ ([] : List Addr) from z) (by simp)
  refine ⟨⟨e0.mod, S.kind, rfl, rfl, Nat.le_refl _, fun y z c h1 h2 => ?_, fun y hy => ?_, fun y c _ h => ?_, (fun z => Bool.noConfusion (show false = true from z)), Around.frames_deeper e0.frames, .inr ⟨rfl, rfl⟩, fun b z => absurd z (noA b), e0.bs, e0.bsz, fun b _ _ => noA b, fun b z => absurd z (noA b), e0.funs, e0.frf⟩,
    rfl, e0.bare, Un.kept hk, ⟨_, x.toInCall.ns, fun i y v h1 h2 h3 => ?_⟩, fun y c h => ⟨_, x.cell y c h⟩, e0.hok.fresh (Nat.le_refl _), fun y c h => ?_, fun q hq => absurd (show q ∈ ([] : List (Addr × Obj)) ++ [] from hq) (by simp), e0.hok.kept hk, ?_⟩
  · exact name_of_addr x.apart (PySem.mem_of_lookup h1) (PySem.mem_of_lookup h2)
  · have hy : scope.names.lookup y = some .cell ∨ scope.names.lookup y = some .free := hy
    rcases hy with hy | hy
    · exact cell_has hy
    · exact absurd rfl (S.nofree _ (PySem.mem_of_lookup hy))
  · exact Nat.le_of_lt (x.above y c (PySem.mem_of_lookup h))
  · have hi : i < ws.length := by
      unfold startO at h2
      by_cases hi : i < ws.length
      · exact hi
      · rw [List.getElem?_append_right (by simpa using hi), List.getElem?_replicate] at h2
        split at h2 <;> cases h2
    have ha : ws[i]? = some (some v) := by
      unfold startO at h2
      rw [List.getElem?_append_left hi] at h2
      exact h2
    obtain ⟨u, hu', rv⟩ := r i v ha
    have hp : ps[i]? = some y := by
      rw [← S.pre, List.getElem?_take_of_lt (by omega)]; exact h1
    have ndP : ps.Nodup := by rw [← S.pre]; exact S.nd.sublist (List.take_sublist _ _)
    refine ⟨u, rv, ?_⟩
    rcases S.par y (List.mem_of_getElem? hp) with k | k
    · exact .inl ⟨k, bindL_get ndP hp hu' k⟩
    · obtain ⟨c, e⟩ := cell_has (n := s.heap.objs.size + 1) k
      refine .inr ⟨.inl k, c, e, ?_⟩
      have q := x.cell y c e
      rw [bindC_get ndP hp hu' (by show scope.names.lookup y ≠ _; rw [k]; decide)] at q
      exact q
  · exact e0.hok.fresh (Nat.le_of_lt (x.above y c (PySem.mem_of_lookup h)))
  · unfold startO
    show _ = N.length
    rw [List.length_append, List.length_replicate]
    omega
/-- such a def's promise; a value that is not told is nobody's -/
structure FnQ (P : Program) (w : World) (K : PySem.W.Frag) (mg : Str → Option Value) (base : Heap) (k : Nat) (f : Addr) (fd : FuncData) (ps : List Str) (sp : List (Option V) → Hp → VK → Prop) : Prop where
  run : ∀ (A : Around) (outer : List Env) (s : Shared) (H : Hp) (args : Args) (us : List Value) (ws : List (Option V)) (Q : VK), RoomQ k A → Env0 P w K mg base A outer s H → BindsTo s fd args (ps.zip us) → us.length = ps.length → ws.length = ps.length →
    (∀ (i : Nat) (v : V), ws[i]? = some (some v) → ∃ u, us[i]? = some u ∧ L2.RelV v u) → sp ws H Q → codeAny (model P w) A (.call (.ref f) args) (CR C8.CX0 outer P w H s Q C8.E0) s
theorem fn_ofQ {P : Program} {w : World} {K : PySem.W.Frag} {mg : Str → Option Value} {base : Heap} {k : Nat} {f : Addr} {name qual : Str} {params : Arguments} {body : List Stmt} {scope : Scope} {dV kV doc pm cdv ct oc : Value} {an od : Option Addr}
    {osl : Array (Option Value)} {N ps : List Str} {sp : List (Option V) → Hp → VK → Prop} (lk : K.lookup f = some ⟨oc, od, .func (PySem.W.fnOf name qual params body scope dV kV doc pm an cdv ct), osl⟩) (hcd : PySem.W.codeIn K cdv qual = true) (S : FnScope N ps scope)
    (hbody : ∀ (A : Around) (outer : List Env) (s : Shared) (H : Hp) (ws : List (Option V)) (Q : VK), RoomQ k (A.deeper (envOfC qual scope s.heap.objs.size f cdv)) → sp ws H Q →
      ∃ t, PSs (cxQ P w K mg base N qual scope f cdv A outer s H) body t ∧ t { nx := fun _ H' => Q .non H', rt := Q } (startO N ws) H) :
    FnQ P w K mg base (k + 1) f (PySem.W.fnOf name qual params body scope dV kV doc pm an cdv ct) ps sp := by
  refine ⟨fun A outer s H args us ws Q hr e0 hb hu hl r hsp => ?_⟩
  have KX : K.In s.heap := e0.mod.kin.keeps fun b o e => (e0.bs b o e).1
  have lim : s.heap.NoLimit := e0.mod.nolimit.keeps fun b o e => (e0.bs b o e).1
  have hkind : ∀ y ∈ ps.zip us, scope.names.lookup y.1 = some .local ∨ (scope.names.lookup y.1 = some .cell ∧ ((cellsFrom (s.heap.objs.size + 1) scope.names []).lookup y.1).isSome = true) := fun ⟨n, v⟩ hy => by
    rcases S.par n (List.of_mem_zip hy).1 with q | q
    · exact .inl q
    · exact .inr ⟨q, PySem.W.cellsFrom_some _ _ _ (.inl q)⟩
  refine codeAny_call_function hr.depth (KX _ _ lk) rfl S.co S.gen rfl (PySem.W.codeRec_of KX hcd) (hb _ _ _ _ ?_)
  refine wpAny_newFunctionEnv_cells S.kind hkind fun env he s1 x => ?_
  subst he
  refine ⟨lim.keeps x.toInCall.keep, codeAny_func ?_⟩
  obtain ⟨t, ht, hq⟩ := hbody A outer s H ws Q (hr.deeper _) hsp
  have I : Inv (cxQ P w K mg base N qual scope f cdv A outer s H) [] (startO N ws) H s1 := inv_startQ S e0 hl hu r x
  refine wpAny_mono (ht.run [] s1 (startO N ws) H _ I hq) (fun fl s' hs => ?_) fun e s' hs => hs
  have fin : ∀ {σ' : L2.St} {H' : Hp} {v : V} {u : Value}, Inv (cxQ P w K mg base N qual scope f cdv A outer s H) [] σ' H' s' → RelV v u → Q v H' → CE outer P w H s Q u s' :=
    fun {σ' H' v u} J rv q => ⟨v, H', J.os, J.bare, J.base, J.hok, rv, q⟩
  cases fl with
  | ret u =>
    obtain ⟨v, σ', H', J, rv, q⟩ := hs
    exact fin J rv q
  | next =>
    obtain ⟨σ', H', J, q⟩ := hs
    exact fin (v := V.non) (u := Value.none) J rfl q
  | brk =>
    obtain ⟨_, _, _, q⟩ := hs
    exact False.elim q
  | cont =>
    obtain ⟨_, _, _, q⟩ := hs
    exact False.elim q
/-- .. by mirrors: the first values are told -/
def spQ (G : G3) (n : Nat) (m : List D → M D) : List (Option V) → Hp → VK → Prop := fun ws H Q => ∃ (vs : List V) (B : Addr → Prop) (s : S3) (st : Store) (ds : List D), ws = vs.map some ++ List.replicate (n - vs.length) none ∧ s.H = H ∧ Wd G B st s ∧ RepL G.R s.F s.io ds vs ∧
  Post G B (fun s d v => Rep G.R s.F s.io d v) C8.E0 s Q (m ds st)
section
variable {P : Program} {w : World} {K : PySem.W.Frag} {mg : Str → Option Value} {base : Heap}
theorem fn_okQ {G : G3} (hK : K = G.K) (hw : w = G.w) {x qual : Str} {st : Stmt} {f : Addr} {fd : FuncData} {N ps : List Str} {k : Nat} {mb : SM} (F : Fun K x qual st f fd) (S : FnScope N ps (defScope st))
    (h : ∀ (cdv : Value) (A : Around) (outer : List Env) (s : Shared) (H : Hp), RoomQ k (A.deeper (envOfC qual (defScope st) s.heap.objs.size f cdv)) →
      MSs ⟨cxQ P w K mg base N qual (defScope st) f cdv A outer s H, G, none, fun cls d _ H => C8.E0 cls d H, hK, hw⟩ (defBody st) mb) :
    FnQ P w K mg base (k + 1) f fd ps (spQ G ps.length (mfn N.length mb)) := by
  obtain ⟨oc, od, kV, doc, pm, an, cdv, ct, osl, rfl, lk, hcd⟩ := F.ex
  have hpl : ps.length ≤ N.length := by have := congrArg List.length S.pre; rw [List.length_take] at this; omega
  refine fn_ofQ lk hcd S fun A outer s0 H ws Q hr ⟨vs, B, s, o, ds, ews, e, wd, rl, hp⟩ => ?_
  subst e
  obtain ⟨t, pt, ht⟩ := (h cdv A outer s0 s.H hr).out
  refine ⟨t, pt, ht B B s o (ds.map (fun d => some (M3.W.val d)) ++ List.replicate (N.length - ds.length) none) _ _ (fun _ b => b) wd ?_ (body_post rfl rfl hp)⟩
  have q := slo_start (G := G) (X := none) (B0 := B) (B := B) (N := N) rl
  have e2 : ∀ i v, (L2.start N vs)[i]? = some (some v) → (startO N ws)[i]? = some (some v) := fun i v e => by
    subst ews
    unfold L2.start at e
    unfold startO
    by_cases hi : i < vs.length
    · rw [List.getElem?_append_left (by simpa using hi)] at e
      rw [List.append_assoc, List.getElem?_append_left (by simpa using hi)]
      exact e
    · rw [List.getElem?_append_right (by simpa using hi), List.getElem?_replicate] at e
      split at e <;> cases e
  obtain ⟨hlen, ow, h1, h2⟩ := q
  refine ⟨?_, ow, fun i w e => ?_, h2⟩
  · rw [hlen]
    subst ews
    unfold L2.start startO
    have := rl.length
    by_cases hv : vs.length ≤ ps.length
    · simp; omega
    · simp; omega
  · obtain ⟨v, q1, q2, q3⟩ := h1 i w e
    exact ⟨v, e2 i v q1, q2, q3⟩
end
end M3
namespace PySem.W
open PySem PySem.Calls PyProof.Rows
section
variable {prog : Program} {w : World} {M : Model} {A : Around} {E : Value → Shared → Prop} {s : Shared} {env : Env} {K : Frag} {x C L fe fx : Addr} {h₀ : Heap} {m : Str → Option Value} {ox : Obj} {od : Option Obj} {pos : Pos}
/-- what is asked where an exception has been noted and put down: its class, its traceback, the call of __exit__ -/
def ExitOk (prog : Program) (w : World) (A : Around) (E : Value → Shared → Prop) (env : Env) (x fx : Addr) (Q : Flow → Shared → Prop) (e : Value) (s : Shared) : Prop :=
  ∃ cls tb : Value, (∀ Q' : Value → Shared → Prop, Q' cls s → wpAny (model prog w) A (typeOf e) Q' E s) ∧ (∀ Q' : Value → Shared → Prop, Q' tb s → wpAny (model prog w) A (tracebackOf e) Q' E s) ∧ e ≠ byPass ∧
    codeAny (model prog w) (A.mark (some e)) (.call (.ref fx) ⟨[.ref x, cls, e, tb], []⟩) (fun r s' => match r with | .ok (.ret .none) => wpAny (model prog w) A (passOn "with" e env : Sem Flow) Q E s' | _ => False) s
theorem kw_coreE {bdy : Sem Flow} {Q : Flow → Shared → Prop} {EE : Value → Shared → Prop} (X : K.In s.heap) (I : InstAt s.heap x ox C od) (he : findIn K (.ref C) "__enter__" = some (some (.ref fe))) (hfe : isFn K (.ref fe) = true) (hx : findIn K (.ref C) "__exit__" = some (some (.ref fx))) (hfx : isFn K (.ref fx) = true)
    (h : wpAny (model prog w) A (call (.ref fe) [.ref x]) (fun v s₂ => wpAny (model prog w) A bdy (fun f s₄ => wpAny (model prog w) A (call (.ref fx) [.ref x, .none, .none, .none]) (fun _ s₅ => Q f s₅) E s₄) EE s₂) E s)
    (hE : ∀ e s₄, EE e s₄ → wpAny (model prog w) A (noteFrame e env) (fun _ s₅ => wpAny (model prog w) A (setFlight e none) (fun _ s₆ => ExitOk prog w A E env x fx Q e s₆) E s₅) E s₄) :
    wpAny (model prog w) A (withItem false pos env (pure (.ref x)) none bdy) Q E s := by
  obtain ⟨cd, hcd, ae⟩ := kw_along he
  obtain ⟨cd', hcd', ax⟩ := kw_along hx
  cases hcd.symm.trans hcd'
  obtain ⟨hh, g, d, tt, os⟩ := s
  have L1 : Looks (model prog w) hh (specialOnItsLine (.ref x) "__enter__") (some (.ref fe), cd.mro) := kw_special X I hcd ae
  have L2 : Looks (model prog w) hh (specialOnItsLine (.ref x) "__exit__") (some (.ref fx), cd.mro) := kw_special X I hcd ax
  have L3 : Looks (model prog w) hh (bindSpecial (.ref fe) (.ref x)) (.ref fe, [.ref x]) := bind_fn X _ (beq_iff_eq.mp hfe)
  have L4 : Looks (model prog w) hh (bindSpecial (.ref fx) (.ref x)) (.ref fx, [.ref x]) := bind_fn X _ (beq_iff_eq.mp hfx)
  have L5 : Looks (model prog w) hh (aMethodOfAnotherBuiltinTypeStops (.ref fe) cd.mro) () := Looks.of_pure rfl
  have L6 : Looks (model prog w) hh (aMethodOfAnotherBuiltinTypeStops (.ref fx) cd.mro) () := Looks.of_pure rfl
  unfold withItem
  refine wpAny_bind (wpAny_pure ?_)
  refine wpAny_bind (wpAny_standAt ?_)
  simp only [Bool.false_eq_true, if_false]
  kw_lk
  refine wpAny_mono h (fun v s₂ h₂ => ?_) fun _ _ z => z
  kw_lk
  refine wpAny_attempt (kw_held ?_)
  show wpAny _ _ bdy _ _ _
  refine wpAny_mono h₂ (fun f s₄ h₄ => ?_) fun e s₄ h₄ => ?_
  · kw_lk
    refine wpAny_mono h₄ (fun _ s₅ h₅ => ?_) fun _ _ z => z
    kw_lk
    exact h₅
  · dsimp only
    refine wpAny_bind (wpAny_mono (hE e s₄ h₄) (fun _ s₅ h₅ => ?_) fun _ _ z => z)
    refine wpAny_bind (wpAny_mono h₅ (fun _ s₆ h₆ => ?_) fun _ _ z => z)
    obtain ⟨cls, tb, ht, hb, hnb, hc⟩ := h₆
    refine wpAny_bind (wpAny_standAt (wpAny_holding ?_))
    refine wpAny_bind (ht _ (wpAny_bind (hb _ ?_)))
    refine wpAny_bind ?_
    unfold withItem.marked
    refine wpAny_bind (wpAny_run (codeAny_mono hc fun r s' hr => ?_) (fun z => hnb (Option.some.inj z)))
    cases r with
    | error e => exact hr.elim
    | ok fl =>
      cases fl with
      | ret v =>
        cases v with
        | none =>
          refine wpAny_pure (wpAny_bind (wpAny_pure ?_))
          refine wpAny_bind (wpAny_pure ?_)
          rw [if_neg Bool.false_ne_true]
          exact hr
        | _ => exact hr.elim
      | _ => exact hr.elim
end
end PySem.W
namespace M3
open PySem PySem.Spec PyProof.Rows L2 PySem.W
/-- a class whose instances a with takes: its __enter__ and __exit__ -/
structure WithC (K : PySem.W.Frag) (C fe fx : Addr) : Prop where
  en : PySem.W.findIn K (.ref C) "__enter__" = some (some (.ref fe))
  ef : PySem.W.isFn K (.ref fe) = true
  ex : PySem.W.findIn K (.ref C) "__exit__" = some (some (.ref fx))
  xf : PySem.W.isFn K (.ref fx) = true
/-- what __exit__ is told of: the manager alone -/
def exitV (a : Addr) : List (Option V) := [some (.ref a), none, none, none]
section
variable {X : Cx} {k : Nat} {a fx : Addr} {fdx : FuncData} {psx : List Str} {spx : List (Option V) → Hp → VK → Prop} {pins : List (Addr × Obj)} {z : L2.St} {H : Hp} {s : Shared}
theorem exit_vals {u1 u2 u3 : Value} : ∀ (i : Nat) (v : V), (exitV a)[i]? = some (some v) → ∃ u, [Value.ref a, u1, u2, u3][i]? = some u ∧ L2.RelV v u
  | 0, v, e => by simp [exitV] at e; subst e; exact ⟨_, rfl, rfl⟩
  | 1, v, e => by simp [exitV] at e
  | 2, v, e => by simp [exitV] at e
  | 3, v, e => by simp [exitV] at e
  | n + 4, v, e => by simp [exitV] at e
/-- __exit__ where nothing was raised -/
theorem exit_ok {Q : VK} (F : FnQ X.prog X.w X.K X.mg X.base k fx fdx psx spx) (hr : RoomQ k X.A) (hb : Binds X.K fdx psx []) (hl : psx.length = 4) (I : Inv X pins z H s) (h : spx (exitV a) H Q) (u1 u2 u3 : Value) :
    codeAny (model X.prog X.w) X.A (.call (.ref fx) ⟨[.ref a, u1, u2, u3], []⟩) (fun r s' => match r with | .ok (.ret u) => EP X pins z Q u s' | _ => False) s := by
  have b := hb s [.ref a, u1, u2, u3] I.kIn (by simp [hl])
  rw [List.append_nil] at b
  refine codeAny_mono (F.run X.A X.stack s H ⟨[.ref a, u1, u2, u3], []⟩ [.ref a, u1, u2, u3] (exitV a) Q hr I.env0 b (by simp [hl]) (by simp [exitV, hl]) exit_vals h) fun r s' hq => ?_
  cases r with
  | error e => exact (show False from hq).elim
  | ok fl =>
    cases fl with
    | ret u => exact I.after hq
    | next => exact False.elim hq
    | brk => exact False.elim hq
    | cont => exact False.elim hq
/-- the exception meets the with: noted, __exit__ run, on it goes -/
theorem with_exc {D : Ends} {Wout : WX} {u : Value} {s' : Shared} (hs : X.stack = X.env :: X.outer) (hf : X.env.frame = some X.env.locals) (hex : X.ex = []) (ok : X.Ok) (tk : Takes X Wout)
    (F : FnQ X.prog X.w X.K X.mg X.base k fx fdx psx spx) (hr : RoomQ k X.A) (hb : Binds X.K fdx psx []) (hl : psx.length = 4) {xe : Value → Shared → Prop}
    (xx : XE (X.tr (X.pn ++ pins) xe) (fun cls d z H => spx (exitV a) H fun r H2 => r = .non ∧ Wout cls d z H2) u s') :
    wpAny (model X.prog X.w) X.A (noteFrame u X.env) (fun _ s₂ => wpAny (model X.prog X.w) X.A (setFlight u none) (fun _ s₃ => ExitOk X.prog X.w X.A X.xe X.env a fx (SP X pins D) u s₃) X.xe s₂) X.xe s' := by
  have hfr : X.A.frames = some (X.env :: X.outer) := by rw [ok.frames, hs]
  obtain ⟨e, B, sI, pins', σ', H', cls, d, rfl, J', nb, up, sky, na, os, ag, hw⟩ := xx
  have J : Inv X pins σ' H' sI := J'.ofTry ok
  have sky' : Sky B (X.env :: X.outer) e (Zc cls d) X.env.locals s'.heap := by rw [← hs]; exact sky
  refine L2.Sky.land Zc.steady hfr hf sky' fun h3 fl3 up3 => ?_
  have J3 : Inv X pins σ' H' { s' with heap := h3 } := J.landed nb fl3.1 (up.trans up3) os ag
  obtain ⟨k1, k2, k3, oe, vs, T, oT, ts, he3, hz, hd, hv1, hnT, hTe, hT, hdT, ht3⟩ := id fl3
  have nT : H' T = none := (J.inGround nb).gone hnT
  have notFr : ∀ (b : Addr) (o : Obj) (fv : Array Value), h3.get? b = some o → o.data = .fields fv → b ∉ frs (X.env :: X.outer) := fun b o fv e dd hm => by
    obtain ⟨_, o', e', hnf⟩ := k3.mem hm
    have eo : o = o' := Option.some.inj (e.symm.trans e')
    rw [← eo] at hnf
    exact hnf _ dd
  have fa := notFr e oe vs he3 hd
  have fT := notFr T oT ts hT hdT
  obtain ⟨t1, et1⟩ : ∃ x, ts[1]? = some x := by
    have := (Array.getElem?_eq_some_iff.mp ht3).1
    exact ⟨ts[1], Array.getElem?_eq_getElem (by omega)⟩
  refine ⟨cls, if t1 == .none then .none else .ref T, fun Q' q => wpAny_typeOf_ref he3 (by rw [hz.1]; exact q), fun Q' q => ?_, ref_ne_byPass e, ?_⟩
  · unfold tracebackOf
    refine wpAny_bind (wpAny_field he3 hd hv1 ?_)
    dsimp only
    refine wpAny_bind (wpAny_field hT hdT et1 ?_)
    by_cases hh : (t1 == Value.none) = true
    · rw [if_pos hh] at q ⊢
      exact wpAny_pure q
    · rw [if_neg hh] at q ⊢
      first
        | exact wpAny_pure q
        | exact wpAny_bind (wpAny_pure (wpAny_pure q))
  have bnd := hb ({ s' with heap := h3 } : Shared) [.ref a, cls, .ref e, if t1 == .none then .none else .ref T] J3.kIn (by simp [hl])
  rw [List.append_nil] at bnd
  have e0 : Env0 X.prog X.w X.K X.mg X.base (X.A.mark (some (.ref e))) X.stack { s' with heap := h3 } H' := by
    obtain ⟨q1, q2, q3, q4, q5, q6, q7, q8⟩ := J3.env0
    exact ⟨q1, q2, q3, q4, q5, q6, q7, q8⟩
  refine codeAny_mono (F.run (X.A.mark (some (.ref e))) X.stack { s' with heap := h3 } H' ⟨[.ref a, cls, .ref e, _], []⟩ [.ref a, cls, .ref e, _] (exitV a) _ ⟨hr.dp, hr.un⟩ e0 bnd (by simp [hl]) (by simp [exitV, hl]) exit_vals hw) fun r s6 hq => ?_
  cases r with
  | error e => exact (show False from hq).elim
  | ok fl =>
  cases fl with
  | next => exact False.elim hq
  | brk => exact False.elim hq
  | cont => exact False.elim hq
  | ret uu =>
    obtain ⟨v6, H6, os6, bare6, un6, hok6, r6, ev6, q6⟩ := hq
    subst ev6
    obtain rfl : uu = Value.none := r6
    have J6 : Inv X pins σ' H6 s6 := J3.call' (ch := []) os6 un6 hok6 bare6 fun b z => by simp at z
    have fs2 : ∀ b, b ∉ frs (X.env :: X.outer) → b ∉ frs X.stack := fun b h => by rw [hs]; exact h
    have ga : s6.heap.get? e = some oe := un6.keep e oe he3 na (fs2 _ fa) (by simp)
    have gT : s6.heap.get? T = some oT := un6.keep T oT hT nT (fs2 _ fT) (by simp)
    have na6 : H6 e = none := un6.free e oe he3 na (by simp)
    have nT6 : H6 T = none := un6.free T oT hT nT (by simp)
    have far : ∀ b o, sI.heap.get? b = some o → b ≠ e ∧ b ≠ T := fun b o eb => by
      by_cases hb : b ∈ frs X.stack
      · rw [hs] at hb
        exact ⟨fun z => fa (by rw [← z]; exact hb), fun z => fT (by rw [← z]; exact hb)⟩
      · have q := nb b o eb hb
        exact ⟨fun z => by rw [z, k2] at q; exact (nomatch q), fun z => by rw [z, hnT] at q; cases q⟩
    have far0 : ∀ b o, X.s_0.heap.get? b = some o → b ≠ e ∧ b ≠ T := fun b o eb => by
      obtain ⟨o', q⟩ := J.base.there b o eb (by rw [hex]; simp)
      exact far b o' q
    have farP : ∀ p ∈ X.pn ++ pins, p.1 ≠ e ∧ p.1 ≠ T := fun p hp => far p.1 p.2 (J.pin p hp).1
    obtain ⟨G, g1, g2⟩ := restrict s6.heap fun b => !(decide (b = e) || decide (b = T))
    have gIn : ∀ b o, G.get? b = some o → s6.heap.get? b = some o ∧ b ≠ e ∧ b ≠ T := fun b o eb => by
      cases q : (!(decide (b = e) || decide (b = T))) with
      | false => rw [g2 b q] at eb; cases eb
      | true =>
        rw [g1 b q] at eb
        simp only [Bool.not_eq_true', Bool.or_eq_false_iff, decide_eq_false_iff_not] at q
        exact ⟨eb, q.1, q.2⟩
    have gOf : ∀ b o, b ≠ e → b ≠ T → s6.heap.get? b = some o → G.get? b = some o := fun b o h1 h2 eb => by
      rw [g1 b (by simp [h1, h2])]
      exact eb
    have I6 : Inv X pins σ' H6 { s6 with heap := G } := J6.less (fun b o eb => (gIn b o eb).1) gOf ⟨oe, vs, ga, hd⟩ ⟨oT, ts, gT, hdT⟩ na6 nT6 far0 farP
    have B6in : ∀ b o, (PySem.W.hideAll G (frs X.stack)).get? b = some o → s6.heap.get? b = some o := fun b o eb => (gIn b o (PySem.W.of_hideAll _ eb)).1
    have Bno : ∀ b, (b = e ∨ b = T) → (PySem.W.hideAll G (frs X.stack)).get? b = none := fun b hb => by
      cases q : (PySem.W.hideAll G (frs X.stack)).get? b with
      | none => rfl
      | some o =>
        obtain ⟨_, n1, n2⟩ := gIn b o (PySem.W.of_hideAll _ q)
        rcases hb with z | z
        · exact absurd z n1
        · exact absurd z n2
    have fl6 : HandSPX.FlyingZ (PySem.W.hideAll G (frs X.stack)) (X.env :: X.outer) e (Zc cls d) s6.heap := by
      refine ⟨B6in, Bno e (.inl rfl), ?_, oe, vs, T, oT, ts, ga, hz, hd, hv1, Bno T (.inr rfl), hTe, gT, hdT, ht3⟩
      have ff := funFrames_none (B := PySem.W.hideAll G (frs X.stack)) J6.stack fun b hb => PySem.W.hideAll_none _ hb
      rw [← hs]
      exact ff
    show wpAny (model X.prog X.w) X.A (PySem.passOn "with" (.ref e) X.env) (SP X pins D) X.xe s6
    unfold PySem.passOn
    refine wpAny_bind (wpAny_field ga hd hv1 ?_)
    rw [if_neg (show ¬ ((Value.ref T == Value.none) = true) from by simp)]
    have goOn : wpAny (model X.prog X.w) X.A (setFlight (.ref e) X.env.frame) (fun _ s7 => wpAny (model X.prog X.w) X.A (throw (.ref e) : Sem Flow) (SP X pins D) X.xe s7) X.xe s6 := by
      rw [hf]
      refine HandSPX.setFlight_upZ fl6 fun h7 hh7 up7 => wpAny_throw (tk _ _ ?_)
      refine ⟨e, PySem.W.hideAll G (frs X.stack), { s6 with heap := G }, pins, σ', H6, cls, d, rfl, I6, fun b o eb hb => PySem.W.hideAll_get _ eb hb, ?_, .inr (.inr (by rw [← hs] at hh7; exact hh7)), na6, rfl, J6.bare, q6⟩
      exact Heap.UpToSlots.trans (Heap.UpToSlots.of_keeps fun b o eb => (gIn b o eb).1) up7
    first
      | exact wpAny_bind (wpAny_pure (wpAny_bind goOn))
      | exact wpAny_bind goOn
end
end M3
namespace M3
open PySem PySem.Spec PyProof.Rows L2 PySem.W
section
variable {X : Cx}
theorem ps_with {ctx : Expr} {body : List Stmt} {pos : Pos} {te : TE} {tb : WX → TS} {Wout : WX} (hs : X.stack = X.env :: X.outer) (hf : X.env.frame = some X.env.locals) (hex : X.ex = []) (tk : Takes X Wout) {j : Nat} (hr : Room j X.A)
    (he : PE X ctx te) (hb : ∀ (W : WX) (pn : List (Addr × Obj)) (xe : Value → Shared → Prop), Takes (X.tr pn xe) W → PassesOwn (model X.prog X.w) X.A X.env xe → PSs (X.tr pn xe) body (tb W)) :
    PS X (.With [⟨ctx, none⟩] body pos) (fun D z H => te z H fun x H1 => ∃ (a C dx : Addr) (fs : List (Str × V)) (fe fx : Addr) (fde fdx : FuncData) (pse psx : List Str) (k kx : Nat) (spe : Sp) (spx : List (Option V) → Hp → VK → Prop), x = .ref a ∧ H1 a = some (.ins C dx fs) ∧ WithC X.K C fe fx ∧
      FnOk X.prog X.w X.K X.mg X.base (L2.CX X.prog X.w) k fe fde pse spe ∧ Binds X.K fde pse [] ∧ k ≤ j ∧ FnQ X.prog X.w X.K X.mg X.base kx fx fdx psx spx ∧ Binds X.K fdx psx [] ∧ psx.length = 4 ∧ kx ≤ j ∧
      spe [.ref a] H1 (fun _ H2 => tb (fun cls d z' H' => spx (exitV a) H' fun r H3 => r = .non ∧ Wout cls d z' H3)
        { nx := fun z' H' => spx (exitV a) H' fun _ H3 => D.nx z' H3, rt := fun v H' => spx (exitV a) H' fun _ H3 => D.rt v H3, bk := fun z' H' => spx (exitV a) H' fun _ H3 => D.bk z' H3, ct := fun z' H' => spx (exitV a) H' fun _ H3 => D.ct z' H3 } z H2) (WE Wout z)) := by
  refine ⟨fun pins s z H D I h => ?_⟩
  have ok := I.ok
  refine kw_exec0 (thn (he.run pins s z H _ I h) fun u s1 ⟨x, H1, I1, rx, a, C, dx, fs, fe, fx, fde, fdx, pse, psx, k, kx, spe, spx, ex, ea, wc, F, hbe, hk, Fx, hbx, hlx, hkx, hsp⟩ => ?_)
  subst ex
  obtain rfl : u = Value.ref a := rx
  obtain ⟨mA, O, _, _, _, _⟩ := ins_get I1.hok ea
  obtain ⟨od, IA, _⟩ := O.look
  have hq := (L2H.roomH_of (hr.mono hkx))
  unfold KwIn
  refine kw_coreE (EE := fun e s₁ => wpAny (model X.prog X.w) X.A (noteFrame e X.env) (fun _ s₂ => wpAny (model X.prog X.w) X.A (setFlight e none) (fun _ s₃ => ExitOk X.prog X.w X.A X.xe X.env a fx (SP X pins D) e s₃) X.xe s₂) X.xe s₁) I1.kIn IA wc.en wc.ef wc.ex wc.xf ?_ (fun e s4 z => z)
  refine thn (run_fnS (us := [.ref a]) (vs := [.ref a]) F (hr.mono hk) hbe (E := WE Wout) (fun pins H s e s' I c => passAt tk z pins H s e s' I c) I1 (.cons rfl .nil) hsp) fun v s2 ⟨_, H2, I2, _, q2⟩ => ?_
  refine wpAny_mono ((hb _ (X.pn ++ pins) _ (fun u s' xx => with_exc hs hf hex ok tk Fx hq hbx hlx xx) PassesOwn.looking).run [] s2 z H2 _ (I2.toTry _) q2) (fun f s4 hsp => ?_) fun e s4 z => z
  -- __exit__ behind the body
  have fin : ∀ {z' : L2.St} {H' : Hp} {Q : VK}, Inv X pins z' H' s4 → spx (exitV a) H' Q → wpAny (model X.prog X.w) X.A (call (.ref fx) [.ref a, .none, .none, .none]) (EP X pins z' Q) X.xe s4 := fun {z' H' Q} J q =>
    wpAny_call (codeAny_mono (exit_ok Fx hq hbx hlx J q .none .none .none) fun r s' hr => by
      cases r with
      | error e => exact hr.elim
      | ok fl => cases fl <;> first | exact hr | exact hr.elim)
  cases f with
  | next =>
    obtain ⟨z', H', J, q⟩ := hsp
    exact thn (fin (J.ofTry ok) q) fun _ s5 ⟨_, H3, J3, _, q3⟩ => ⟨z', H3, J3, q3⟩
  | brk =>
    obtain ⟨z', H', J, q⟩ := hsp
    exact thn (fin (J.ofTry ok) q) fun _ s5 ⟨_, H3, J3, _, q3⟩ => ⟨z', H3, J3, q3⟩
  | cont =>
    obtain ⟨z', H', J, q⟩ := hsp
    exact thn (fin (J.ofTry ok) q) fun _ s5 ⟨_, H3, J3, _, q3⟩ => ⟨z', H3, J3, q3⟩
  | ret u =>
    obtain ⟨v, z', H', J, r, q⟩ := hsp
    exact thn (fin (J.ofTry ok) q) fun _ s5 ⟨_, H3, J3, _, q3⟩ => ⟨v, z', H3, J3, r, q3⟩
end
end M3
namespace M3
open PySem PySem.Spec PyProof.Rows L2 PySem.W
structure WithOk (Pg : Program) (w : World) (K : PySem.W.Frag) (mg : Str → Option Value) (base : Heap) (G : G3) (k : Nat) (c : String) (mfe mfx : List D → M D) : Prop where
  ex : ∃ C fe fx fde fdx pse psx, G.cls c = some C ∧ WithC K C fe fx ∧ Binds K fde pse [] ∧ FnOk Pg w K mg base (L2.CX Pg w) k fe fde pse (spM G 1 mfe) ∧ Binds K fdx psx [] ∧ psx.length = 4 ∧ FnQ Pg w K mg base k fx fdx psx (spQ G 4 mfx)
/-- behind the body: __exit__, then as the body ended -/
def sExit (mfx : List D → M D) (k : Nat) : SRes → SRes
  | .nx u st => match mfx [.ref k] st with
    | .ok _ st' => .nx u st'
    | _ => .bad
  | .rt (.val d) st => match mfx [.ref k] st with
    | .ok _ st' => .rt (.val d) st'
    | _ => .bad
  | .err c x u st => match mfx [.ref k] st with
    | .ok .non st' => .err c x u st'
    | _ => .bad
  | _ => .bad
def sWith (c : String) (mfe mfx : List D → M D) (me : EM) (mb : SM) : SM := fun u st => match M.bind (me u) (fun w => M.bind (insOf w) fun q => M.bind (M.chk (q.2.1 = c)) fun _ => M.bind (mfe [.ref q.1]) fun _ => M.pure q.1) st with
  | .ok k st' => sExit mfx k (mb u st')
  | .err c x st' => .err c x u st'
  | .bad => .bad
section
variable {P : P3} {pos : Pos}
theorem ms_with {c : String} {ctx : Expr} {body : List Stmt} {me : EM} {mb : SM} {mfe mfx : List D → M D} {k j : Nat} (h : WithOk P.X.prog P.X.w P.X.K P.X.mg P.X.base P.G k c mfe mfx) (hs : P.X.stack = P.X.env :: P.X.outer) (hf : P.X.env.frame = some P.X.env.locals) (hex : P.X.ex = []) (tk : Takes P.X P.wx) (hr : Room j P.X.A) (hk : k ≤ j)
    (he : ME P ctx me) (hb : ∀ (W : WX) (pn : List (Addr × Obj)) (xe : Value → Shared → Prop), Takes (P.X.tr pn xe) W → PassesOwn (model P.X.prog P.X.w) P.X.A P.X.env xe → MSs (P.tr pn xe W) body mb) : MS P (.With [⟨ctx, none⟩] body pos) (sWith c mfe mfx me mb) := by
  obtain ⟨C, fe, fx, fde, fdx, pse, psx, gc, wc, bE, FE, bX, lX, FX⟩ := h.ex
  obtain ⟨t, pt, ht⟩ := he.out
  refine MS.mk' (ps_with (tb := fun W => tS P.G P.hx W mb) hs hf hex tk hr pt fun W pn xe tk' ow => (hb W pn xe tk' ow).pss) fun B0 B s o u z Dn b0 wd sl h => ht B0 B s o u z _ wd sl ?_
  unfold sWith at h
  unfold M.bind at h
  cases em : me u o with
  | bad => rw [em] at h; exact h
  | err c x st' => rw [em] at h; exact fun s' cv dd l w q => h B s' z cv dd b0 (l.less b0) w (sl.mono' l) q
  | ok w0 st1 =>
    rw [em] at h
    intro s1 v l1 wd1 r1
    have h := PostS.mono (l1.less b0) h
    dsimp only at h
    cases ei : insOf w0 st1 with
    | bad => simp only [ei] at h; exact h.elim
    | err c' x st' =>
      exfalso
      unfold insOf at ei
      split at ei
      · split at ei <;> cases ei
      · cases ei
    | ok q st2 =>
      obtain ⟨rfl, rfl, ek⟩ := ins_of ei
      simp only [ei] at h
      by_cases hc : q.2.1 = c
      · simp only [M.chk, hc, if_true] at h
        have r1 : Rep P.G.R s1.F s1.io (.ref q.1) v := r1
        cases r1 with
        | ref eio =>
          obtain ⟨a, e1, nb, hF, C', dx, gs, ec, eh, rf⟩ := wd1.obj _ _ ek rfl
          rw [eio] at e1
          cases e1
          rw [hc, gc] at ec
          cases ec
          refine ⟨_, _, dx, gs, fe, fx, fde, fdx, pse, psx, k, k, _, spQ P.G 4 mfx, rfl, eh, wc, FE, bE, hk, FX, bX, lX, hk, ?_⟩
          refine ⟨rfl, B, s1, st2, [.ref q.1], rfl, wd1, .cons (.ref eio) .nil, ?_⟩
          cases en : mfe [.ref q.1] st2 with
          | bad => simp only [en] at h; exact h.elim
          | err c' x st' => simp only [en] at h; exact fun s' cv dd l w q => h B s' z cv dd b0 (l.less b0) w ((sl.mono' l1).mono' l) q
          | ok d2 st3 =>
            simp only [en, M.pure] at h
            intro s2 v2 l2 wd2 _
            have h := PostS.mono (l2.less b0) h
            have eio2 := l2.io _ _ eio
            refine ⟨B0, B, s2, st3, u, rfl, b0, wd2, (sl.mono' l1).mono' l2, ?_⟩
            have exit : ∀ {aa : Addr} {B' : Addr → Prop} {st' : Store} {s' : S3} {Q : VK}, Wd P.G B' st' s' → s'.io q.1 = some aa → Post P.G B' (fun s d v => Rep P.G.R s.F s.io d v) C8.E0 s' Q (mfx [.ref q.1] st') → spQ P.G 4 mfx (exitV aa) s'.H Q := fun {aa B' st' s' Q} w e p =>
              ⟨[.ref aa], B', s', st', [.ref q.1], rfl, rfl, w, .cons (.ref e) .nil, p⟩
            cases eb : mb u st3 with
            | bk u' st' => rw [eb] at h; exact h.elim
            | ct u' st' => rw [eb] at h; exact h.elim
            | bad => rw [eb] at h; exact h.elim
            | nx u' st' =>
              rw [eb] at h
              intro B' s' z' bb l' w' sl'
              refine exit w' (l'.io _ _ eio2) ?_
              unfold sExit at h
              dsimp only at h
              cases ex : mfx [.ref q.1] st' with
              | bad => rw [ex] at h; exact h.elim
              | err c' x st4 => rw [ex] at h; exact h.elim
              | ok d st4 =>
                rw [ex] at h
                exact fun s4 v4 l4 w4 _ => h B' s4 z' bb (l'.trans (l4.less bb)) w4 (sl'.mono' l4)
            | rt w st' =>
              rw [eb] at h
              cases w with
              | val d =>
                intro B' s' v' bb l' w' r'
                refine exit w' (l'.io _ _ eio2) ?_
                unfold sExit at h
                dsimp only at h
                cases ex : mfx [.ref q.1] st' with
                | bad => rw [ex] at h; exact h.elim
                | err c' x st4 => rw [ex] at h; exact h.elim
                | ok d' st4 =>
                  rw [ex] at h
                  have r' : Rep P.G.R s'.F s'.io d v' := r'
                  exact fun s4 v4 l4 w4 _ => h B' s4 v' bb (l'.trans (l4.less bb)) w4 (r'.mono l4.fr l4.io)
              | _ => exact h.elim
            | err c' x u' st' =>
              rw [eb] at h
              intro B' s' z' cv dd bb l' w' sl' xr
              refine exit w' (l'.io _ _ eio2) ?_
              unfold sExit at h
              dsimp only at h
              cases ex : mfx [.ref q.1] st' with
              | bad => rw [ex] at h; exact h.elim
              | err c' x st4 => rw [ex] at h; exact h.elim
              | ok d' st4 =>
                rw [ex] at h
                cases d' with
                | non =>
                  intro s4 v4 l4 w4 r4
                  cases r4
                  refine ⟨rfl, h B' s4 z' cv dd bb (l'.trans (l4.less bb)) w4 (sl'.mono' l4) ?_⟩
                  unfold ExR at xr ⊢
                  split at xr
                  · exact xr
                  · rename_i C hcl
                    refine ⟨xr.1, ?_⟩
                    have x2 := xr.2
                    split at x2
                    · exact x2
                    · obtain ⟨dd', fs, v, y1, y2, y3, y4⟩ := x2
                      exact ⟨dd', fs, v, y1, l4.fr _ _ y2, y3, y4.mono l4.fr l4.io⟩
                | _ => exact h.elim
      · simp only [M.chk, hc, if_false] at h
        exact h.elim
end
end M3
/-! defs whose cells are captured; the end with tables -/
namespace M3
open PySem PySem.Spec PyProof.Rows L2 LamX NdefX
theorem TabB.over {b0 b : Heap} {mg : Str → Option Value} {c P : Addr} (t : TabB b0 mg c P) (h : Over b0 b) : TabB b mg c P := ⟨t.code.keeps h, t.bm.keeps h, t.gP⟩
/-- the store as the callers have it -/
def ownFix {α : Type} (m : List D → M α) : List D → M α := fun ds st => match m ds st with
  | .ok d st' => .ok d (st'.map MO.nap)
  | .err c x st' => .err c x (st'.map MO.nap)
  | .bad => .bad
def mfnC (N : Nat) (mb : SM) : List D → M D := ownFix (mfn N mb)
section
variable {G : G3} {b : Heap} {w : Nat → Option Addr} {B : Addr → Prop} {st : Store} {s : S3}
theorem Wd.owned (h : Wd (G.at b) B st s) : Wd ((G.at b).owning w) B st s := by
  refine ⟨h.sub, h.hid, h.ftb, h.dom, h.inj, fun k o e t => ?_, fun k o e t => ?_, h.tabs⟩
  · obtain ⟨a, e1, b1, f1, x⟩ := h.obj k o e t
    refine ⟨a, e1, b1, f1, ?_⟩
    cases o <;> exact x
  · obtain ⟨a, e1, x⟩ := h.unt k o e t
    refine ⟨a, e1, ?_⟩
    cases o with
    | slp i => have x : (G.at b).own i = some a := x; cases x
    | _ => exact x
theorem Wd.disown (h : Wd ((G.at b).owning w) B st s) : Wd (G.at b) B (st.map MO.nap) s := Wd.nap (G := (G.at b).owning w) (KnowsTo.refl _) h
theorem body_postC {wx : WX} {o : Store} {u : Sl3} {Q : VK} {E : XK} {mb : SM} {N : Nat} {ds : List D} (hwx : wx = fun cls d _ H => E cls d H) (hu : u = ds.map (fun d => some (.val d)) ++ List.replicate (N - ds.length) none)
    (hp : Post (G.at b) B (fun s d v => Rep (G.at b).R s.F s.io d v) E s Q (mfnC N mb ds o)) : PostS ((G.at b).owning w) none wx B s { nx := fun _ H' => Q .non H', rt := Q } (mb u o) := by
  subst hwx hu
  unfold mfnC ownFix mfn at hp
  cases em : mb (ds.map (fun d => some (.val d)) ++ List.replicate (N - ds.length) none) o with
  | nx u' st' => rw [em] at hp; exact fun B' s' z' b l w sl => hp s' .non l (Wd.disown (w.less b)) .non
  | rt w st' =>
    rw [em] at hp
    cases w with
    | val d => exact fun B' s' v b l w r => hp s' v l (Wd.disown (w.less b)) r
    | bor xs =>
      rintro B' s' v b l w ⟨p, vs', rfl, bp, nb, hq, r⟩
      have w' : Wd _ (plus B p) st' s' := w.less fun a q => q.elim (b a) fun z => z ▸ bp
      exact hp ⟨s'.io, upd s'.F p (.lst vs'), s'.H⟩ (.ref p) (l.trans (freeze_le w')) (Wd.disown (freeze_wd w' nb hq)) (.lst upd_same (r.mono (freeze_le w').fr (freeze_le w').io))
    | bod ks us => exact hp.elim
    | bdd ks us => exact hp.elim
    | exn c x => exact hp.elim
    | len xs => exact hp.elim
  | bk u' st' => rw [em] at hp; exact hp.elim
  | ct u' st' => rw [em] at hp; exact hp.elim
  | err c x u' st' => rw [em] at hp; exact fun B' s' z' cv dd b l w sl q => hp s' cv dd l (Wd.disown (w.less b)) q
  | bad => rw [em] at hp; exact hp.elim
end
section
variable {P : Program} {w : World} {K : PySem.W.Frag} {mg : Str → Option Value} {base : Heap}
theorem fn_okC {G : G3} (hK : K = G.K) (hw : w = G.w) {x qual : Str} {st : Stmt} {f : Addr} {c : Addr} {fd : FuncData} {N ps : List Str} {k : Nat} {mb : SM} (F : Fun K x qual st f fd) (hc : fd.code = .ref c) (S : FnScope N ps (defScope st))
    (h : ∀ (A : Around) (outer : List Env) (s : Shared) (H : Hp) (E : XK), Room k (A.deeper (envOfC qual (defScope st) s.heap.objs.size f (.ref c))) →
      MSs ⟨cxOf (L2.CX P w) P w K mg base N qual (defScope st) f (.ref c) A outer s H E, (G.at base).owning (ownOf N (defScope st) (envOfC qual (defScope st) s.heap.objs.size f (.ref c)).cells), none, fun cls d _ H => E cls d H, hK, hw⟩ (defBody st) mb) :
    FnOk P w K mg base (L2.CX P w) (k + 1) f fd ps (spM (G.at base) ps.length (mfnC N.length mb)) := by
  obtain ⟨oc, od, kV, doc, pm, an, cdv, ct, osl, rfl, lk, hcd⟩ := F.ex
  obtain rfl : cdv = .ref c := hc
  refine fn_of lk hcd S (fun vs H Q E h => h.1) fun A outer s0 H vs Q E hr ⟨hl, B, s, o, ds, e, wd, rl, hp⟩ => ?_
  subst e
  obtain ⟨t, pt, ht⟩ := (h A outer s0 s.H E hr).out
  exact ⟨t, pt, ht B B s o _ _ _ (fun _ b => b) wd.owned (slo_start (N := N) rl) (body_postC rfl rfl hp)⟩
end
/-! ### what a frame with captured cells calls -/
section
variable {Pg : Program} {w : World} {K : PySem.W.Frag} {mg : Str → Option Value} {base b : Heap} {G : G3} {k n : Nat} {x f : Str} {c : String} {m : List D → M D} {dd : List D}
theorem CalW.nap {m : List M3.W → M D} (h : CalW Pg w K mg base (G.at b) k x n m) (hb : KnowsTo G.base b) : CalW Pg w K mg base G k x n (M3.nap m) := by
  obtain ⟨f, fd, ps, a1, a2, a3, a4, F⟩ := h.ex
  exact ⟨f, fd, ps, a1, a2, a3, a4, F.imp fun _ _ _ _ h => spMW_nap hb h⟩
theorem CalD.nap (h : CalD Pg w K mg base (G.at b) k x n dd m) (hb : KnowsTo G.base b) : CalD Pg w K mg base G k x n dd (M3.nap m) := by
  obtain ⟨f, fd, ps, dvs, dsv, a1, a2, a3, a4, a5, F⟩ := h.ex
  exact ⟨f, fd, ps, dvs, dsv, a1, a2, a3, a4, a5, F.imp fun _ _ _ _ h => spM_nap hb h⟩
theorem MkOk3.nap (h : MkOk3 Pg w K mg base (G.at b) k x c n dd m) (hb : KnowsTo G.base b) : MkOk3 Pg w K mg base G k x c n dd (M3.nap m) := by
  obtain ⟨C, f, fd, ps, dvs, dsv, a1, a2, a3, a4, a5, a6, F⟩ := h.ex
  exact ⟨C, f, fd, ps, dvs, dsv, a1, a2, a3, a4, a5, a6, F.imp fun _ _ _ _ h => spM_nap hb h⟩
theorem MkOkK.nap {ks : List Str} {arr : List D → List D → List D} {N : Nat} (h : MkOkK Pg w K mg base (G.at b) k x c n ks arr N m) (hb : KnowsTo G.base b) : MkOkK Pg w K mg base G k x c n ks arr N (M3.nap m) := by
  obtain ⟨C, f, fd, ps, g, gV, hV, a1, a2, a3, a4, a5, a6, a7, F⟩ := h.ex
  exact ⟨C, f, fd, ps, g, gV, hV, a1, a2, a3, a4, a5, a6, a7, F.imp fun _ _ _ _ h => spM_nap hb h⟩
theorem MthOk.nap (h : MthOk Pg w K mg base (G.at b) k x n c m) (hb : KnowsTo G.base b) : MthOk Pg w K mg base G k x n c (M3.nap m) := by
  obtain ⟨C, f, fd, ps, a1, a2, a3, a4, F⟩ := h.ex
  exact ⟨C, f, fd, ps, a1, a2, a3, a4, F.imp fun _ _ _ _ h => spM_nap hb h⟩
theorem PropOk.nap (h : PropOk Pg w K mg base (G.at b) k f c m) (hb : KnowsTo G.base b) : PropOk Pg w K mg base G k f c (M3.nap m) := by
  obtain ⟨C, p, g, fd, ps, a1, a2, a3, a4, F⟩ := h.ex
  exact ⟨C, p, g, fd, ps, a1, a2, a3, a4, F.imp fun _ _ _ _ h => spM_nap hb h⟩
theorem PropOkL.nap {m : List D → M (List D)} (h : PropOkL Pg w K mg base (G.at b) k f c m) (hb : KnowsTo G.base b) : PropOkL Pg w K mg base G k f c (M3.nap m) := by
  obtain ⟨C, p, g, fd, ps, a1, a2, a3, a4, F⟩ := h.ex
  exact ⟨C, p, g, fd, ps, a1, a2, a3, a4, F.imp fun _ _ _ _ h => spML_nap hb h⟩
theorem XcOk.nap (h : XcOk Pg w K mg base (G.at b) k x c) : XcOk Pg w K mg base G k x c := h.1.elim fun C ⟨D, f, fd, ps, fld, h⟩ => ⟨C, D, f, fd, ps, fld, h⟩
theorem FnQ.mono {P : Program} {j : Nat} {g : Addr} {fd : FuncData} {ps : List Str} {sp : List (Option V) → Hp → VK → Prop} (F : FnQ P w K mg base j g fd ps sp) (h : j ≤ k) : FnQ P w K mg base k g fd ps sp :=
  ⟨fun A outer s H args us ws Q hr => F.run A outer s H args us ws Q (hr.mono h)⟩
section
variable {w' : Nat → Option Addr}
theorem Cal.ow (h : Cal Pg w K mg base (G.at base) k x n m) : Cal Pg w K mg base ((G.at base).owning w') k x n (M3.nap m) := Cal.nap (G := (G.at base).owning w') (b := base) h (KnowsTo.refl _)
theorem CalW.ow {m : List M3.W → M D} (h : CalW Pg w K mg base (G.at base) k x n m) : CalW Pg w K mg base ((G.at base).owning w') k x n (M3.nap m) := CalW.nap (G := (G.at base).owning w') (b := base) h (KnowsTo.refl _)
theorem CalD.ow (h : CalD Pg w K mg base (G.at base) k x n dd m) : CalD Pg w K mg base ((G.at base).owning w') k x n dd (M3.nap m) := CalD.nap (G := (G.at base).owning w') (b := base) h (KnowsTo.refl _)
theorem MkOk3.ow (h : MkOk3 Pg w K mg base (G.at base) k x c n dd m) : MkOk3 Pg w K mg base ((G.at base).owning w') k x c n dd (M3.nap m) := MkOk3.nap (G := (G.at base).owning w') (b := base) h (KnowsTo.refl _)
theorem MkOkK.ow {ks : List Str} {arr : List D → List D → List D} {N : Nat} (h : MkOkK Pg w K mg base (G.at base) k x c n ks arr N m) : MkOkK Pg w K mg base ((G.at base).owning w') k x c n ks arr N (M3.nap m) := MkOkK.nap (G := (G.at base).owning w') (b := base) h (KnowsTo.refl _)
theorem MthOk.ow (h : MthOk Pg w K mg base (G.at base) k x n c m) : MthOk Pg w K mg base ((G.at base).owning w') k x n c (M3.nap m) := MthOk.nap (G := (G.at base).owning w') (b := base) h (KnowsTo.refl _)
theorem PropOk.ow (h : PropOk Pg w K mg base (G.at base) k f c m) : PropOk Pg w K mg base ((G.at base).owning w') k f c (M3.nap m) := PropOk.nap (G := (G.at base).owning w') (b := base) h (KnowsTo.refl _)
theorem PropOkL.ow {m : List D → M (List D)} (h : PropOkL Pg w K mg base (G.at base) k f c m) : PropOkL Pg w K mg base ((G.at base).owning w') k f c (M3.nap m) := PropOkL.nap (G := (G.at base).owning w') (b := base) h (KnowsTo.refl _)
theorem CalR.ow (h : CalR Pg w K mg base (G.at base) k x m) : CalR Pg w K mg base ((G.at base).owning w') k x (M3.nap m) := CalR.nap (G := (G.at base).owning w') (b := base) h (KnowsTo.refl _)
theorem MthR.ow (h : MthR Pg w K mg base (G.at base) k x c m) : MthR Pg w K mg base ((G.at base).owning w') k x c (M3.nap m) := MthR.nap (G := (G.at base).owning w') (b := base) h (KnowsTo.refl _)
end
end
/-! ### a def that holds lambdas: its code object, its table -/
structure OwnT (G : G3) (mg : Str → Option Value) (base : Heap) (c T : Addr) (q : Str) : Prop where
  tb : TabB base mg c T
  m : (T, fun _ _ => q) ∈ G.tabs
  u : ∀ p ∈ G.tabs, p.1 = T → p.2 = fun _ _ => q
def stB (i : Nat) : Stmt → Stmt
  | .FunctionDef _ _ b _ _ _ _ _ _ _ => b.getD i (.Pass ⟨0, 0, 0, 0⟩)
  | .For _ _ b _ _ => b.getD i (.Pass ⟨0, 0, 0, 0⟩)
  | .While _ b _ _ => b.getD i (.Pass ⟨0, 0, 0, 0⟩)
  | .If _ b _ _ => b.getD i (.Pass ⟨0, 0, 0, 0⟩)
  | .With _ b _ => b.getD i (.Pass ⟨0, 0, 0, 0⟩)
  | .Try b _ _ _ _ => b.getD i (.Pass ⟨0, 0, 0, 0⟩)
  | s => s
def stO (i : Nat) : Stmt → Stmt
  | .If _ _ b _ => b.getD i (.Pass ⟨0, 0, 0, 0⟩)
  | s => s
def noE : Expr := .Tuple [] 0 ⟨0, 0, 0, 0⟩
def stE : Stmt → Expr
  | .Assign _ e _ => e
  | .Return (some e) _ => e
  | .Expr e _ => e
  | _ => noE
def exA (i : Nat) : Expr → Expr
  | .Call _ es _ _ => es.getD i noE
  | _ => noE
def lamP : Expr → Arguments
  | .Lambda a _ _ _ => a
  | _ => defArgs (.Pass ⟨0, 0, 0, 0⟩)
def lamB : Expr → Expr
  | .Lambda _ b _ _ => b
  | _ => noE
def lamS : Expr → Scope
  | .Lambda _ _ s _ => s
  | _ => defScope (.Pass ⟨0, 0, 0, 0⟩)
/-! ### the end -/
open PySem.W PySem.Calls in
theorem walk3T {l : OpenLaw} {n k : Nat} {q : Program} {loose : List Str} {XP : (Str → Option Value) → Heap → Prop} {YP : World → Heap → Prop} {d : DefRec} {K : Params → Frag} {x : Str} {m : List D → M D} (tn : List Str)
    (hn : l.most = some n) (hn2 : n ≤ sizeLine) (hdf : d.params.defaults = []) (hr : L2.Room k callerA) (hY : ∀ (w : World) (h : Heap), YP w h → (K w.params).In h) (htn : ∀ y ∈ tn, ((recsOf q).find? fun e => e.name == y).isSome = true)
    (F : ∀ (w : World) (mg : Str → Option Value) (fa : Addr) (h : Heap), (K w.params).In h → h.Ns mainGlobals mg → mg d.name = some (.ref fa) → ∃ (G : G3) (fd : FuncData) (cs : List (Addr × Addr)), G.K = K w.params ∧
        (∀ p ∈ cs, (K w.params).lookup p.2 = none ∧ ∃ y ∈ tn, tabIn (K w.params) y = some p) ∧ (∀ p ∈ G.tabs, ∃ c, (c, p.1) ∈ cs) ∧ (∀ (s : Shared) (u : Value), BindsTo s fd ⟨[u], []⟩ [(x, u)]) ∧
        ∀ base : Heap, (K w.params).In base → base.Ns mainGlobals mg → (∀ p ∈ cs, TabB base mg p.1 p.2) → L2.FnOk l.prog w (K w.params) mg base (L2.CX l.prog w) k fa fd [x] (spM (G.at base) 1 m))
    (hm : ∀ ns : List Int, ns.length ≤ n → (∀ i ∈ ns, i.natAbs.log2 ≤ 1048576) → ∃ st, m [.ro (ns.map .int)] [] = .ok (.bl true) st) : WalkO q loose XP YP l.row.toRowW d [] (fun f vs => PySem.call f vs) := by
  intro w s₀ s₁ mg mb Gr Y fa o pm cd doc dV kV ho hd hcd hD hmg hg args vals as hpre hlay hrd hwl hlo
  cases Dflts.none hD hdf
  cases Dflts.noKw hD
  obtain ⟨a, vs, ns, rfl, rfl, hobj, hints, hlen⟩ := Att.script_of hn hpre hwl
  have KX := hY w _ Y
  obtain ⟨G, fd, cs, hK, hcs, hTG, hb, hF⟩ := F w mg fa _ KX Gr.T.g hmg
  obtain ⟨st, hst⟩ := hm ns hlen (bits_of hlay)
  have hT : ∀ p ∈ cs, CodeHd s₁.heap p.1 p.2 ∧ s₁.heap.get? p.2 = some (tabObj #[]) := fun p hp => by
    obtain ⟨_, y, hy, e⟩ := hcs p hp
    obtain ⟨dr, er⟩ := Option.isSome_iff_exists.mp (htn y hy)
    exact tab_of Gr.T KX er e
  refine enter_call (codeAny_mono (LamX.law_callTs (CX := L2.CX l.prog w) (cs := cs) KX Gr.T.g Gr.T.b Gr.T.builtins Gr.T.nolimit hg (fun p hp => (hT p hp).2) (fun p hp => (hcs p hp).1) (fun p hp => (hT p hp).1) Gr.T.bmain hobj hints (Nat.le_trans hlen hn2) hr (sp := fun vs H Q E => ∀ b, spM (G.at b) 1 m vs H Q E) (fun base i1 i2 i3 => (hF base i1 i2 i3).imp fun _ _ _ _ h => h base) hb (fun H hO hS => ?_) fun H e s' hq => ?_) fun r s' hq => ?_)
  · intro bb
    refine ⟨rfl, fun _ => False, ⟨fun _ => none, fun b => match H b with | some (.tbl _) => none | o => o, H⟩, [], [.ro (ns.map .int)], rfl, ⟨fun b o e => ?_, fun _ z => z.elim, (fun b o e ps q => ?_), (fun _ _ z => nomatch z), (fun _ _ _ _ _ z => nomatch z), (fun _ _ z => nomatch z), (fun _ _ z => nomatch z), fun p hp => ?_⟩,   .cons (Rep.ro (vs := ns.map V.int) ?_ ?_) .nil, ?_⟩
    · dsimp only at e
      split at e
      · cases e
      · exact e
    · dsimp only at e
      subst q
      split at e
      · cases e
      · rename_i q
        exact q _ e
    · obtain ⟨c, hc⟩ := hTG p hp
      exact ⟨#[], hO _ hc, trivial, fun pos cv z => by cases z⟩
    · show L2.SqL G.K _ _ _
      rw [hK]
      rcases hS with hS | hS
      · refine .inl (hS.imp (fun e => ?_) fun ⟨o, e⟩ => ⟨o, ?_⟩)
        · dsimp only
          rw [e]
        · dsimp only
          rw [e]
      · exact .inr hS
    · clear hst hobj hints hlen hS hlay hrd hwl hpre
      induction ns with
      | nil => exact .nil
      | cons i ns ih => exact .cons .int ih
    · rw [hst]
      intro s2 v l2 w2 r2
      cases r2
      rfl
  · obtain ⟨_, _, _, _, _, _, _, _, _, _, _, _, z⟩ := hq
    exact z
  · obtain ⟨rfl, h2, h3, h4⟩ := hq
    exact ⟨.inl ⟨.bool true, .bool true, [], rfl, fun _ => rfl, .bool true, Att.post_true l _, fun _ => ⟨List.Pairwise.nil, fun _ hm => (nomatch hm)⟩⟩, h2, h3, h4⟩
end M3
namespace M3
open PySem PySem.Spec PyProof.Rows L2 PySem.W
theorem tabIn_of {K : PySem.W.Frag} {x : Str} {f c T : Addr} {oc : Value} {od : Option Addr} {fd : FuncData} {sl : Array (Option Value)} {oc2 : Value} {od2 : Option Addr} {vs : Array Value} {sl2 : Array (Option Value)} (a : nsIn K mainGlobals x = some (some (.ref f))) (l : K.lookup f = some ⟨oc, od, .func fd, sl⟩)
    (hc : fd.code = .ref c) (lc : K.lookup c = some ⟨oc2, od2, .fields vs, sl2⟩) (hv : vs[11]? = some (.ref T)) : tabIn K x = some (c, T) := by
  unfold tabIn
  rw [a]
  dsimp only
  rw [l]
  dsimp only
  rw [hc]
  dsimp only
  rw [lc]
  dsimp only
  rw [hv]
end M3
/-! running what function values, frames with captured cells, star calls and with brought -/
namespace M3
open PySem L2
section
variable {α β γ : Type} {k : Res α → Prop} {kw : Res W → Prop} {kl : Res (List D) → Prop} {ks : SRes → Prop} {kd : Res D → Prop} {st : Store} {u : Sl3} {m a b mo m1 m2 : EM} {ma mk : AM} {g : GM} {tab : FnTab}
@[simp] theorem run_eCallV (n i : Nat) : run (eCallV n tab i ma u st) kw = kVar st (kBind (fun w => M.bind (M.of (fnOf w)) fun _ => M.bind (ma u) fun ws => M.bind (M.of (asDs ws)) fun ds => M.bind (fcall n tab w ds) fun d => M.pure (.val d)) kw) u[i]? := by
  rw [← run_eVar]
  exact run_bind _ _
@[simp] theorem run_eCallA (n : Nat) (cs : List String) (f : Str) : run (eCallA n tab cs f mo ma u st) kw = run (mo u st) (kBind (fun w => M.bind (insOf w) fun q => M.bind (M.chk (q.2.1 ∈ cs)) fun _ => M.bind (M.of (q.2.2.lookup f)) fun d => M.bind (M.of (fnOf (.val d))) fun _ =>
  M.bind (ma u) fun ws => M.bind (M.of (asDs ws)) fun ds => M.bind (fcall n tab (.val d) ds) fun d => M.pure (.val d)) kw) := run_bind _ _
@[simp] theorem fnOf_fn (c : String) (js : List Nat) : fnOf (.val (.fn c js)) = some (c, js) := rfl
@[simp] theorem run_fcall (n : Nat) (w : W) (ds : List D) : run (fcall n tab w ds st) kd = run (M.of (fnOf w) st) (kBind (fun q => M.bind (M.of (tab.lookup q.1)) fun mf => M.bind (M.chk (ds.length = n)) fun _ => mf q.2 ds) kd) := run_bind _ _
@[simp] theorem run_eLam (c : String) (js : List Nat) : run (eLam c js u st) kw = kw (.ok (.val (.fn c (List.range' st.length js.length))) (st ++ js.map .slp)) := rfl
@[simp] theorem run_capd (f : List D → M D) (js : List Nat) (ds : List D) : run (capd f js ds st) kd = run (capsM js st) (kBind (fun cs => f (ds ++ cs)) kd) := run_bind _ _
theorem run_capsM {js : List Nat} {cs : List D} (h : capsS st js = some cs) : run (capsM js st) kl = kl (.ok cs st) := by unfold run capsM; rw [h]
@[simp] theorem run_mfnE (N : Nat) (e : EM) (ds : List D) : run (mfnE N e ds st) kd = run (e (ds.map (fun d => some (.val d)) ++ List.replicate (N - ds.length) none) st) (kBind (fun w => M.of w.d) kd) := run_bind _ _
/-! calls from a frame with captured cells -/
def kBack (st : Store) (k : Res α → Prop) : Res α → Prop
  | .ok d st' => k (.ok d (back st st'))
  | .err c x st' => k (.err c x (back st st'))
  | .bad => k .bad
@[simp] theorem kBack_ok (d : α) (st') : kBack st k (.ok d st') = k (.ok d (back st st')) := rfl
@[simp] theorem kBack_err (c x st') : kBack st k (.err c x st') = k (.err c x (back st st')) := rfl
@[simp] theorem kBack_bad : kBack st k (.bad : Res α) = k .bad := rfl
@[simp] theorem run_nap (m : β → M α) (ds : β) : run (nap m ds st) k = run (m ds (st.map MO.nap)) (kBack st k) := by
  unfold run nap kBack
  cases m ds (st.map MO.nap) <;> rfl
@[simp] theorem run_lend (m : β → M α) (ds : β) : run (lend u m ds st) k = run (m ds (st.map (MO.lent u))) (kBack st k) := by
  unfold run lend kBack
  cases m ds (st.map (MO.lent u)) <;> rfl
@[simp] theorem run_eCallR (n : Nat) (f : List D → M D) : run (eCallR n f ma u st) kw = run (ma u st) (kBind (fun ws => M.bind (M.of (asDs ws)) fun ds => M.bind (M.chk (ds.length = n)) fun _ => M.bind (lend u f ds) fun d => M.pure (.val d)) kw) := run_bind _ _
def kOwn (k : Res α → Prop) : Res α → Prop
  | .ok d st' => k (.ok d (st'.map MO.nap))
  | .err c x st' => k (.err c x (st'.map MO.nap))
  | .bad => k .bad
@[simp] theorem kOwn_ok (d : α) (st') : kOwn k (.ok d st') = k (.ok d (st'.map MO.nap)) := rfl
@[simp] theorem kOwn_err (c x st') : kOwn k (.err c x st' : Res α) = k (.err c x (st'.map MO.nap)) := rfl
@[simp] theorem kOwn_bad : kOwn k (.bad : Res α) = k .bad := rfl
theorem run_mfnC (N : Nat) (mb : SM) (ds : List D) : run (mfnC N mb ds st) kd = run (mfn N mb ds st) (kOwn kd) := by
  unfold run mfnC ownFix kOwn
  cases mfn N mb ds st <;> rfl
/-! star -/
theorem run_mfnS (N np : Nat) (mb : SM) (ds : List D) : run (mfnS N np mb ds st) kd = if np ≤ ds.length ∧ ds.length - np ≤ 1000 then run (mfn N mb (ds.take np ++ [.ctup (ds.drop np)]) st) kd else kd .bad := by
  unfold run mfnS
  split <;> rfl
@[simp] theorem run_eMethRp (f : Str) (tb : List (String × (List D → M D))) : run (eMethRp f tb mo ma u st) kw = run (mo u st) (kBind (fun w => M.bind (insOf w) fun q => M.bind (M.chk (q.2.2.lookup f = none)) fun _ => M.bind (M.of (tb.lookup q.2.1)) fun mf =>
  M.bind (ma u) fun ws => M.bind (M.of (asDs ws)) fun ds => M.bind (mf (.ref q.1 :: ds)) fun d => M.pure (.val d)) kw) := run_bind _ _
@[simp] theorem run_eMethRs (X : Sl3 → (List D → M D) → List D → M D) (f : Str) (tb : List (String × (List D → M D))) : run (eMethRs X f tb mo m1 m2 u st) kw = run (mo u st) (kBind (fun w => M.bind (insOf w) fun q => M.bind (M.chk (q.2.2.lookup f = none)) fun _ => M.bind (M.of (tb.lookup q.2.1)) fun mf =>
  M.bind (m1 u) fun w1 => M.bind (M.of w1.d) fun d1 => M.bind (m2 u) fun w2 => M.bind (M.of (w2.d.bind D.items)) fun ds => M.bind (X u mf (.ref q.1 :: d1 :: ds)) fun d => M.pure (.val d)) kw) := run_bind _ _
@[simp] theorem lenF_ctup (xs : List D) : lenF [.val (.ctup xs)] = some (.val (.int xs.length)) := rfl
def kStar (g : GM) (i : Nat) (u : Sl3) (ks : SRes → Prop) : Res W → Prop
  | .ok w st' => match w with
    | .val (.ctup (x :: xs)) => if xs.length ≤ 1000 then kAsg2 st' ks ((g x u).map fun u' => u'.set i (some (.val (.lst xs)))) else ks .bad
    | .val (.tup (x :: xs)) => if xs.length ≤ 1000 then kAsg2 st' ks ((g x u).map fun u' => u'.set i (some (.val (.lst xs)))) else ks .bad
    | _ => ks .bad
  | .err c x st' => ks (.err c x u st')
  | .bad => ks .bad
@[simp] theorem kStar_ctup (i : Nat) (x xs st') : kStar g i u ks (.ok (.val (.ctup (x :: xs))) st') = if xs.length ≤ 1000 then kAsg2 st' ks ((g x u).map fun u' => u'.set i (some (.val (.lst xs)))) else ks .bad := rfl
@[simp] theorem srun_sAsgStar (i : Nat) : srun (sAsgStar m g i u st) ks = run (m u st) (kStar g i u ks) := by
  unfold srun sAsgStar run kStar
  cases m u st with
  | ok w st' =>
    cases w with
    | val d =>
      cases d with
      | ctup xs => cases xs with
        | nil => rfl
        | cons x xs =>
          dsimp only
          split
          · cases g x u <;> rfl
          · rfl
      | tup xs => cases xs with
        | nil => rfl
        | cons x xs =>
          dsimp only
          split
          · cases g x u <;> rfl
          · rfl
      | _ => rfl
    | _ => rfl
  | _ => rfl
/-! with -/
def kExit (mfx : List D → M D) (j : Nat) (ks : SRes → Prop) (r : SRes) : Prop := ks (sExit mfx j r)
@[simp] theorem kExit_rt {mfx : List D → M D} {j : Nat} {d : D} {r st'} (h : mfx [.ref j] st = .ok r st') : kExit mfx j ks (.rt (.val d) st) = ks (.rt (.val d) st') := by
  unfold kExit sExit
  simp only [h]
@[simp] theorem kExit_nx {mfx : List D → M D} {j : Nat} {r st'} (h : mfx [.ref j] st = .ok r st') : kExit mfx j ks (.nx u st) = ks (.nx u st') := by
  unfold kExit sExit
  simp only [h]
@[simp] theorem kExit_err {mfx : List D → M D} {j : Nat} {c x st'} (h : mfx [.ref j] st = .ok .non st') : kExit mfx j ks (.err c x u st) = ks (.err c x u st') := by
  unfold kExit sExit
  simp only [h]
def kWithIn (mfx : List D → M D) (mb : SM) (u : Sl3) (ks : SRes → Prop) : Res Nat → Prop
  | .ok j st' => srun (mb u st') (kExit mfx j ks)
  | .err c x st' => ks (.err c x u st')
  | .bad => ks .bad
@[simp] theorem kWithIn_ok {mfx : List D → M D} {mb : SM} (j) : kWithIn mfx mb u ks (.ok j st) = srun (mb u st) (kExit mfx j ks) := rfl
@[simp] theorem srun_sWith (c : String) (mfe mfx : List D → M D) (mb : SM) : srun (sWith c mfe mfx m mb u st) ks = run (m u st) (kBind (fun w => M.bind (insOf w) fun q => M.bind (M.chk (q.2.1 = c)) fun _ => M.bind (mfe [.ref q.1]) fun _ => M.pure q.1) (kWithIn mfx mb u ks)) := by
  rw [← run_bind]
  unfold srun sWith run kWithIn
  cases (M.bind (m u) (fun w => M.bind (insOf w) fun q => M.bind (M.chk (q.2.1 = c)) fun _ => M.bind (mfe [.ref q.1]) fun _ => M.pure q.1) st) <;> rfl
end
/-! the store behind such calls -/
theorem back_self : ∀ {st : Store}, back st (st.map MO.nap) = st
  | [] => rfl
  | o :: st => by
    show o.pick o.nap :: back st (st.map MO.nap) = o :: st
    rw [back_self]
    congr 1
    unfold MO.pick
    split
    · rename_i h
      have : o.nap = o := by cases o <;> first | rfl | cases h
      rw [this]
      unfold MO.cut
      rw [if_pos h]
    · rfl
end M3
/-! a def within a def that stores to a captured name: give_answers and the function that it gives -/
namespace M3
open PySem PySem.Spec PyProof.Rows L2 LamX NdefX
/-! ### a frame whose captured cells the callers track -/
/-! ### a body that ends with return e, the slots known at its end -/
def PostR (P : P3) (me : EM) (B0 : Addr → Prop) (s : S3) (R : V → L2.St → Hp → Prop) : SRes → Prop
  | .nx u' st' => ∀ (B' : Addr → Prop) (s' : S3) (z' : L2.St), (∀ a, B0 a → B' a) → Le B0 s s' → Wd P.G B' st' s' → Slo P.G P.hx B0 B' s' u' z' → Post P.G B' (fun s d v => Rep P.G.R s.F s.io d v) (fun c d H => P.wx c d z' H) s' (fun v H => R v z' H) (M.bind (me u') (fun w => M.of w.d) st')
  | .err c x u' st' => ∀ (B' : Addr → Prop) (s' : S3) (z' : L2.St) (cv : Value) (dd : Option Addr), (∀ a, B0 a → B' a) → Le B0 s s' → Wd P.G B' st' s' → Slo P.G P.hx B0 B' s' u' z' → ExR P.G s' c x cv dd → P.wx cv dd z' s'.H
  | _ => False
theorem PostR.mono {P : P3} {me : EM} {B0 : Addr → Prop} {s s1 : S3} {R : V → L2.St → Hp → Prop} {r : SRes} (l : Le B0 s s1) (h : PostR P me B0 s R r) : PostR P me B0 s1 R r := by
  cases r with
  | nx u' st' => exact fun B' s' z' b l' w r => h B' s' z' b (l.trans l') w r
  | err c x u' st' => exact fun B' s' z' cv dd b l' w r => h B' s' z' cv dd b (l.trans l') w r
  | _ => exact h
/-! ### the cells taken from the callers, and given back -/
end M3
/-! a def within a def that changes what it captured: its promise -/
namespace M3
open PySem PySem.Spec PyProof.Rows L2 LamX NdefX
end M3
/-! the def that hands such a def back -/
namespace M3
open PySem PySem.Spec PyProof.Rows L2 LamX NdefX
/-! ### def name(..): .. in a frame whose cells it captures -/
/-! ### the def around it: def f(*v), whose cells go with the function that it hands back -/
end M3
/-! properties read while an exception is handled -/
namespace M3
open PySem PySem.Spec PyProof.Rows L2
section
variable {X : Cx} {k : Nat} {C p g a dx : Addr} {fs : List (Str × V)} {f : Str} {fd : FuncData} {ps : List Str} {sp : List (Option V) → Hp → VK → Prop} {e : Expr} {pos : Pos} {ta : TE}
theorem getprop_okQ {pins : List (Addr × Obj)} {σ : L2.St} {H : Hp} {s : Shared} {Q : VK} {b : Bool} {E' : Value → Shared → Prop} (I : Inv X pins σ H s) (ea : H a = some (.ins C dx fs)) (c : Cls X.K C) (hp : PropOf X.K C f p g)
    (F : FnQ X.prog X.w X.K X.mg X.base k g fd ps sp) (hr : RoomQ (k + 1) X.A) (hb : Binds X.K fd ps []) (hl : ps.length = 1) (h : sp [some (.ref a)] H Q) :
    wpAny (model X.prog X.w) X.A (getAttr (.ref a) f b) (EP X pins σ Q) E' s := by
  obtain ⟨mA, O, _, _, _, _⟩ := ins_get I.hok ea
  obtain ⟨od, J, _⟩ := O.look
  obtain ⟨rest, hrec⟩ := hp.rec_
  have I1 : Inv X pins σ H { s with toks := s.toks + 1 } := I.tok (s.toks + 1)
  have hc : (PySem.W.clsIn X.K C).isSome = true := by
    obtain ⟨cd, hc, _⟩ := PySem.W.any_some c.hd
    rw [hc]
    rfl
  have bb := hb { s with toks := s.toks + 1 } [.ref a] I1.kIn (by simp [hl])
  rw [List.append_nil] at bb
  refine PySem.W.get_bind I.kIn J (PySem.W.plainGet_of (c.get f)).1 (PySem.W.findObj_data hc hp.at_ hp.get hp.tak) (PySem.W.plainGet_of (c.get f)).2 (wpAny_call (PySem.W.prop_get (s := { s with toks := s.toks + 1 }) I.kIn hrec ?_))
  refine codeAny_mono (F.run X.A.in1 X.stack { s with toks := s.toks + 1 } H ⟨[.ref a], []⟩ [.ref a] [some (.ref a)] Q ⟨?_, ?_⟩ I1.env0.in1 bb (by simp [hl]) (by simp [hl]) (fun i v hv => ?_) h) fun r s' hq => ?_
  · have := hr.dp
    show X.A.depth + 3 * k + 5 < _
    omega
  · have := hr.un
    show X.A.units + 1 + 16 * k + 200 < _
    omega
  · match i, hv with
    | 0, hv => simp at hv; subst hv; exact ⟨_, rfl, rfl⟩
    | n + 1, hv => simp at hv
  · cases r with
    | error er => exact (show False from hq).elim
    | ok fl =>
      cases fl with
      | ret u =>
        obtain ⟨v, H', I3, rv, q3⟩ := I1.after hq
        show wpAny _ _ (handedOut u) _ _ _
        rw [PySem.W.handedOut_of (handed_of rv)]
        exact wpAny_pure ⟨v, H', I3, rv, q3⟩
      | next => exact False.elim hq
      | brk => exact False.elim hq
      | cont => exact False.elim hq
theorem pe_propQ (he : PE X e ta) (c : Cls X.K C) (hp : PropOf X.K C f p g) (F : FnQ X.prog X.w X.K X.mg X.base k g fd ps sp) (hr : RoomQ (k + 1) X.A) (hb : Binds X.K fd ps []) (hl : ps.length = 1)
    (hab : attributeBase e f X.env (eval e X.env) = eval e X.env) : PE X (.Attribute e f pos) (fun σ H Q => ta σ H fun x H1 => ∃ a dx fs, x = .ref a ∧ H1 a = some (.ins C dx fs) ∧ sp [some (.ref a)] H1 Q) := by
  refine ⟨fun pins s σ H Q I h => ?_⟩
  refine attr_of hab (thn (he.run pins s σ H _ I h) fun u s1 ⟨x, H1, I1, rx, a, dx, fs, ex, ea, q⟩ => ?_)
  subst ex
  obtain rfl : u = Value.ref a := rx
  exact getprop_okQ I1 ea c hp F hr hb hl q
end
structure PropOkQ (Pg : Program) (w : World) (K : PySem.W.Frag) (mg : Str → Option Value) (base : Heap) (G : G3) (k : Nat) (f : Str) (c : String) (mf : List D → M D) : Prop where
  ex : ∃ C p g fd ps, G.cls c = some C ∧ Cls K C ∧ PropOf K C f p g ∧ Binds K fd ps [] ∧ ps.length = 1 ∧ FnQ Pg w K mg base k g fd ps (spQ G 1 mf)
section
variable {P : P3} {pos : Pos} {o : Expr} {mo : EM} {k j : Nat} {c : String} {mf : List D → M D}
theorem me_propQ {f : Str} (h : PropOkQ P.X.prog P.X.w P.X.K P.X.mg P.X.base P.G k f c mf) (hr : RoomQ j P.X.A) (hk : k + 1 ≤ j) (ho : ME P o mo) (hab : attributeBase o f P.X.env (eval o P.X.env) = eval o P.X.env := by rfl) :
    ME P (.Attribute o f pos) (eProp c mf mo) := by
  obtain ⟨C, p, g, fd, ps, hcl, hc, hp, hb, hl, F⟩ := h.ex
  obtain ⟨to, po, hto⟩ := ho.out
  refine ME.mk' (pe_propQ po hc hp F (hr.mono hk) hb hl hab) fun B0 B s st u z Q wd sl hp => hto B0 B s st u z _ wd sl (Post.bind hp fun w st1 s1 v l1 wd1 r1 h1 => ?_)
  obtain ⟨i, c', fs, a, C', dx, gs, rfl, rfl, eio, ek, ec, eh, rf, nb, hF, h1⟩ := Post.of_ins wd1 r1 h1
  obtain ⟨hcc, h2⟩ := Post.of_chk h1
  have hcc : c' = c := hcc
  subst hcc
  rw [hcl] at ec
  cases ec
  refine ⟨a, dx, gs, rfl, eh, [.ref a], B, s1, st1, [.ref i], rfl, rfl, wd1, .cons (.ref eio) .nil, ?_⟩
  unfold M.bind M.quiet at h2
  dsimp only at h2
  cases em : mf [.ref i] st1 with
  | ok d st' => rw [em] at h2; exact fun s' v l w r => h2 s' v l w r
  | err c x st' => rw [em] at h2; exact h2.elim
  | bad => rw [em] at h2; exact h2.elim
end
section
variable {Pg : Program} {w : World} {K : PySem.W.Frag} {mg : Str → Option Value} {base b : Heap} {G : G3} {k n : Nat} {x f : Str} {c : String} {m : List D → M D} {w' : Nat → Option Addr}
theorem spQ_nap (hb : KnowsTo G.base b) {n : Nat} {m : List D → M D} {ws : List (Option V)} {H : Hp} {Q : VK} (h : spQ G n (nap m) ws H Q) : spQ (G.at b) n m ws H Q := by
  obtain ⟨vs, B, s, st, ds, e1, e, wd, rl, hp⟩ := h
  exact ⟨vs, B, s, _, ds, e1, e, wd.nap hb, rl, nap_post (fun _ _ _ r => r) wd hp⟩
theorem FnQ.imp {f : Addr} {fd : FuncData} {ps : List Str} {sp sp' : List (Option V) → Hp → VK → Prop} (F : FnQ Pg w K mg base k f fd ps sp) (h : ∀ ws H Q, sp' ws H Q → sp ws H Q) : FnQ Pg w K mg base k f fd ps sp' :=
  ⟨fun A outer s H args us ws Q a1 a2 a3 a4 a5 a6 a7 => F.run A outer s H args us ws Q a1 a2 a3 a4 a5 a6 (h _ _ _ a7)⟩
theorem PropOkQ.ow (h : PropOkQ Pg w K mg base (G.at base) k f c m) : PropOkQ Pg w K mg base ((G.at base).owning w') k f c (M3.nap m) := by
  obtain ⟨C, p, g, fd, ps, a1, a2, a3, a4, a5, F⟩ := h.ex
  exact ⟨C, p, g, fd, ps, a1, a2, a3, a4, a5, F.imp fun _ _ _ h => spQ_nap (G := (G.at base).owning w') (b := base) (KnowsTo.refl _) h⟩
end
end M3
namespace M3
end M3
namespace M3
open PySem
def stT : Stmt → Expr
  | .If e _ _ _ => e
  | .While e _ _ _ => e
  | _ => noE
def exC : Expr → Expr
  | .Compare e _ _ _ => e
  | _ => noE
def exB (i : Nat) : Expr → Expr
  | .BoolOp _ es _ => es.getD i noE
  | _ => noE
end M3
/-! x[i], x a list of the store -/
namespace M3
open PySem PySem.Spec PyProof.Rows L2
def eIxS (i : Int) (ma : EM) : EM := fun u => M.bind (ma u) fun w => M.bind (lstOf w) fun q => M.of ((atI q.2 i).map W.val)
section
variable {kw : Res W → Prop} {st : Store} {u : Sl3} {ma : AM} {m : EM}
@[simp] theorem run_eIxS (i : Int) : run (eIxS i m u st) kw = run (m u st) (kBind (fun w => M.bind (lstOf w) fun q => M.of ((atI q.2 i).map W.val)) kw) := run_bind _ _
@[simp] theorem run_eCallRp (f : List D → M D) : run (eCallRp f ma u st) kw = run (ma u st) (kBind (fun ws => M.bind (M.of (asDs ws)) fun ds => M.bind (f ds) fun d => M.pure (.val d)) kw) := run_bind _ _
end
end M3
/-! super().__init__() of an instance, where a def is next -/
namespace M3
open PySem PySem.Spec PyProof.Rows L2 NdefX
end M3
/-! raise C(e), C an own exception without an __init__ of its own -/
namespace M3
open PySem PySem.Spec PyProof.Rows L2
/-- raise C(e), e a text -/
def sRaiseT (c : String) (me : EM) : SM := fun u st => match me u st with
  | .ok (.val (.str _)) st' => .err c .non u st'
  | _ => .bad
section
variable {ks : SRes → Prop} {st : Store} {u : Sl3} {m : EM}
def kRaiseT (c : String) (u : Sl3) (ks : SRes → Prop) : Res W → Prop
  | .ok (.val (.str _)) st' => ks (.err c .non u st')
  | _ => ks .bad
@[simp] theorem kRaiseT_ok (c : String) (y : Str) : kRaiseT c u ks (.ok (.val (.str y)) st) = ks (.err c .non u st) := rfl
@[simp] theorem srun_sRaiseT (c : String) : srun (sRaiseT c m u st) ks = run (m u st) (kRaiseT c u ks) := by
  unfold srun sRaiseT run kRaiseT
  cases m u st with
  | ok w st' => cases w with
    | val d => cases d <;> rfl
    | _ => rfl
  | _ => rfl
end
end M3
/-! x(), x an instance whose class has __call__ -/
namespace M3
open PySem PySem.Spec PyProof.Rows L2
structure CalO (Pg : Program) (w : World) (K : PySem.W.Frag) (mg : Str → Option Value) (base : Heap) (G : G3) (k : Nat) (c : String) (mf : List D → M D) : Prop where
  ex : ∃ C g, G.cls c = some C ∧ StX.CallO K C g ∧ FnR Pg w K mg base (L2.CX Pg w) k g (spM G 1 mf)
theorem CalO.ow {Pg : Program} {w : World} {K : PySem.W.Frag} {mg : Str → Option Value} {base : Heap} {G : G3} {k : Nat} {c : String} {m : List D → M D} {w' : Nat → Option Addr} (h : CalO Pg w K mg base (G.at base) k c m) : CalO Pg w K mg base ((G.at base).owning w') k c (M3.nap m) := by
  obtain ⟨C, g, a1, a2, F⟩ := h.ex
  exact ⟨C, g, a1, a2, F.imp fun _ _ _ _ h => spM_nap (G := (G.at base).owning w') (b := base) (KnowsTo.refl _) h⟩
end M3
/-! two except clauses without names -/
namespace M3
open PySem PySem.Spec PyProof.Rows L2
def sTry2 (sub1 : String → Option Bool) (ms1 : SM) (sub2 : String → Option Bool) (ms2 : SM) (mb : SM) : SM := fun u st => match mb u st with
  | .err c x u' st' => match sub1 c with
    | some true => if noExn u' = true then sSuite none ms1 c x u' st' else .bad
    | some false => match sub2 c with
      | some true => if noExn u' = true then sSuite none ms2 c x u' st' else .bad
      | some false => .err c x u' st'
      | none => .bad
    | none => .bad
  | r => r
section
variable {P : P3} {pos pos1 pos2 np1 np2 : Pos}
theorem suite_read {B0 B' : Addr → Prop} {s s' : S3} {D : Ends} {ms : SM} {c : String} {x : M3.D} {u' : Sl3} {st' : Store} {z' : L2.St} {cv : Value} {dd : Option Addr} {a : Addr} (b' : ∀ a, B0 a → B' a) (l' : Le B0 s s') (w' : Wd P.G B' st' s') (sl' : Slo P.G P.hx B0 B' s' u' z') (ex : ExR P.G s' c x cv dd)
    (h : PostS P.G P.hx P.wx B0 s D (if noExn u' = true then sSuite none ms c x u' st' else .bad)) : tSu P.G ms a cv dd D z' s'.H := by
  have cr := crel_of ex
  split at h
  · rename_i hne
    refine ⟨c, x, cr, B0, B', s', st', u', rfl, b', w', Slo.hx sl' hne, ?_⟩
    unfold sSuite at h
    dsimp only at h
    cases e2 : ms u' st' with
    | bad => rw [e2] at h; exact h.elim
    | err _ _ _ _ => rw [e2] at h; exact h.elim
    | rt w st2 => rw [e2] at h; exact fun B2 s2 v b2 l2 w2 r2 => h B2 s2 v b2 (l'.trans l2) w2 r2
    | nx u2 st2 =>
      rw [e2] at h
      dsimp only at h
      split at h
      · rename_i n2; exact fun B2 s2 z2 b2 l2 w2 q2 => h B2 s2 _ b2 (l'.trans l2) w2 (Slo.hx q2 n2)
      · exact h.elim
    | bk u2 st2 =>
      rw [e2] at h
      dsimp only at h
      split at h
      · rename_i n2; exact fun B2 s2 z2 b2 l2 w2 q2 => h B2 s2 _ b2 (l'.trans l2) w2 (Slo.hx q2 n2)
      · exact h.elim
    | ct u2 st2 =>
      rw [e2] at h
      dsimp only at h
      split at h
      · rename_i n2; exact fun B2 s2 z2 b2 l2 w2 q2 => h B2 s2 _ b2 (l'.trans l2) w2 (Slo.hx q2 n2)
      · exact h.elim
  · exact h.elim
theorem ms_try2 {x1 x2 : Str} {c1 c2 : Value} {body suite1 suite2 : List Stmt} {t1 t2 : Stmt} {mb ms1 ms2 : SM} {sub1 sub2 : String → Option Bool} (hs : P.X.stack = P.X.env :: P.X.outer) (hf : P.X.env.frame = some P.X.env.locals)
    (hc1 : Names P.X x1 c1) (hc2 : Names P.X x2 c2) (tk : Takes P.X P.wx) (hsub1 : ∀ c b, sub1 c = some b → PySem.W.exmOne P.X.K (cvOf P.G c) c1 = some b) (hsub2 : ∀ c b, sub2 c = some b → PySem.W.exmOne P.X.K (cvOf P.G c) c2 = some b)
    (hb : ∀ (W : WX) (pn : List (Addr × Obj)) (xe : Value → Shared → Prop), Takes (P.X.tr pn xe) W → PassesOwn (model P.X.prog P.X.w) P.X.A P.X.env xe → MSs (P.tr pn xe W) body mb)
    (hsu1 : ∀ (a : Addr) (oe : Obj) (cv : Value) (dd : Option Addr) (pn : List (Addr × Obj)) (c : String) (x : D), Zc cv dd oe → (∃ vs, oe.data = .fields vs) → CRel P.G c cv dd → MSs (P.su a oe pn c x dd) (t1 :: suite1) ms1)
    (hsu2 : ∀ (a : Addr) (oe : Obj) (cv : Value) (dd : Option Addr) (pn : List (Addr × Obj)) (c : String) (x : D), Zc cv dd oe → (∃ vs, oe.data = .fields vs) → CRel P.G c cv dd → MSs (P.su a oe pn c x dd) (t2 :: suite2) ms2) :
    MS P (.Try body [.ExceptHandler (some (.Name x1 np1)) none (t1 :: suite1) pos1, .ExceptHandler (some (.Name x2 np2)) none (t2 :: suite2) pos2] [] [] pos) (sTry2 sub1 ms1 sub2 ms2 mb) := by
  refine MS.mk' (ps_try_many (tb := fun W => tS P.G P.hx W mb) (Wout := P.wx) (l := [(c1, tSu P.G ms1), (c2, tSu P.G ms2)]) hs hf tk (fun W pn xe t o => (hb W pn xe t o).pss) (.cons hc1 (su_pss hsu1) (.cons hc2 (su_pss hsu2) .nil))) fun B0 B s o u z D b0 wd sl h => ?_
  refine ⟨B0, B, s, o, u, rfl, b0, wd, sl, ?_⟩
  unfold sTry2 at h
  cases e : mb u o with
  | bad => rw [e] at h; exact h.elim
  | nx u' st' => rw [e] at h; exact h
  | rt w st' => rw [e] at h; exact h
  | bk u' st' => rw [e] at h; exact h
  | ct u' st' => rw [e] at h; exact h
  | err c x u' st' =>
    rw [e] at h
    dsimp only at h
    intro B' s' z' cv dd b' l' w' sl' ex
    have cr := crel_of ex
    cases es : sub1 c with
    | none => rw [es] at h; exact h.elim
    | some k =>
      rw [es] at h
      refine ⟨k, by rw [cr.1]; exact hsub1 c k es, fun hk a ha => ?_, fun hk => ?_⟩
      · subst hk
        exact suite_read b' l' w' sl' ex h
      · subst hk
        dsimp only at h
        cases es2 : sub2 c with
        | none => rw [es2] at h; exact h.elim
        | some k2 =>
          rw [es2] at h
          refine ⟨k2, by rw [cr.1]; exact hsub2 c k2 es2, fun hk a ha => ?_, fun hk => ?_⟩
          · subst hk
            exact suite_read b' l' w' sl' ex h
          · subst hk
            exact h B' s' z' cv dd b' l' w' sl' ex
end
end M3
/-! x.pop(), x a list of the store, as a value -/
namespace M3
open PySem PySem.Spec PyProof.Rows L2
def ePopS (m : EM) : EM := fun u => M.bind (m u) fun w => M.bind (lstOf w) fun q => fun st => match q.2.getLast? with
  | some d => .ok (.val d) (st.set q.1 (.lst q.2.dropLast))
  | none => .bad
section
variable {kw : Res W → Prop} {st : Store} {u : Sl3} {m : EM}
@[simp] theorem run_ePopS : run (ePopS m u st) kw = run (m u st) (kBind (fun w => M.bind (lstOf w) fun q => fun st => match q.2.getLast? with
  | some d => .ok (.val d) (st.set q.1 (.lst q.2.dropLast))
  | none => .bad) kw) := run_bind _ _
end
end M3
/-! x[a:b], x a list of the store -/
namespace M3
open PySem PySem.Spec PyProof.Rows L2
def eSlS (m : EM) (l h : PM) : EM := fun u => M.bind (m u) fun x => M.bind (l u) fun a => M.bind (h u) fun b => M.bind (lstOf x) fun q => M.pure (.val (.lst (cutD q.2 a b)))
section
variable {kw : Res W → Prop} {st : Store} {u : Sl3} {m : EM} {l h : PM}
@[simp] theorem run_eSlS : run (eSlS m l h u st) kw = run (m u st) (kBind (fun x => M.bind (l u) fun a => M.bind (h u) fun b => M.bind (lstOf x) fun q => M.pure (.val (.lst (cutD q.2 a b)))) kw) := run_bind _ _
end
end M3
/-! a list of the store on the left of == -/
namespace M3
open PySem PySem.Spec PyProof.Rows L2
def eEqS (neg : Bool) (mo m : EM) : EM := fun u => M.bind (mo u) fun w => M.bind (lstOf w) fun _ => M.bind (m u) fun y => M.bind (lstOf w) fun q => M.of (eqF neg (.bor q.2) y)
section
variable {u : Sl3} {st : Store} {neg : Bool} {mo m : EM} {kw : Res W → Prop}
@[simp] theorem run_eEqS : run (eEqS neg mo m u st) kw = run (mo u st) (kBind (fun w => M.bind (lstOf w) fun _ => M.bind (m u) fun y => M.bind (lstOf w) fun q => M.of (eqF neg (.bor q.2) y)) kw) := run_bind _ _
end
end M3
/-! a list of the store walked by a comprehension: read anew at each turn -/
namespace M3
open PySem PySem.Spec PyProof.Rows L2
def lcS (w : W) (g : GM) (c : TM) (e : EM) (u0 : Sl3) : Nat → Nat → List D → M (List D)
  | 0, _, _ => M.bad
  | n + 1, i, acc => M.bind (lstOf w) fun q => match q.2[i]? with
    | none => M.pure acc
    | some d => M.bind (M.of (g d u0)) fun u1 => M.bind (M.quiet (c u1)) fun k =>
      if k = true then M.bind (M.quiet (e u1)) fun y => M.bind (M.of y.d) fun x => M.bind (M.chk (acc.length < 1000000)) fun _ => lcS w g c e u0 n (i + 1) (acc ++ [x])
      else lcS w g c e u0 n (i + 1) acc
def fLcS (fuel : Nat) (m : EM) (g : GM) (c : TM) (e : EM) (own : List Nat) : FM := fun u => M.bind (m u) fun w => M.bind (lstOf w) fun _ => lcS w g c e (wipe3 u own) fuel 0 []
section
variable {u : Sl3} {st : Store} {fuel : Nat} {gm : GM} {t : TM} {m ml : EM} {own : List Nat} {kf : Res (List D) → Prop}
@[simp] theorem run_fLcS : run (fLcS fuel ml gm t m own u st) kf = run (ml u st) (kBind (fun w => M.bind (lstOf w) fun _ => lcS w gm t m (wipe3 u own) fuel 0 []) kf) := run_bind _ _
end
end M3
/-! a def within a def that reads what it captured, as a function value -/
namespace M3
open PySem PySem.Spec PyProof.Rows L2 LamX NdefX
end M3
/-! try: .. except (A, B): .. without a name -/
namespace M3
open PySem PySem.Spec PyProof.Rows L2
/-! x[e], x a list of the store -/
def eIxSX (ma mb : EM) : EM := fun u => M.bind (ma u) fun w => M.bind (mb u) fun wi => M.bind (lstOf w) fun q => match wi with
  | .val (.int i) => M.of ((atI q.2 i).map W.val)
  | _ => M.bad
section
variable {kw : Res W → Prop} {st : Store} {u : Sl3} {ma mb : EM}
@[simp] theorem run_eIxSX : run (eIxSX ma mb u st) kw = run (ma u st) (kBind (fun w => M.bind (mb u) fun wi => M.bind (lstOf w) fun q => match wi with
  | .val (.int i) => M.of ((atI q.2 i).map W.val)
  | _ => M.bad) kw) := run_bind _ _
end
end M3
/-! t[::-1], t a tuple -/
namespace M3
open PySem PySem.Spec PyProof.Rows L2
end M3
namespace M3
open PySem PySem.Spec PyProof.Rows L2
/-! ### a def hands back a dict that its taker may change -/
/-- what is wanted behind a new dict -/
def PostD (G : G3) (B : Addr → Prop) (E : XK) (s : S3) (Q : VK) : Res (List Key × List D) → Prop
  | .ok r st' => ∀ (s' : S3) (p : Addr) (kvs : List (Key × V)), Le B s s' → Wd G (plus B p) st' s' → ¬ B p → s'.H p = some (.dK kvs) → kvs.map (·.1) = r.1 → RepL G.R s'.F s'.io r.2 (kvs.map (·.2)) → Q (.ref p) s'.H
  | .err c x st' => ∀ (s' : S3) (cv : Value) (dd : Option Addr), Le B s s' → Wd G B st' s' → ExR G s' c x cv dd → E cv dd s'.H
  | .bad => False
def spMD (G : G3) (n : Nat) (m : List D → M (List Key × List D)) : Sp := fun vs H Q E => vs.length = n ∧ ∃ (B : Addr → Prop) (s : S3) (st : Store) (ds : List D), s.H = H ∧ Wd G B st s ∧ RepL G.R s.F s.io ds vs ∧ PostD G B E s Q (m ds st)
/-- a def of the top that hands back a dict -/
structure CalOD (Pg : Program) (w : World) (K : PySem.W.Frag) (mg : Str → Option Value) (base : Heap) (G : G3) (k : Nat) (x : Str) (n : Nat) (m : List D → M (List Key × List D)) : Prop where
  ex : ∃ f fd ps, mg x = some (.ref f) ∧ PySem.W.keepIn K (.ref f) = true ∧ Binds K fd ps [] ∧ ps.length = n ∧ FnOk Pg w K mg base (L2.CX Pg w) k f fd ps (spMD G n m)
def mCallD (n : Nat) (m : List D → M (List Key × List D)) (ma : AM) : Sl3 → M (List Key × List D) := fun u => M.bind (ma u) fun ws => M.bind (M.of (asDs ws)) fun ds => M.bind (M.chk (ds.length = n)) fun _ => m ds
/-- x = f(..) -/
def sSetCD (i n : Nat) (m : List D → M (List Key × List D)) (ma : AM) : SM := fun u st => match mCallD n m ma u st with
  | .ok r st' => .nx (u.set i (some (.bod r.1 r.2))) st'
  | .err c x st' => .err c x u st'
  | .bad => .bad
section
variable {Pg : Program} {w : World} {K : PySem.W.Frag} {mg : Str → Option Value} {base b : Heap} {G : G3} {k n : Nat} {x : Str} {m : List D → M (List Key × List D)}
theorem spMD_nap (hb : KnowsTo G.base b) {vs : List V} {H : Hp} {Q : VK} {E : XK} (h : spMD G n (nap m) vs H Q E) : spMD (G.at b) n m vs H Q E := by
  obtain ⟨hl, B, s, st, ds, e, wd, rl, hp⟩ := h
  refine ⟨hl, B, s, _, ds, e, wd.nap hb, rl, ?_⟩
  unfold nap at hp
  cases em : m ds (st.map MO.nap) with
  | ok d st' => rw [em] at hp; exact fun s' p kvs l w nb hq ek r => hp s' p kvs l (wd.back l w) nb hq ek r
  | err c x st' => rw [em] at hp; exact fun s' cv dd l w' r => hp s' cv dd l (wd.back l w') r
  | bad => rw [em] at hp; exact hp
theorem CalOD.nap (h : CalOD Pg w K mg base (G.at b) k x n m) (hb : KnowsTo G.base b) : CalOD Pg w K mg base G k x n (M3.nap m) := by
  obtain ⟨f, fd, ps, a1, a2, a3, a4, F⟩ := h.ex
  exact ⟨f, fd, ps, a1, a2, a3, a4, F.imp fun _ _ _ _ h => spMD_nap hb h⟩
theorem CalOD.ow {w' : Nat → Option Addr} (h : CalOD Pg w K mg base (G.at base) k x n m) : CalOD Pg w K mg base ((G.at base).owning w') k x n (M3.nap m) := CalOD.nap (G := (G.at base).owning w') (b := base) h (KnowsTo.refl _)
end
/-! rows that run them -/
section
variable {u : Sl3} {st : Store} {ks : SRes → Prop} {kd : Res (List Key × List D) → Prop}
def kRetD (k : Res (List Key × List D) → Prop) : SRes → Prop
  | .rt (.bod xs us) st => k (.ok (xs, us) st)
  | .err c x _ st => k (.err c x st)
  | _ => k .bad
@[simp] theorem kRetD_bod (xs us) : kRetD kd (.rt (.bod xs us) st) = kd (.ok (xs, us) st) := rfl
@[simp] theorem kRetD_bad : kRetD kd .bad = kd .bad := rfl
@[simp] theorem kRetD_err (c x) : kRetD kd (.err c x u st) = kd (.err c x st) := rfl
def kSetCD (i : Nat) (u : Sl3) (k : SRes → Prop) : Res (List Key × List D) → Prop
  | .ok r st' => k (.nx (u.set i (some (.bod r.1 r.2))) st')
  | .err c x st' => k (.err c x u st')
  | .bad => k .bad
@[simp] theorem kSetCD_ok (i) (r) : kSetCD i u ks (.ok r st) = ks (.nx (u.set i (some (.bod r.1 r.2))) st) := rfl
@[simp] theorem kSetCD_bad (i) : kSetCD i u ks .bad = ks .bad := rfl
@[simp] theorem kSetCD_err (i) (c x) : kSetCD i u ks (.err c x st) = ks (.err c x u st) := rfl
@[simp] theorem run_sSetCD (i n : Nat) (m : List D → M (List Key × List D)) (ma : AM) : srun (sSetCD i n m ma u st) ks = M3.run (ma u st) (kBind (fun ws => M.bind (M.of (asDs ws)) fun ds => M.bind (M.chk (ds.length = n)) fun _ => m ds) (kSetCD i u ks)) := by
  rw [← run_bind]
  unfold srun sSetCD M3.run kSetCD mCallD
  cases M.bind (ma u) (fun ws => M.bind (M.of (asDs ws)) fun ds => M.bind (M.chk (ds.length = n)) fun _ => m ds) st <;> rfl
end
end M3
/-! except clauses, each with a name or without one -/
namespace M3
open PySem PySem.Spec PyProof.Rows L2
/-- the class that a clause names, the slot of its name, its suite -/
structure Clause where
  c : Value
  sl : Option Nat
  ts : Addr → Value → Option Addr → TS
section
variable {X : Cx} {body : List Stmt} {h0 : ExceptHandler} {hs : List ExceptHandler} {qs : List Clause} {pos : Pos} {tb : WX → TS} {W0 : WX}
/-- the exception has landed in its frame -/
structure Landed (X : Cx) (pins : List (Addr × Obj)) (σ : L2.St) (H : Hp) (B : Heap) (e : Addr) (cv : Value) (dd : Option Addr) (s : Shared) : Prop where
  inv : Inv X pins σ H s
  at_ : HandSPX.FlyingZ B (X.env :: X.outer) e (Zc cv dd) s.heap
  free : H e = none
  notL : e ≠ X.env.locals
  notF : e ∉ X.fs
theorem Landed.frames {B : Heap} {e : Addr} {Z : Obj → Prop} {s : Shared} (f : HandSPX.FlyingZ B (X.env :: X.outer) e Z s.heap) {o : Obj} {vs : Array Value} (ho : s.heap.get? e = some o) (hd : o.data = .fields vs) : e ∉ frs (X.env :: X.outer) := fun m => by
  obtain ⟨_, o2, q2, n2⟩ := f.2.2.1.mem m
  rw [ho] at q2
  cases q2
  exact n2 _ hd
theorem SP.back {e : Addr} {ob : Obj} {pins : List (Addr × Obj)} {D : Ends} {f : Flow} {s : Shared} (ok : X.Ok) (h : SP (X.suite e ((e, ob) :: (X.pn ++ pins))) [] D f s) : SP X pins D f s := by
  cases f <;> first
    | (obtain ⟨v, z, H, I, r, q⟩ := h; exact ⟨v, z, H, I.unsuite ok, r, q⟩)
    | (obtain ⟨z, H, I, q⟩ := h; exact ⟨z, H, I.unsuite ok, q⟩)
end
/-- two clauses, the first one with a name -/
def sTryA (i : Nat) (sub1 : String → Option Bool) (ms1 : SM) (sub2 : String → Option Bool) (ms2 : SM) (mb : SM) : SM := fun u st => match mb u st with
  | .err c x u' st' => match sub1 c with
    | some true => if noExn u' = true then sSuite (some i) ms1 c x u' st' else .bad
    | some false => match sub2 c with
      | some true => if noExn u' = true then sSuite none ms2 c x u' st' else .bad
      | some false => .err c x u' st'
      | none => .bad
    | none => .bad
  | r => r
/-! the row that runs it -/
section
variable {u : Sl3} {st : Store} {ks : SRes → Prop}
def kTryA (i : Nat) (sub1 : String → Option Bool) (ms1 : SM) (sub2 : String → Option Bool) (ms2 : SM) (k : SRes → Prop) : SRes → Prop
  | .err c x u' st' => srun (match sub1 c with
    | some true => if noExn u' = true then sSuite (some i) ms1 c x u' st' else .bad
    | some false => match sub2 c with
      | some true => if noExn u' = true then sSuite none ms2 c x u' st' else .bad
      | some false => .err c x u' st'
      | none => .bad
    | none => .bad) k
  | r => k r
@[simp] theorem run_sTryA (i : Nat) (sub1 sub2) (ms1 ms2 mb : SM) : srun (sTryA i sub1 ms1 sub2 ms2 mb u st) ks = srun (mb u st) (kTryA i sub1 ms1 sub2 ms2 ks) := by
  unfold srun sTryA kTryA
  cases mb u st <;> rfl
@[simp] theorem kTryA_nx (i : Nat) (sub1 sub2) (ms1 ms2 : SM) : kTryA i sub1 ms1 sub2 ms2 ks (.nx u st) = ks (.nx u st) := rfl
@[simp] theorem kTryA_rt (i : Nat) (sub1 sub2) (ms1 ms2 : SM) (w) : kTryA i sub1 ms1 sub2 ms2 ks (.rt w st) = ks (.rt w st) := rfl
end
end M3
/-! list(d), d a dict with tuple keys -/
namespace M3
open PySem PySem.Spec PyProof.Rows L2
def fListDD (ma : AM) : FM := fun u => M.bind (ma u) fun ws => match ws with
  | [.val (.dd ks _)] => M.bind (M.chk (ks.length ≤ 1000000)) fun _ => M.pure ks
  | _ => M.bad
@[simp] theorem run_fListDD (ma : AM) {u : Sl3} {st : Store} {kl : Res (List D) → Prop} : M3.run (fListDD ma u st) kl = M3.run (ma u st) (kBind (fun ws => match ws with
  | [.val (.dd ks _)] => M.bind (M.chk (ks.length ≤ 1000000)) fun _ => M.pure ks
  | _ => M.bad) kl) := run_bind _ _
end M3
namespace M3
open PySem PySem.Spec PyProof.Rows L2
/-! M3OpX: d[k] and a // b that may raise, for a try around -/
section
variable {X : Cx} {a b : Expr} {ta tb : TE} {pos : Pos}
/-- // where the divisor may be 0 -/
def tFdX (W : WX) (ta tb : TE) : TE := fun z H Q => ta z H fun x H1 => tb z H1 fun y H2 => ∃ i j : Int, x = .int i ∧ y = .int j ∧ ((0 < j ∧ j < 1073741824 ∧ Q (.int (i / j)) H2) ∨ (j = 0 ∧ ∀ d, W (.type "ZeroDivisionError") d z H2))
theorem pe_fdX {W : WX} (hc : X.calm = true) (tk : Takes X W) (ha : PE X a ta) (hb : PE X b tb) : PE X (.BinOp a .FloorDiv b pos) (tFdX W ta tb) := by
  constructor
  intro pins s z H Q I h
  refine wpAny_BinOp (binT ha hb I (R := fun x y H2 => ∃ i j : Int, x = .int i ∧ y = .int j ∧ ((0 < j ∧ j < 1073741824 ∧ Q (.int (i / j)) H2) ∨ (j = 0 ∧ ∀ d, W (.type "ZeroDivisionError") d z H2))) h fun v u s2 x y H2 I2 rx ry q => ?_)
  obtain ⟨i, j, e1, e2, q⟩ := q
  rcases q with ⟨p1, p2, q⟩ | ⟨e0, w⟩
  · exact op_fdiv pins s2 z H2 x y v u Q I2 rx ry ⟨i, j, e1, e2, ⟨p1, p2⟩, q⟩
  · subst e1; subst e2; subst e0
    obtain ⟨t1, ev⟩ := (show ∃ t, v = Value.int i t from rx)
    obtain ⟨t2, eu⟩ := (show ∃ t, u = Value.int 0 t from ry)
    subst ev; subst eu
    exact AutoIntOps.floordiv_0 rfl ⟨I2.ok.hd hc, fun h' tk' e ne => takes_new (t' := tk') tk I2 ne w⟩
end
section
variable {P : P3} {a b : Expr} {ma mb : EM} {pos : Pos}
/-- d[k], or a KeyError -/
def keyX (w y : W) (st : Store) : Res W := match w.dic, y with
  | some d, .val k => (match dgetF d k with
    | some (some v) => .ok (.val v) st
    | some none => .err "KeyError" .non st
    | none => .bad)
  | _, _ => .bad
def eGetX (ma mb : EM) : EM := fun u => M.bind (ma u) fun w => M.bind (mb u) fun y => keyX w y
theorem me_getX (hu : P.X.A.units + 65 < cLine) (hc : P.X.calm = true) (tk : Takes P.X P.wx) (hn : P.G.cls "KeyError" = none) (ha : ME P a ma) (hb : ME P b mb) (hs : NoSl b := by intro _ _; rfl) : ME P (.Subscript a b pos) (eGetX ma mb) := by
  obtain ⟨ta, pa, ha⟩ := ha.out
  obtain ⟨tb, pb, hb⟩ := hb.out
  refine ME.mk' (pe_dgetX hc (Nat.lt_of_le_of_lt (by omega) hu) tk pa pb hs) fun B0 B s st u z Q wd sl hp => ha B0 B s st u z _ wd sl (Post.bind hp fun w1 st1 s1 v1 l1 wd1 r1 h1 => ?_)
  refine hb B0 B s1 st1 u z _ wd1 (sl.mono l1) (Post.bind h1 fun w2 st2 s2 v2 l2 wd2 r2 h2 => ?_)
  unfold keyX at h2
  cases h3 : w1.dic with
  | none => rw [h3] at h2; exact h2.elim
  | some d =>
    rw [h3] at h2
    cases w2 with
    | val kd =>
      dsimp only at h2
      obtain ⟨ad, rfl, at_⟩ := dic_ok wd2 (r1.mono l2) h3
      cases hg : dgetF d kd with
      | none => rw [hg] at h2; exact h2.elim
      | some o =>
        rw [hg] at h2
        obtain ⟨ov, g, gn, gs⟩ := dget_ok at_ wd2.sub r2 hg
        cases o with
        | some d' =>
          dsimp only at h2
          obtain ⟨v, ev, rv⟩ := gs d' rfl
          subst ev
          exact ⟨ad, some v, rfl, g, fun v' e => by cases e; exact h2 s2 v (Le.refl _) wd2 rv, fun e => by cases e⟩
        | none =>
          dsimp only at h2
          have en : ov = none := by cases ov with | none => rfl | some _ => cases gn
          subst en
          exact ⟨ad, none, rfl, g, (fun _ e => by cases e), fun _ dd => h2 s2 (.type "KeyError") dd (Le.refl _) wd2 (by unfold ExR; rw [hn])⟩
    | _ => exact h2.elim
/-- //, or a ZeroDivisionError -/
def fdX (w y : W) (st : Store) : Res W := match w, y with
  | .val (.int i), .val (.int j) => if 0 < j ∧ j < 1073741824 then .ok (.val (.int (i / j))) st else if j = 0 then .err "ZeroDivisionError" .non st else .bad
  | _, _ => .bad
def eFdX (ma mb : EM) : EM := fun u => M.bind (ma u) fun w => M.bind (mb u) fun y => fdX w y
theorem me_fdX (hc : P.X.calm = true) (tk : Takes P.X P.wx) (hn : P.G.cls "ZeroDivisionError" = none) (ha : ME P a ma) (hb : ME P b mb) : ME P (.BinOp a .FloorDiv b pos) (eFdX ma mb) := by
  obtain ⟨ta, pa, ha⟩ := ha.out
  obtain ⟨tb, pb, hb⟩ := hb.out
  refine ME.mk' (pe_fdX hc tk pa pb) fun B0 B s st u z Q wd sl hp => ha B0 B s st u z _ wd sl (Post.bind hp fun w1 st1 s1 v1 l1 wd1 r1 h1 => ?_)
  refine hb B0 B s1 st1 u z _ wd1 (sl.mono l1) (Post.bind h1 fun w2 st2 s2 v2 l2 wd2 r2 h2 => ?_)
  unfold fdX at h2
  split at h2
  · rename_i i j
    cases r1
    cases r2
    refine ⟨i, j, rfl, rfl, ?_⟩
    split at h2
    · rename_i hj
      exact .inl ⟨hj.1, hj.2, h2 s2 (.int (i / j)) (Le.refl _) wd2 .int⟩
    · split at h2
      · rename_i hj
        exact .inr ⟨hj, fun dd => h2 s2 (.type "ZeroDivisionError") dd (Le.refl _) wd2 (by unfold ExR; rw [hn])⟩
      · exact h2.elim
  · exact h2.elim
end
section
variable {P : P3} {pos : Pos}
/-- {}: an empty dict that never changes, its keys texts -/
theorem me_d0 : ME P (.Dict [] [] pos) (eC (.dict [] [])) := by
  refine ME.mk' (pe_lockOn pe_dnewK) fun B0 B s st u z Q wd sl h => fun p hp => ?_
  refine ⟨p, _, rfl, upd_same, True.intro, fun od => ?_⟩
  rw [upd2]
  obtain ⟨w2, l2⟩ := wd.froz hp (.frz od (.dK []))
  exact h ⟨s.io, upd s.F p (.frz od (.dK [])), upd s.H p (.frz od (.dK []))⟩ (.ref p) l2 w2 (show Rep _ _ _ (.dict [] []) (.ref p) from .dict upd_same rfl .nil)
/-- len of a dict with text keys -/
def lenDF : List W → Option W
  | [.val (.dict ks _)] => some (.val (.int ks.length))
  | _ => none
theorem call_lenK : CallR P.X (.builtin "len") (fun xs H Q => ∃ (p : Addr) (kvs : List (Key × V)), xs = [.ref p] ∧ Rd H p (.dK kvs) ∧ Q (.int kvs.length) H) := by
  intro pins s z H xs us Q I r h
  obtain ⟨p, kvs, rfl, hq, q⟩ := h
  obtain ⟨u, rfl, rx⟩ := vals1 r
  cases rx
  exact d_len I hq fun t s' I' => ⟨.int kvs.length, H, I', ⟨t, rfl⟩, q⟩
theorem cm_lenD : CallM P (.builtin "len") lenDF := by
  refine ⟨_, call_lenK, fun B s st ws w vs Q wd r e k => ?_⟩
  unfold lenDF at e
  split at e
  · cases e
    cases r with
    | cons r rr =>
      cases rr
      cases r with
      | @dict ks us p od kvs h q rl =>
        subst q
        exact ⟨p, kvs, rfl, .inr ⟨_, wd.sub _ _ h⟩, by rw [List.length_map] at k; exact k s _ (Le.refl _) wd .int⟩
  · cases e
end
theorem cls_none {G : G3} {c d : String} (h : cvOf G c = .type d) : G.cls c = none := by
  unfold cvOf at h
  cases e : G.cls c with
  | none => rfl
  | some C => rw [e] at h; cases h
theorem names_b {X : Cx} {G : G3} {c : String} {Z : Prop} (h : X.mg (Str.ofString c) = none ∧ cvOf G c = .type c ∧ Z) (hg : Gl X (Str.ofString c)) (hd : ((Str.ofString c) == ("__debug__" : Str)) = false) (hb : bootBuiltins (Str.ofString c) = some (.type c)) (hn : Str.ofString c ≠ "__name__") : Names X (Str.ofString c) (cvOf G c) :=
  ⟨hg, hd, .inr ⟨h.1, by rw [h.2.1]; exact hb, hn⟩⟩
theorem exm_bb {K : PySem.W.Frag} {c x : String} {b : Bool} (h : (PySem.fastBuiltinMro c).map (·.contains (.type x)) = some b) (h1 : (PySem.fastBuiltinMro x).any (fun l => l.contains (.type "BaseException")) = true) (h2 : PySem.W.kitMeta x = true) : PySem.W.exmOne K (.type c) (.type x) = some b := exm_ty h h1 h2
section
variable {u : Sl3} {st : Store} {kw : Res W → Prop}
@[simp] theorem run_eGetX (ma mb : EM) : M3.run (eGetX ma mb u st) kw = M3.run (ma u st) (kBind (fun w => M.bind (mb u) fun y => keyX w y) kw) := run_bind _ _
@[simp] theorem run_eFdX (ma mb : EM) : M3.run (eFdX ma mb u st) kw = M3.run (ma u st) (kBind (fun w => M.bind (mb u) fun y => fdX w y) kw) := run_bind _ _
end
end M3
namespace My
open PySem L2 M3
theorem range_get {n i : Nat} {d : D} (h : (rangeD 0 n)[i]? = some d) : d = .int i ∧ i < n := by
  unfold rangeD at h
  rw [List.getElem?_map] at h
  by_cases hi : i < n
  · rw [List.getElem?_range hi] at h
    simp at h
    exact ⟨h.symm, hi⟩
  · rw [List.getElem?_eq_none (by simpa using hi)] at h; cases h
theorem rangeD_length (lo : Int) (n : Nat) : (rangeD lo n).length = n := by simp [rangeD]
/-! texts by their signs -/
def S (l : List Nat) : Str := ⟨l.toArray⟩
@[simp] theorem S_length (l : List Nat) : (S l).length = l.length := by show l.toArray.size = _; simp
@[simp] theorem S_list (l : List Nat) : (S l).cps.toList = l := by simp [S]
theorem S_app (a b : List Nat) : S a ++ S b = S (a ++ b) := by
  show (⟨a.toArray ++ b.toArray⟩ : Str) = ⟨(a ++ b).toArray⟩
  simp
theorem S_cut (l : List Nat) (lo hi : Option Int) : cutS (S l) lo hi = S (cutD l lo hi) := by
  unfold cutS cutD
  rw [S_list, S_length]
  rfl
theorem cut_to {α : Type} (xs : List α) {i : Int} (h : 0 ≤ i) : cutD xs none (some i) = xs.take i.toNat := by
  obtain ⟨n, rfl⟩ := Int.eq_ofNat_of_zero_le h
  unfold cutD
  rw [HT.sIx_none, HT.sIx_nat]
  simp [List.take_eq_take_iff]
theorem cut_from {α : Type} (xs : List α) {i : Int} (h : 0 ≤ i) : cutD xs (some i) none = xs.drop i.toNat := by
  obtain ⟨n, rfl⟩ := Int.eq_ofNat_of_zero_le h
  unfold cutD
  rw [HT.sIx_none, HT.sIx_nat]
  simp only [Int.toNat_natCast]
  by_cases q : n ≤ xs.length
  · rw [Nat.min_eq_left q]; exact List.take_of_length_le (by simp)
  · rw [Nat.min_eq_right (by omega), List.drop_eq_nil_of_le (Nat.le_refl _), List.drop_eq_nil_of_le (by omega)]; simp
theorem cut_mid {α : Type} (xs : List α) {i j : Int} (h : 0 ≤ i) (h' : 0 ≤ j) : cutD xs (some i) (some j) = (xs.drop i.toNat).take (j.toNat - i.toNat) := by
  obtain ⟨n, rfl⟩ := Int.eq_ofNat_of_zero_le h
  obtain ⟨m, rfl⟩ := Int.eq_ofNat_of_zero_le h'
  unfold cutD
  rw [HT.sIx_nat, HT.sIx_nat]
  simp only [Int.toNat_natCast]
  by_cases q : n ≤ xs.length
  · rw [Nat.min_eq_left q]
    rw [List.take_eq_take_iff]
    simp only [List.length_drop]
    omega
  · rw [Nat.min_eq_right (a := n) (by omega), List.drop_eq_nil_of_le (Nat.le_refl _), List.drop_eq_nil_of_le (by omega)]; simp
theorem mul_one_sign (c n : Nat) : Txt.mul (S [c]) (n : Int) = S (List.replicate n c) := by
  unfold Txt.mul
  by_cases h0 : (n : Int) < 1
  · rw [if_pos h0]
    have : n = 0 := by omega
    subst this; rfl
  · rw [if_neg h0]
    by_cases h1 : n = 1
    · subst h1; rfl
    · rw [if_neg (by simp only [S_length, Bool.or_eq_true, beq_iff_eq, List.length_cons, List.length_nil]; omega)]
      unfold S
      congr 1
      have all : ∀ (n : Nat) (acc : List Nat), List.foldl (fun x1 x2 => x1 ++ x2) acc.toArray (List.replicate n [c].toArray) = (acc ++ List.replicate n c).toArray := by
        intro n
        induction n with
        | zero => intro acc; simp
        | succ n ih =>
          intro acc
          rw [List.replicate_succ, List.foldl_cons]
          have : acc.toArray ++ [c].toArray = (acc ++ [c]).toArray := by simp
          rw [this, ih, List.replicate_succ]
          simp
      have := all n []
      simpa using this
/-- a name: 1 to 8 small letters -/
def IsNm (w : Str) : Prop := 1 ≤ w.length ∧ w.length ≤ 8 ∧ ∀ c ∈ w.cps.toList, 97 ≤ c ∧ c ≤ 122
def letters : List Nat := (List.range 26).map (97 + ·)
theorem letters_eq : ("abcdefghijklmnopqrstuvwxyz" : Str) = S letters := by decide +kernel
theorem letters_get {n : Nat} (h : n < 26) : letters[n]? = some (97 + n) := by unfold letters; simp [h]
/-- the words that a draw spells -/
def wordL (d k : Nat) : List Nat :=
  ((List.replicate (d % 8) (97 + d / 64 % 26)).take (d / 8 % 8) ++ [97 + (d + 5 * k) % 26] ++ ((List.replicate (d % 8) (97 + d / 64 % 26)).drop (d / 8 % 8) ++ (List.replicate (d % 8) (97 + d / 64 % 26)).take (k * (d / 3 % 3)))).take 8
def word (d k : Nat) : Str := S (wordL d k)
theorem wordL_nm (d k : Nat) : 1 ≤ (wordL d k).length ∧ (wordL d k).length ≤ 8 ∧ ∀ c ∈ wordL d k, 97 ≤ c ∧ c ≤ 122 := by
  unfold wordL
  refine ⟨by simp; omega, by simp; omega, fun c hc => ?_⟩
  have h := List.mem_of_mem_take hc
  have rep : ∀ c ∈ List.replicate (d % 8) (97 + d / 64 % 26), 97 ≤ c ∧ c ≤ 122 := fun c hc => by rw [List.eq_of_mem_replicate hc]; omega
  rcases List.mem_append.mp h with h | h
  · rcases List.mem_append.mp h with h | h
    · exact rep c (List.mem_of_mem_take h)
    · rw [List.mem_singleton.mp h]; omega
  · rcases List.mem_append.mp h with h | h
    · exact rep c (List.mem_of_mem_drop h)
    · exact rep c (List.mem_of_mem_take h)
theorem word_nm (d k : Nat) : IsNm (word d k) := by
  have := wordL_nm d k
  exact ⟨by rw [word, S_length]; exact this.1, by rw [word, S_length]; exact this.2.1, by rw [word, S_list]; exact this.2.2⟩
def words (d n : Nat) : List Str := (List.range n).map (word d)
theorem words_length (d n : Nat) : (words d n).length = n := by simp [words]
theorem words_nm {d n : Nat} {w : Str} (h : w ∈ words d n) : IsNm w := by
  unfold words at h
  obtain ⟨k, _, rfl⟩ := List.mem_map.mp h
  exact word_nm d k
theorem lcL_range {gm : GM} {m : EM} {u0 : Sl3} {st : Store} {n : Nat} (f : Nat → D) (h : ∀ i, i < n → ∃ u1, gm (.int i) u0 = some u1 ∧ m u1 st = .ok (.val (f i)) st) (hn : n ≤ 1000000) :
    lcL gm tYes3 m u0 (rangeD 0 n) [] st = .ok ((List.range n).map f) st := by
  have := lcL_eq (st := st) (t := tYes3) (m := m) (gm := gm) (u0 := u0) (fun _ => true) (fun d => match d with | .int i => f i.toNat | _ => .non) (rangeD 0 n) [] (fun d hd => ?_) (by simp [rangeD_length]; exact hn)
  · rw [this]
    have e : (rangeD 0 n).filter (fun _ => true) = rangeD 0 n := List.filter_eq_self.mpr fun _ _ => rfl
    rw [e, rangeD, List.map_map, List.nil_append]
    congr 1
    apply List.map_congr_left
    intro a _
    simp
  · unfold rangeD at hd
    obtain ⟨i, hi, rfl⟩ := List.mem_map.mp hd
    obtain ⟨u1, e1, e2⟩ := h i (List.mem_range.mp hi)
    exact ⟨u1, by simpa using e1, rfl, fun _ => by simpa using e2⟩
theorem lcR_run {gm : GM} {m : EM} {u0 : Sl3} {st : Store} {n : Nat} {k : Res (List D) → Prop} (f : Nat → D) (hn : n ≤ 1000000) (h : ∀ i, i < n → ∃ u1, gm (.int i) u0 = some u1 ∧ M3.run (m u1 st) (fun r => r = .ok (.val (f i)) st)) (hk : k (.ok ((List.range n).map f) st)) :
    M3.run (lcL gm tYes3 m u0 (rangeD 0 n) [] st) k := by
  rw [lcL_range f h hn]; exact hk
theorem log2_le {n k : Nat} (h : n < 2 ^ k) : n.log2 ≤ k := by
  by_cases z : n = 0
  · subst z; simp
  · exact Nat.le_of_lt ((Nat.log2_lt z).mpr h)
theorem two20 : (2 : Nat) ^ 31 ≤ 2 ^ 1048576 := Nat.pow_le_pow_right (by decide) (by decide)
theorem mulC_of {i j : Int} {a b : Nat} (ha : i.natAbs.log2 ≤ a) (hb : j.natAbs.log2 ≤ b) (h : a + b < 100000000) : mulC i j = true := decide_eq_true (by omega)
theorem pys_strs : ∀ ws : List Str, D.pys (ws.map .str) = some (ws.map .str)
  | [] => rfl
  | w :: ws => by
    rw [List.map_cons, D.pys, pys_strs ws]
    rfl
theorem okN {w : Str} (h : IsNm w) : PyData.strOk w = true := by
  unfold PyData.strOk
  rw [Array.all_eq_true_iff_forall_mem]
  intro c hc
  have := h.2.2 c (by simpa using hc)
  exact decide_eq_true (by omega)
theorem canLay_strs : ∀ {ws : List Str}, (∀ w ∈ ws, PyData.strOk w = true) → PyData.canLayAll0 (ws.map .str) = true
  | [], _ => rfl
  | w :: ws, h => by
    rw [List.map_cons, PyData.canLayAll0, PyData.canLay0, h w List.mem_cons_self, canLay_strs fun x hx => h x (List.mem_cons_of_mem _ hx)]
    rfl
theorem depth_strs : ∀ ws : List Str, PyData.depthAll (ws.map .str) = 0
  | [] => rfl
  | w :: ws => by rw [List.map_cons, PyData.depthAll, PyData.depth, depth_strs ws]; rfl
theorem eqv_strs : ∀ xs ys : List Str, PyData.eqvAll (xs.map .str) (ys.map .str) = decide (xs = ys)
  | [], [] => by simp [PyData.eqvAll]
  | [], y :: ys => by simp [PyData.eqvAll]
  | x :: xs, [] => by simp [PyData.eqvAll]
  | x :: xs, y :: ys => by
    rw [List.map_cons, List.map_cons, PyData.eqvAll, PyData.eqv, eqv_strs xs ys]
    by_cases h : x = y <;> by_cases h2 : xs = ys <;> simp [h, h2]
/-- == of two texts -/
theorem eqF_str (neg : Bool) {x y : Str} (hx : PyData.strOk x = true) (hy : PyData.strOk y = true) : eqF neg (.val (.str x)) (.val (.str y)) = some (.val (.bl (if neg then !decide (x = y) else decide (x = y)))) := by
  have s : ∀ {z : Str}, PyData.strOk z = true → SeqAt.shaped (.str z) = true := fun {z} h => by
    unfold SeqAt.shaped
    rw [PyData.canLay0, h, PyData.depth]; rfl
  unfold eqF
  simp only [W_rd_val, D.eqv?, D.py, s hx, s hy, and_self, if_true, Option.map_some, PyData.eqv]
  congr 4
  all_goals (by_cases h : x = y <;> simp [h])
def tupS (ws : List Str) : D := .tup (ws.map .str)
theorem lc_strs {gm : GM} {t : TM} {m : EM} {u0 : Sl3} {st : Store} {ws : List Str} {k : Res (List D) → Prop} (p : Str → Bool) (f : Str → D) (hn : ws.length ≤ 1000000)
    (h : ∀ w ∈ ws, ∃ u1, gm (.str w) u0 = some u1 ∧ M3.run (t u1 st) (fun r => r = .ok (p w) st) ∧ (p w = true → M3.run (m u1 st) (fun r => r = .ok (.val (f w)) st))) (hk : k (.ok ((ws.filter p).map f) st)) :
    M3.run (lcL gm t m u0 (ws.map .str) [] st) k := by
  have e := lcL_eq (gm := gm) (t := t) (m := m) (u0 := u0) (st := st) (fun d => match d with | .str x => p x | _ => false) (fun d => match d with | .str x => f x | _ => .non) (ws.map .str) [] (fun d hd => by
    obtain ⟨w, hw, rfl⟩ := List.mem_map.mp hd
    exact h w hw) (by simpa using hn)
  rw [e]
  have e2 : ((ws.map D.str).filter fun d => match d with | .str x => p x | _ => false) = (ws.filter p).map D.str := by
    clear e hk h hn
    induction ws with
    | nil => rfl
    | cons w ws ih =>
      simp only [List.map_cons, List.filter_cons, ih]
      cases p w <;> simp
  rw [e2, List.map_map]
  exact hk
theorem kit_tuple : kitB "tuple" "tuple" = some true := by decide +kernel
@[simp] theorem isiF_tup (xs : List D) : isiF [.val (.tup xs), .val (.ty "tuple")] = some (.val (.bl true)) := by
  unfold isiF
  simp [D.tyn, kit_tuple]
theorem lcL_mapE {α : Type} {gm : GM} {t : TM} {m : EM} {u0 : Sl3} {st : Store} (f : α → D) (p : α → Bool) (g : α → D) : ∀ (xs : List α) (acc : List D),
    (∀ x ∈ xs, ∃ u1, gm (f x) u0 = some u1 ∧ t u1 st = .ok (p x) st ∧ (p x = true → m u1 st = .ok (.val (g x)) st)) → acc.length + xs.length ≤ 1000000 →
    lcL gm t m u0 (xs.map f) acc st = .ok (acc ++ (xs.filter p).map g) st
  | [], acc, _, _ => by simp [lcL, M.pure]
  | x :: xs, acc, h, hz => by
    obtain ⟨u1, e1, e2, e3⟩ := h x List.mem_cons_self
    have ih := fun acc => lcL_mapE f p g xs acc fun d hd => h d (List.mem_cons_of_mem _ hd)
    simp only [List.length_cons] at hz
    apply of_run
    rw [List.map_cons, lcL_cons, e1]
    simp only [run_of_some, kBind_ok, run_bind, run_quiet, e2, run_ok, kQuiet_ok, run_ite]
    cases hp : p x with
    | false =>
      rw [if_neg Bool.false_ne_true, ih acc (by omega)]
      simp [hp]
    | true =>
      rw [if_pos rfl, e3 hp]
      simp only [run_ok, kQuiet_ok, kBind_ok, run_bind, W.d, run_of_some, run_chk]
      rw [if_pos (by omega), ih _ (by simp; omega)]
      simp [hp]
theorem lcM_run {α : Type} {gm : GM} {t : TM} {m : EM} {u0 : Sl3} {st : Store} {xs : List α} {k : Res (List D) → Prop} (f : α → D) (p : α → Bool) (g : α → D) (hn : xs.length ≤ 1000000)
    (h : ∀ x ∈ xs, ∃ u1, gm (f x) u0 = some u1 ∧ M3.run (t u1 st) (fun r => r = .ok (p x) st) ∧ (p x = true → M3.run (m u1 st) (fun r => r = .ok (.val (g x)) st))) (hk : k (.ok ((xs.filter p).map g) st)) :
    M3.run (lcL gm t m u0 (xs.map f) [] st) k := by
  rw [lcL_mapE f p g xs [] h (by simpa using hn)]; exact hk
/-- without a condition -/
theorem lcA_run {α : Type} {gm : GM} {m : EM} {u0 : Sl3} {st : Store} {xs : List α} {k : Res (List D) → Prop} (f : α → D) (g : α → D) (hn : xs.length ≤ 1000000)
    (h : ∀ x ∈ xs, ∃ u1, gm (f x) u0 = some u1 ∧ M3.run (m u1 st) (fun r => r = .ok (.val (g x)) st)) (hk : k (.ok (xs.map g) st)) :
    M3.run (lcL gm tYes3 m u0 (xs.map f) [] st) k :=
  lcM_run f (fun _ => true) g hn (fun x hx => let ⟨u1, e, r⟩ := h x hx; ⟨u1, e, rfl, fun _ => r⟩) (by rw [List.filter_eq_self.mpr (fun _ _ => rfl)]; exact hk)
theorem kit_bool : kitB "bool" "bool" = some true := by decide +kernel
@[simp] theorem isiF_bool (x : Bool) : isiF [.val (.bl x), .val (.ty "bool")] = some (.val (.bl true)) := by
  unfold isiF
  simp [D.tyn, kit_bool]
@[simp] theorem eqF_bl (neg a b : Bool) : eqF neg (.val (.bl a)) (.val (.bl b)) = some (.val (.bl (if neg then !decide (a = b) else decide (a = b)))) := by
  cases neg <;> cases a <;> cases b <;> rfl
end My
namespace My
open PySem L2 M3
def mb_w_digits : SM := (sSeq (sOwn 3 (fLst aNil))
  (sSeq (sSet 4 (eBin subF (eVar 0) (eBin powF (eC (.int 10)) (eC (.int 18)))))
  (sSeq (sFor (iRange1 (aCons (eVar 2) aNil)) (gName3 5) (sIf (tOf (eBin geF (eVar 0) (eBin powF (eC (.int 10)) (eC (.int 18))))) (sSeq (sApp 3 (eBin modF (eB intCF (aCons (eVar 4) aNil)) (eC (.int 5040))))
  (sSet 4 (eBin divF (eVar 4) (eC (.int 5040))))) (sSeq (sSet 6 (eBin modF (eB intCF (aCons (eBin addF (eBin addF (eBin mulF (eVar 0) (eC (.int 48271))) (eBin mulF (eBin addF (eVar 1) (eVar 5)) (eC (.int 69621)))) (eC (.int 7))) aNil)) (eC (.int 2147483647))))
  (sApp 3 (eBin modF (eBin modF (eB intCF (aCons (eBin addF (eBin addF (eBin mulF (eVar 6) (eVar 6)) (eBin mulF (eC (.int 40692)) (eVar 1))) (eVar 5)) aNil)) (eC (.int 1000003))) (eC (.int 5040)))))))
  (sRetO 3))))
def mf_w_digits : List D → M D := mfn 7 mb_w_digits
def mb_w_cell_at : SM := (sSeq (sIf (tOf (eBin ltF (eVar 1) (eB lenF (aCons (eVar 0) aNil)))) (sRetV (eBin ixF (eVar 0) (eVar 1))) sNext)
  (sSeq (sIf (tOf (eBin gtF (eB lenF (aCons (eVar 0) aNil)) (eC (.int 0)))) (sRetV (eBin addF (eBin modF (eB intCF (aCons (eBin ixF (eVar 0) (eBin modF (eVar 1) (eB lenF (aCons (eVar 0) aNil)))) aNil)) (eC (.int 1000003))) (eBin mulF (eC (.int 1009)) (eVar 1)))) sNext)
  (sRetV (eVar 1))))
def mf_w_cell_at : List D → M D := mfn 2 mb_w_cell_at
def mb_w_spelled : SM := (sSeq (sSet 2 (eC (.str "abcdefghijklmnopqrstuvwxyz")))
  (sSeq (sSet 3 (eBin mulF (eBin ixF (eVar 2) (eBin modF (eBin divF (eB intCF (aCons (eVar 0) aNil)) (eC (.int 64))) (eC (.int 26)))) (eBin modF (eB intCF (aCons (eVar 0) aNil)) (eC (.int 8)))))
  (sSeq (sSet 4 (eBin modF (eBin divF (eB intCF (aCons (eVar 0) aNil)) (eC (.int 8))) (eC (.int 8))))
  (sSeq (sSet 5 (eBin modF (eBin divF (eB intCF (aCons (eVar 0) aNil)) (eC (.int 3))) (eC (.int 3))))
  (sSeq (sSet 6 (eF (fLc (iRange1 (aCons (eVar 1) aNil)) (gName3 8) tYes3 (eBin ixF (eVar 2) (eBin modF (eB intCF (aCons (eBin addF (eVar 0) (eBin mulF (eC (.int 5)) (eVar 8))) aNil)) (eC (.int 26)))) [8])))
  (sSeq (sSet 7 (eF (fLc (iRange1 (aCons (eVar 1) aNil)) (gName3 8) tYes3 (eBin addF (eSlA (eVar 3) (pSome (eVar 4)) pNone) (eSlA (eVar 3) pNone (pSome (eBin mulF (eVar 8) (eVar 5))))) [8])))
  (sRetV (eF (fLc (iRange1 (aCons (eVar 1) aNil)) (gName3 8) tYes3 (eSlA (eBin addF (eBin addF (eSlA (eVar 3) pNone (pSome (eVar 4))) (eBin ixF (eVar 6) (eVar 8))) (eBin ixF (eVar 7) (eVar 8))) pNone (pSome (eC (.int 8)))) [8])))))))))
def mf_w_spelled : List D → M D := mfn 9 mb_w_spelled
end My
namespace My
open PySem L2 M3
set_option maxHeartbeats 4000000 in
theorem cell_at_spec (ns : List Int) (k : Nat) (hk : k < 1000000) (hb : ∀ i ∈ ns, i.natAbs.log2 ≤ 1048576) (hl : ns.length ≤ 63) (st : Store) :
    ∃ c : Int, mf_w_cell_at [.ro (ns.map .int), .int k] st = .ok (.int c) st ∧ c.natAbs.log2 ≤ 1048576 := by
  have hs : sizeLine = 16777216 := sizeLine_eq
  by_cases h1 : k < ns.length
  · refine ⟨ns[k], of_run ?_, hb _ (List.getElem_mem h1)⟩
    rw [mf_w_cell_at, run_mfn]
    simp [mb_w_cell_at, atN, h1]
  · by_cases h2 : 0 < ns.length
    · have h3 : k % ns.length < ns.length := Nat.mod_lt _ h2
      have hat : atI (ns.map D.int) ((k : Int) % (ns.length : Int)) = some (.int ns[k % ns.length]) := by
        have e3 : ((k : Int) % (ns.length : Int)) = ((k % ns.length : Nat) : Int) := by omega
        rw [e3, atN]; simp [h3]
      refine ⟨ns[k % ns.length] % 1000003 + 1009 * k, of_run ?_, ?_⟩
      · rw [mf_w_cell_at, run_mfn]
        have hm : mulC 1009 k = true := by
          unfold mulC
          have := log2_le (n := (k : Int).natAbs) (k := 20) (by omega)
          have e : Nat.log2 (Int.natAbs 1009) = 9 := by decide
          exact decide_eq_true (by omega)
        simp [mb_w_cell_at, h1, h2, hat, hm]
      · refine log2_le (Nat.lt_of_lt_of_le ?_ two20)
        have := Int.emod_nonneg ns[k % ns.length] (b := 1000003) (by decide)
        have := Int.emod_lt_of_pos ns[k % ns.length] (b := 1000003) (by decide)
        omega
    · refine ⟨k, of_run ?_, log2_le (Nat.lt_of_lt_of_le (m := 2 ^ 31) (by omega) two20)⟩
      rw [mf_w_cell_at, run_mfn]
      simp [mb_w_cell_at, h1, h2]
/-- the draws: as many as asked for, each below 5040 -/
def Draws (n : Nat) (ds : List Int) : Prop := ds.length = n ∧ ∀ d ∈ ds, 0 ≤ d ∧ d < 5040
set_option maxHeartbeats 4000000 in
theorem digits_spec (c : Int) (salt many : Nat) (hc : c.natAbs.log2 ≤ 1048576) (hs : salt < 1000000) (hm : many ≤ 1000) (st : Store) :
    ∃ ds : List Int, mf_w_digits [.int c, .int salt, .int many] st = .ok (.lst (ds.map .int)) st ∧ Draws many ds := by
  have hz : sizeLine = 16777216 := sizeLine_eq
  suffices h : M3.run (mf_w_digits [.int c, .int salt, .int many] st) (fun r => ∃ ds : List Int, r = .ok (.lst (ds.map .int)) st ∧ Draws many ds) by
    obtain ⟨ds, e, h⟩ := h
    exact ⟨ds, e, h⟩
  rw [mf_w_digits, run_mfn]
  have hr : -1000000 ≤ (many : Int) ∧ (many : Int) ≤ 1000000 := by omega
  simp [mb_w_digits, hr]
  refine forL_run (fun i u st' => st' = st ∧ ∃ (ds : List Int) (rest : Int) (x y : Option W), Draws i ds ∧ u = [some (.val (.int c)), some (.val (.int salt)), some (.val (.int many)), some (.bor (ds.map .int)), some (.val (.int rest)), x, y]) ?_ ?_ ?_
  · exact ⟨rfl, [], _, none, none, ⟨rfl, by simp⟩, rfl⟩
  · rintro i d u st' hd ⟨rfl, ds, rest, x, y, hD, rfl⟩
    obtain ⟨rfl, hi⟩ := range_get hd
    refine ⟨_, rfl, ?_⟩
    have hlen : ds.length < 1000000 := by rw [hD.1]; omega
    by_cases hb : (1000000000000000000 : Int) ≤ c
    · simp [hb, hlen]
      refine ⟨ds ++ [rest % 5040], ⟨by simp [hD.1], fun e he => ?_⟩, by simp⟩
      rcases List.mem_append.mp he with q | q
      · exact hD.2 e q
      · rw [List.mem_singleton.mp q]; omega
    · have m1 : mulC c 48271 = true := mulC_of hc (b := 16) (by decide) (by omega)
      have m2 : mulC ((salt : Int) + (i : Int)) 69621 = true := mulC_of (a := 40) (log2_le (by omega)) (b := 17) (by decide) (by omega)
      generalize hq : (c * 48271 + ((salt : Int) + (i : Int)) * 69621 + 7) % 2147483647 = q
      have q0 : 0 ≤ q ∧ q < 2147483647 := by omega
      have m3 : mulC q q = true := mulC_of (a := 40) (log2_le (by omega)) (b := 40) (log2_le (by omega)) (by omega)
      have m4 : mulC 40692 (salt : Int) = true := mulC_of (a := 16) (by decide) (b := 40) (log2_le (by omega)) (by omega)
      simp [hb, hlen, m1, m2, hq, m3, m4]

      refine ⟨ds ++ [(q * q + 40692 * (salt : Int) + (i : Int)) % 1000003 % 5040], ⟨by simp [hD.1], fun e he => ?_⟩, by simp⟩
      rcases List.mem_append.mp he with h | h
      · exact hD.2 e h
      · rw [List.mem_singleton.mp h]; omega
  · rintro u st' ⟨rfl, ds, rest, x, y, hD, rfl⟩
    rw [rangeD_length] at hD
    simp
    exact ⟨ds, rfl, hD⟩
set_option maxHeartbeats 4000000 in
theorem spelled_spec (d many : Nat) (hd : d < 5040) (hm : many ≤ 26) (st : Store) : mf_w_spelled [.int d, .int many] st = .ok (.lst ((words d many).map .str)) st := by
  apply of_run
  rw [mf_w_spelled, run_mfn]
  have e1 : (d : Int) / 64 % 26 = ((d / 64 % 26 : Nat) : Int) := by omega
  have e2 : (d : Int) % 8 = ((d % 8 : Nat) : Int) := by omega
  have e3 : (d : Int) / 8 % 8 = ((d / 8 % 8 : Nat) : Int) := by omega
  have e4 : (d : Int) / 3 % 3 = ((d / 3 % 3 : Nat) : Int) := by omega
  have a1 : atI letters ((d : Int) / 64 % 26) = some (97 + d / 64 % 26) := by rw [e1, atN, letters_get (by omega)]
  have m1 : MulS ⟨#[97 + d / 64 % 26]⟩ ((d : Int) % 8) = true := decide_eq_true ⟨by omega, by omega, by show (#[97 + d / 64 % 26] : Array Nat).size ≤ 1000; simp⟩
  have x1 : Txt.mul ⟨#[97 + d / 64 % 26]⟩ ((d : Int) % 8) = S (List.replicate (d % 8) (97 + d / 64 % 26)) := by rw [e2]; exact mul_one_sign _ _
  have r1 : -1000000 ≤ (many : Int) ∧ (many : Int) ≤ 1000000 := by omega
  have l1 : letters.length ≤ 1000000 := by decide
  simp only [mb_w_spelled, letters_eq]
  simp [a1, m1, x1, r1, l1]
  refine lcR_run (fun k => .str (S [97 + (d + 5 * k) % 26])) (by omega) (fun i hi => ⟨_, rfl, ?_⟩) ?_
  · have e : ((d : Int) + 5 * (i : Int)) % 26 = (((d + 5 * i) % 26 : Nat) : Int) := by omega
    have a : atI letters (((d : Int) + 5 * (i : Int)) % 26) = some (97 + (d + 5 * i) % 26) := by rw [e, atN, letters_get (by omega)]
    have m : mulC 5 (i : Int) = true := mulC_of (a := 3) (by decide) (b := 40) (log2_le (by omega)) (by omega)
    simp [m, a, l1]
    rfl
  simp [r1]
  generalize hF : List.replicate (d % 8) (97 + d / 64 % 26) = F
  have lF : F.length ≤ 7 := by rw [← hF, List.length_replicate]; omega
  refine lcR_run (fun k => .str (S (F.drop (d / 8 % 8) ++ F.take (k * (d / 3 % 3))))) (by omega) (fun i hi => ⟨_, rfl, ?_⟩) ?_
  · have m : mulC (i : Int) ((d : Int) / 3 % 3) = true := mulC_of (a := 40) (log2_le (by omega)) (b := 40) (log2_le (by omega)) (by omega)
    have c1 : cutD F (some ((d : Int) / 8 % 8)) none = F.drop (d / 8 % 8) := by rw [e3, cut_from _ (by omega)]; rfl
    have c2 : cutD F none (some ((i : Int) * ((d : Int) / 3 % 3))) = F.take (i * (d / 3 % 3)) := by
      rw [e4, show ((i : Int) * ((d / 3 % 3 : Nat) : Int)) = ((i * (d / 3 % 3) : Nat) : Int) by simp, cut_to _ (by omega)]; rfl
    have z1 : F.length - d / 8 % 8 + min (i * (d / 3 % 3)) F.length ≤ 1000000 := by omega
    simp [m, S_cut, c1, c2, S_app, z1, show F.length ≤ 1000000 by omega]
  simp [r1]
  refine lcR_run (fun k => .str (word d k)) (by omega) (fun i hi => ⟨_, rfl, ?_⟩) ?_
  · have c1 : cutD F none (some ((d : Int) / 8 % 8)) = F.take (d / 8 % 8) := by rw [e3, cut_to _ (by omega)]; rfl
    have c3 : ∀ l : List Nat, cutD l none (some 8) = l.take 8 := fun l => by rw [cut_to _ (by omega)]; rfl
    simp [S_cut, c1, S_app, atN, hi, show F.length ≤ 1000000 by omega, show min (d / 8 % 8) F.length + 1 ≤ 1000000 by omega, c3]
    have z2 : min (d / 8 % 8) F.length + 1 + (F.length - d / 8 % 8 + min (i * (d / 3 % 3)) F.length) ≤ 1000000 := by omega
    refine ⟨z2, by omega, ?_⟩
    unfold word wordL
    rw [hF]
    simp
  · simp [words]
end My
namespace My
open PySem L2 M3
/-! in, count, == over texts -/
abbrev Ok (w : Str) : Prop := PyData.strOk w = true
abbrev Oks (ws : List Str) : Prop := ∀ w ∈ ws, PyData.strOk w = true
theorem cutD_map {α β : Type} (f : α → β) (xs : List α) (lo hi : Option Int) : cutD (xs.map f) lo hi = (cutD xs lo hi).map f := by
  unfold cutD
  rw [List.length_map, ← List.map_drop, ← List.map_take]
theorem eqF_int (neg : Bool) (i j : Int) : eqF neg (.val (.int i)) (.val (.int j)) = some (.val (.bl (if neg then !decide (i = j) else decide (i = j)))) := by
  unfold eqF
  have s : ∀ i : Int, SeqAt.shaped (.int i) = true := fun i => by unfold SeqAt.shaped; rw [PyData.canLay0, PyData.depth]; rfl
  simp only [W_rd_val, D.eqv?, D.py, s, and_self, if_true, Option.map_some, PyData.eqv]
  congr 4
  all_goals (by_cases h : i = j <;> simp [h])
end My
namespace My
open PySem L2 M3
def mb_Switchboard_init : SM := (sSeq (sSup0 ["Switchboard"])
  (sFldS ["Switchboard"] "now" (eVar 0) (eTup aNil)))
def mf_Switchboard_init : List D → M D := mfn 2 mb_Switchboard_init
def mb_Switchboard_active : SM := (sRetV (eFld ["Switchboard"] "now" (eVar 0)))
def mf_Switchboard_active : List D → M D := mfn 1 mb_Switchboard_active
def mb_w_blocks : SM := (sRetV (eF (fLc (iSeq (eVar 0)) (gName3 2) tYes3 (eTup (aCons (eBin ixF (eF (fLst (aCons (eC (.str "on")) (aCons (eC (.str "on")) (aCons (eC (.str "off")) aNil))))) (eBin modF (eB intCF (aCons (eVar 2) aNil)) (eC (.int 3)))) (aCons (eBin ixF (eVar 1) (eBin modF (eBin divF (eB intCF (aCons (eVar 2) aNil)) (eC (.int 3))) (eB lenF (aCons (eVar 1) aNil)))) aNil))) [2])))
def mf_w_blocks : List D → M D := mfn 3 mb_w_blocks
def mb_Entering_init : SM := (sSeq (sFldS ["Entering"] "before" (eVar 0) (eVar 1))
  (sFldS ["Entering"] "outer" (eVar 0) (eVar 2)))
def mf_Entering_init : List D → M D := mfn 3 mb_Entering_init
def mb_switch_layer : SM := (sSeq (sSet 3 (eB tupCF (aCons (eF (fLc (iSeq (eVar 0)) (gName3 4) (tOf (eBin (eqF true) (eVar 4) (eVar 2))) (eVar 4) [4])) aNil)))
  (sSeq (sIf (tOf (eBin (eqF false) (eVar 1) (eC (.str "on")))) (sRetV (eBin addF (eTup (aCons (eVar 2) aNil)) (eVar 3))) sNext)
  (sRetV (eVar 3))))
def mf_switch_layer : List D → M D := mfn 5 mb_switch_layer
def mb_Block_enter : SM := (sSeq (sFldS ["Block"] "last" (eVar 0) (eMk3 "Entering" 2 [] mf_Entering_init (aCons (eFld ["Switchboard"] "now" (eFld ["Block"] "board" (eVar 0))) (aCons (eFld ["Block"] "last" (eVar 0)) aNil))))
  (sSeq (sFldS ["Switchboard"] "now" (eFld ["Block"] "board" (eVar 0)) (eCall 3 mf_switch_layer (aCons (eFld ["Switchboard"] "now" (eFld ["Block"] "board" (eVar 0))) (aCons (eFld ["Block"] "way" (eVar 0)) (aCons (eFld ["Block"] "layer" (eVar 0)) aNil)))))
  (sRetV (eFld ["Switchboard"] "now" (eFld ["Block"] "board" (eVar 0))))))
def mf_Block_enter : List D → M D := mfn 1 mb_Block_enter
def mb_Block_exit : SM := (sSeq (sFldS ["Switchboard"] "now" (eFld ["Block"] "board" (eVar 0)) (eFld ["Entering"] "before" (eFld ["Block"] "last" (eVar 0))))
  (sFldS ["Block"] "last" (eVar 0) (eFld ["Entering"] "outer" (eFld ["Block"] "last" (eVar 0)))))
def mf_Block_exit : List D → M D := mfn 4 mb_Block_exit
def mb_Block_init : SM := (sSeq (sFldS ["Block"] "board" (eVar 0) (eVar 1))
  (sSeq (sFldS ["Block"] "way" (eVar 0) (eVar 2))
  (sSeq (sFldS ["Block"] "layer" (eVar 0) (eVar 3))
  (sFldS ["Block"] "last" (eVar 0) (eC .non)))))
def mf_Block_init : List D → M D := mfn 4 mb_Block_init
def mb_w_after : SM := (sSeq (sFor (iSeq (eVar 1)) (gName3 2) (sSeq (sSet 3 (eF (fLc (iSeq (eVar 0)) (gName3 4) (tOf (eBin (eqF true) (eVar 4) (eBin ixF (eVar 2) (eC (.int 1))))) (eVar 4) [4])))
  (sSeq (sIf (tOf (eBin (eqF false) (eBin ixF (eVar 2) (eC (.int 0))) (eC (.str "on")))) (sSet 3 (eBin addF (eF (fLst (aCons (eBin ixF (eVar 2) (eC (.int 1))) aNil))) (eVar 3))) sNext)
  (sSet 0 (eB tupCF (aCons (eVar 3) aNil))))))
  (sRetV (eVar 0)))
def mf_w_after : List D → M D := mfn 5 mb_w_after
/-- within, over a table of functions -/
def mb_within (tab : FnTab) (mr : List D → M D) : SM := (sSeq (sIf (tOf (eBin (eqF false) (eB lenF (aCons (eVar 2) aNil)) (eC (.int 0)))) (sRetV (eCallV 0 tab 1 aNil)) sNext)
  (sSeq (sAsgStar (eVar 2) (gTup3 2 (gCons3 (gName3 3) (gCons3 (gName3 4) gNil3))) 5)
  (sWith "Block" mf_Block_enter mf_Block_exit (eMk3 "Block" 3 [] mf_Block_init (aCons (eVar 0) (aCons (eVar 3) (aCons (eVar 4) aNil)))) (sRetV (eMethRs (fun _ mf => mf) "within" [("Switchboard", mr)] (eVar 0) (eVar 1) (eVar 5))))))
def mf_within (tab : FnTab) : Nat → List D → M D
  | 0 => fun _ _ => .bad
  | n + 1 => mfnS 6 2 (mb_within tab (mf_within tab n))
/-- the law's own way to it -/
def mb_wwithin (tab : FnTab) : SM := (sSeq (sIf (tOf (eBin (eqF false) (eB lenF (aCons (eVar 2) aNil)) (eC (.int 0)))) (sRetV (eMethRp "within" [("Switchboard", mf_within tab 5)] (eVar 0) (aCons (eVar 1) aNil))) sNext)
  (sSeq (sIf (tOf (eBin (eqF false) (eB lenF (aCons (eVar 2) aNil)) (eC (.int 1)))) (sRetV (eMethRp "within" [("Switchboard", mf_within tab 5)] (eVar 0) (aCons (eVar 1) (aCons (eBin ixF (eVar 2) (eC (.int 0))) aNil)))) sNext)
  (sSeq (sIf (tOf (eBin (eqF false) (eB lenF (aCons (eVar 2) aNil)) (eC (.int 2)))) (sRetV (eMethRp "within" [("Switchboard", mf_within tab 5)] (eVar 0) (aCons (eVar 1) (aCons (eBin ixF (eVar 2) (eC (.int 0))) (aCons (eBin ixF (eVar 2) (eC (.int 1))) aNil))))) sNext)
  (sSeq (sIf (tOf (eBin (eqF false) (eB lenF (aCons (eVar 2) aNil)) (eC (.int 3)))) (sRetV (eMethRp "within" [("Switchboard", mf_within tab 5)] (eVar 0) (aCons (eVar 1) (aCons (eBin ixF (eVar 2) (eC (.int 0))) (aCons (eBin ixF (eVar 2) (eC (.int 1))) (aCons (eBin ixF (eVar 2) (eC (.int 2))) aNil)))))) sNext)
  (sRetV (eMethRp "within" [("Switchboard", mf_within tab 5)] (eVar 0) (aCons (eVar 1) (aCons (eBin ixF (eVar 2) (eC (.int 0))) (aCons (eBin ixF (eVar 2) (eC (.int 1))) (aCons (eBin ixF (eVar 2) (eC (.int 2))) (aCons (eBin ixF (eVar 2) (eC (.int 3))) aNil)))))))))))
def mf_wwithin (tab : FnTab) : List D → M D := mfn 3 (mb_wwithin tab)
end My
namespace My
open PySem L2 M3
/-! blocks around a deed -/
def onB (b : Bool) : Str := if b then "on" else "off"
def swB (act : List Str) (b : Bool) (l : Str) : List Str := if b then l :: act.filter (fun n => !decide (n = l)) else act.filter (fun n => !decide (n = l))
theorem onB_ok (b : Bool) : Ok (onB b) := by cases b <;> decide +kernel
theorem onB_eq (b : Bool) : eqF false (.val (.str (onB b))) (.val (.str "on")) = some (.val (.bl b)) := by
  have h : decide (onB b = ("on" : Str)) = b := by cases b <;> decide +kernel
  have := eqF_str false (onB_ok b) (y := "on") (by decide +kernel)
  rw [this]
  simp only [Bool.false_eq_true, if_false, h]
theorem swB_ok {act : List Str} {l : Str} (ha : Oks act) (ok : Ok l) (b : Bool) : Oks (swB act b l) := by
  unfold swB
  split
  · intro w hw
    rcases List.mem_cons.mp hw with rfl | hw
    · exact ok
    · exact ha w (List.mem_filter.mp hw).1
  · exact fun w hw => ha w (List.mem_filter.mp hw).1
theorem swB_len {act : List Str} {l : Str} (b : Bool) : (swB act b l).length ≤ act.length + 1 := by
  have := List.length_filter_le (fun n => !decide (n = l)) act
  unfold swB
  split
  · rw [List.length_cons]; omega
  · omega
theorem switch_spec {act : List Str} {l : Str} (ha : Oks act) (ok : Ok l) (hl : act.length ≤ 900000) (b : Bool) (st : Store) : mf_switch_layer [tupS act, .str (onB b), .str l] st = .ok (tupS (swB act b l)) st := by
  apply of_run
  rw [mf_switch_layer, run_mfn]
  simp [mb_switch_layer, tupS]
  refine lc_strs (ws := act) (fun n => !decide (n = l)) (fun n => .str n) (by omega) (fun n hn => ⟨_, rfl, ?_, fun _ => ?_⟩) ?_
  · simp [eqF_str true (ha n hn) ok]
  · simp
  have lf := List.length_filter_le (fun n => !decide (n = l)) act
  simp [onB_eq]
  unfold swB
  cases b with
  | true => simp; omega
  | false => simp
abbrev Blk := Bool × Str
def blkD (b : Blk) : D := .tup [.str (onB b.1), .str b.2]
def aftB (act : List Str) (bs : List Blk) : List Str := bs.foldl (fun a b => swB a b.1 b.2) act
abbrev OksB (bs : List Blk) : Prop := ∀ b ∈ bs, Ok b.2
theorem aftB_ok : ∀ {bs : List Blk} {act : List Str}, Oks act → OksB bs → Oks (aftB act bs)
  | [], _, h, _ => h
  | b :: bs, _, h, g => aftB_ok (bs := bs) (swB_ok h (g b List.mem_cons_self) b.1) fun c hc => g c (List.mem_cons_of_mem _ hc)
theorem aftB_len : ∀ {bs : List Blk} {act : List Str}, (aftB act bs).length ≤ act.length + bs.length
  | [], _ => Nat.le_refl _
  | b :: bs, act => by
    have h1 := aftB_len (bs := bs) (act := swB act b.1 b.2)
    have h2 := swB_len (act := act) (l := b.2) b.1
    show (aftB (swB act b.1 b.2) bs).length ≤ _
    rw [List.length_cons]
    omega
/-! objects -/
def boardO (act : List Str) : MO := .ins "Switchboard" [("now", tupS act)]
def blockO (kb : Nat) (b : Blk) (last : D) : MO := .ins "Block" [("board", .ref kb), ("way", .str (onB b.1)), ("layer", .str b.2), ("last", last)]
def enterO (before outer : D) : MO := .ins "Entering" [("before", before), ("outer", outer)]
/-- nothing that stood is changed -/
def Ext (st st' : Store) : Prop := ∀ (k : Nat) (o : MO), o.nap = o → st[k]? = some o → st'[k]? = some o
theorem Ext.refl (st : Store) : Ext st st := fun _ _ _ e => e
theorem Ext.trans {a b c : Store} (h : Ext a b) (g : Ext b c) : Ext a c := fun k o n e => g k o n (h k o n e)
theorem n_board_way : ¬ (Str.ofString "board" = Str.ofString "way") := by decide +kernel
theorem n_board_layer : ¬ (Str.ofString "board" = Str.ofString "layer") := by decide +kernel
theorem n_board_last : ¬ (Str.ofString "board" = Str.ofString "last") := by decide +kernel
theorem n_way_board : ¬ (Str.ofString "way" = Str.ofString "board") := by decide +kernel
theorem n_way_layer : ¬ (Str.ofString "way" = Str.ofString "layer") := by decide +kernel
theorem n_way_last : ¬ (Str.ofString "way" = Str.ofString "last") := by decide +kernel
theorem n_layer_board : ¬ (Str.ofString "layer" = Str.ofString "board") := by decide +kernel
theorem n_layer_way : ¬ (Str.ofString "layer" = Str.ofString "way") := by decide +kernel
theorem n_layer_last : ¬ (Str.ofString "layer" = Str.ofString "last") := by decide +kernel
theorem n_last_board : ¬ (Str.ofString "last" = Str.ofString "board") := by decide +kernel
theorem n_last_way : ¬ (Str.ofString "last" = Str.ofString "way") := by decide +kernel
theorem n_last_layer : ¬ (Str.ofString "last" = Str.ofString "layer") := by decide +kernel
theorem n_before_outer : ¬ (Str.ofString "before" = Str.ofString "outer") := by decide +kernel
theorem n_outer_before : ¬ (Str.ofString "outer" = Str.ofString "before") := by decide +kernel
theorem n_within_now : ¬ (Str.ofString "within" = Str.ofString "now") := by decide +kernel
theorem init_spec (st : Store) : mf_Switchboard_init [.ref st.length] (st ++ [.ins "Switchboard" []]) = .ok .non (st ++ [boardO []]) := by
  apply of_run
  rw [mf_Switchboard_init, run_mfn]
  simp only [mb_Switchboard_init]
  simp
  rw [run_sSup0 (i := st.length) (c := "Switchboard") (fs := []) rfl (by simp) (by simp)]
  simp [put3, boardO, tupS]
theorem active_spec {st : Store} {kb : Nat} {act : List Str} (h : st[kb]? = some (boardO act)) : mf_Switchboard_active [.ref kb] st = .ok (tupS act) st := by
  apply of_run
  rw [mf_Switchboard_active, run_mfn]
  simp [mb_Switchboard_active, h, boardO]
theorem block_init (st : Store) (kb : Nat) (b : Blk) : mf_Block_init [.ref st.length, .ref kb, .str (onB b.1), .str b.2] (st ++ [.ins "Block" []]) = .ok .non (st ++ [blockO kb b .non]) := by
  apply of_run
  rw [mf_Block_init, run_mfn]
  simp [mb_Block_init, put3, blockO, n_board_way, n_board_layer, n_board_last, n_way_board, n_way_layer, n_way_last, n_layer_board, n_layer_way, n_layer_last, n_last_board, n_last_way, n_last_layer]
theorem entering_init (st : Store) (x y : D) : mf_Entering_init [.ref st.length, x, y] (st ++ [.ins "Entering" []]) = .ok .non (st ++ [enterO x y]) := by
  apply of_run
  rw [mf_Entering_init, run_mfn]
  simp [mb_Entering_init, put3, enterO, n_before_outer, n_outer_before]
theorem look_ne {α : Type} {a b : Str} {x : α} {l : List (Str × α)} (h : ¬ a = b) : List.lookup a ((b, x) :: l) = List.lookup a l := by
  rw [List.lookup_cons]
  have : (a == b) = false := by simpa using h
  rw [this]
theorem get_app {st : Store} {k : Nat} {o : MO} {xs : Store} (h : st[k]? = some o) : (st ++ xs)[k]? = some o := by
  rw [List.getElem?_append_left (List.getElem?_eq_some_iff.mp h).1]
  exact h
theorem get_lt {st : Store} {k : Nat} {o : MO} (h : st[k]? = some o) : k < st.length := (List.getElem?_eq_some_iff.mp h).1
theorem enter_spec {st : Store} {j kb : Nat} {b : Blk} {act : List Str} (hj : st[j]? = some (blockO kb b .non)) (hb : st[kb]? = some (boardO act)) (ha : Oks act) (ok : Ok b.2) (hl : act.length ≤ 900000) :
    mf_Block_enter [.ref j] st = .ok (tupS (swB act b.1 b.2)) (((st ++ [enterO (tupS act) .non]).set j (blockO kb b (.ref st.length))).set kb (boardO (swB act b.1 b.2))) := by
  have hne : j ≠ kb := fun e => by
    rw [e, hb] at hj
    have hj := Option.some.inj hj
    unfold boardO blockO at hj
    rw [MO.ins.injEq] at hj
    exact absurd hj.1 (by decide)
  have l1 := get_lt hj
  have l2 := get_lt hb
  apply of_run
  rw [mf_Block_enter, run_mfn]
  simp [mb_Block_enter, hj, hb, n_board_way, n_board_layer, n_board_last, n_way_board, n_way_layer, n_way_last, n_layer_board, n_layer_way, n_layer_last, n_last_board, n_last_way, n_last_layer, look_ne, blockO, boardO, entering_init, put3]
  obtain ⟨st1, e1, h1, h2⟩ : ∃ st1 : Store, st1 = (st ++ [enterO (tupS act) D.non]).set j (.ins "Block" [("board", .ref kb), ("way", .str (onB b.1)), ("layer", .str b.2), ("last", .ref st.length)]) ∧ st1[j]? = some (blockO kb b (.ref st.length)) ∧ st1[kb]? = some (boardO act) := by
    refine ⟨_, rfl, ?_, ?_⟩
    · rw [List.getElem?_set_self (by rw [List.length_append]; omega)]; rfl
    · rw [List.getElem?_set_ne hne]; exact get_app hb
  simp only [hj, hb, List.getElem?_append_left l1, List.getElem?_append_left l2, kIns_ins, n_board_way, n_board_layer, n_board_last, n_way_board, n_way_layer, n_way_last, n_layer_board, n_layer_way, n_layer_last, n_last_board, n_last_way, n_last_layer, look_ne]
  simp [-List.length_set, hj, hb, List.getElem?_append_left l1, List.getElem?_append_left l2, n_board_way, n_board_layer, n_board_last, n_way_board, n_way_layer, n_way_last, n_layer_board, n_layer_way, n_layer_last, n_last_board, n_last_way, n_last_layer, look_ne, put3, blockO, boardO]
  rw [← e1]
  have l3 : kb < st1.length := get_lt h2
  have h3 : (st1.set kb (MO.ins "Switchboard" [("now", tupS (swB act b.1 b.2))]))[j]? = some (blockO kb b (.ref st.length)) := by rw [List.getElem?_set_ne (Ne.symm hne)]; exact h1
  have h4 : (st1.set kb (MO.ins "Switchboard" [("now", tupS (swB act b.1 b.2))]))[kb]? = some (.ins "Switchboard" [("now", tupS (swB act b.1 b.2))]) := List.getElem?_set_self l3
  simp [-List.length_set, h1, h2, n_board_way, n_board_layer, n_board_last, n_way_board, n_way_layer, n_way_last, n_layer_board, n_layer_way, n_layer_last, n_last_board, n_last_way, n_last_layer, look_ne, put3, blockO, boardO, switch_spec ha ok hl]
  simp only [h3, h4, blockO, kIns_ins]
  simp [h3, h4, n_board_way, n_board_layer, n_board_last, n_way_board, n_way_layer, n_way_last, n_layer_board, n_layer_way, n_layer_last, n_last_board, n_last_way, n_last_layer, look_ne]
theorem exit_spec {st : Store} {j kb e : Nat} {b : Blk} {act : List Str} {o now0 : D} (hj : st[j]? = some (blockO kb b (.ref e))) (he : st[e]? = some (enterO (tupS act) o)) (hb : st[kb]? = some (.ins "Switchboard" [("now", now0)])) :
    mf_Block_exit [.ref j] st = .ok .non ((st.set kb (boardO act)).set j (blockO kb b o)) := by
  have hne : j ≠ kb := fun e => by
    rw [e, hb] at hj
    have hj := Option.some.inj hj
    unfold blockO at hj
    rw [MO.ins.injEq] at hj
    exact absurd hj.1 (by decide)
  have hne2 : e ≠ kb := fun e => by
    rw [e, hb] at he
    have he := Option.some.inj he
    unfold enterO at he
    rw [MO.ins.injEq] at he
    exact absurd he.1 (by decide)
  have l1 := get_lt hj
  have l2 := get_lt hb
  obtain ⟨st1, e1, h1, h2⟩ : ∃ st1 : Store, st1 = st.set kb (.ins "Switchboard" [("now", tupS act)]) ∧ st1[j]? = some (blockO kb b (.ref e)) ∧ st1[e]? = some (enterO (tupS act) o) := by
    refine ⟨_, rfl, ?_, ?_⟩
    · rw [List.getElem?_set_ne (Ne.symm hne)]; exact hj
    · rw [List.getElem?_set_ne (Ne.symm hne2)]; exact he
  apply of_run
  rw [mf_Block_exit, run_mfn]
  simp [mb_Block_exit, hj, hb, he, n_board_way, n_board_layer, n_board_last, n_way_board, n_way_layer, n_way_last, n_layer_board, n_layer_way, n_layer_last, n_last_board, n_last_way, n_last_layer, look_ne, n_before_outer, n_outer_before, put3, blockO, enterO, boardO]
  rw [← e1]
  simp only [h1, h2, blockO, enterO, kIns_ins]
  simp [h1, h2, n_board_way, n_board_layer, n_board_last, n_way_board, n_way_layer, n_way_last, n_layer_board, n_layer_way, n_layer_last, n_last_board, n_last_way, n_last_layer, look_ne, n_before_outer, n_outer_before, put3, blockO, enterO]
theorem kIns_block {st : Store} {k : Res (Nat × String × List (Str × D)) → Prop} {i kb : Nat} {b : Blk} {l : D} : kIns st k i (some (blockO kb b l)) = k (.ok (i, "Block", [("board", .ref kb), ("way", .str (onB b.1)), ("layer", .str b.2), ("last", l)]) st) := rfl
theorem kIns_board {st : Store} {k : Res (Nat × String × List (Str × D)) → Prop} {i : Nat} {act : List Str} : kIns st k i (some (boardO act)) = k (.ok (i, "Switchboard", [("now", tupS act)]) st) := rfl
/-- what a deed comes to -/
abbrev Out := Except (String × D) D
def Out.res (o : Out) (st : Store) : Res D := match o with
  | .ok d => .ok d st
  | .error e => .err e.1 e.2 st
theorem within_spec (tab : FnTab) (kb : Nat) (c : String) (js : List Nat) (mf : List Nat → List D → M D) (o : Out) (ht : tab.lookup c = some mf) : ∀ (bs : List Blk) (n : Nat), bs.length < n → bs.length ≤ 1000 → ∀ (act : List Str) (st : Store), st[kb]? = some (boardO act) → Oks act → OksB bs → act.length + bs.length ≤ 900000 →
    (∀ st1 : Store, st1[kb]? = some (boardO (aftB act bs)) → (∀ (k : Nat) (o : MO), k ≠ kb → st[k]? = some o → st1[k]? = some o) → ∃ st2, mf js [] st1 = o.res st2 ∧ Ext st1 st2) →
    ∃ st', mf_within tab n (.ref kb :: .fn c js :: bs.map blkD) st = o.res st' ∧ Ext st st'
  | [], n, hn, _, act, st, hb, ha, _, _, hd => by
    obtain ⟨m, rfl⟩ : ∃ m, n = m + 1 := ⟨n - 1, by simp at hn; omega⟩
    obtain ⟨st2, h1, h2⟩ := hd st hb fun _ _ _ e => e
    refine ⟨st2, ?_, h2⟩
    apply of_run
    rw [mf_within, run_mfnS]
    simp [run_mfn, mb_within, eqF_int, ht]
    rw [h1]
    cases o <;> simp [Out.res]
  | b :: bs, n, hn, hlen, act, st, hb, ha, hbs, hl, hd => by
    obtain ⟨m, rfl⟩ : ∃ m, n = m + 1 := ⟨n - 1, by simp at hn; omega⟩
    have hb2 : Ok b.2 := hbs b List.mem_cons_self
    have hbs2 : OksB bs := fun c hc => hbs c (List.mem_cons_of_mem _ hc)
    rw [List.length_cons] at hn hlen hl
    have bl := block_init st kb b
    -- the block is entered
    have hj : (st ++ [blockO kb b .non])[st.length]? = some (blockO kb b .non) := by simp
    have en := enter_spec hj (get_app hb) ha hb2 (by omega)
    obtain ⟨st2, e2, h2j, h2e, h2b, h2o⟩ : ∃ st2 : Store, st2 = (((st ++ [blockO kb b .non] ++ [enterO (tupS act) .non]).set st.length (blockO kb b (.ref (st ++ [blockO kb b .non]).length))).set kb (boardO (swB act b.1 b.2))) ∧
        st2[st.length]? = some (blockO kb b (.ref (st.length + 1))) ∧ st2[st.length + 1]? = some (enterO (tupS act) .non) ∧ st2[kb]? = some (boardO (swB act b.1 b.2)) ∧ ∀ (k : Nat) (o : MO), k ≠ kb → st[k]? = some o → st2[k]? = some o := by
      have lk := get_lt hb
      refine ⟨_, rfl, ?_, ?_, ?_, fun k o hk e => ?_⟩
      · rw [List.getElem?_set_ne (by omega), List.getElem?_set_self (by simp)]; simp
      · rw [List.getElem?_set_ne (by omega), List.getElem?_set_ne (by omega)]; simp
      · rw [List.getElem?_set_self (by simp; omega)]
      · have := get_lt e
        rw [List.getElem?_set_ne (Ne.symm hk), List.getElem?_set_ne (by omega)]
        exact get_app (get_app e)
    rw [← e2] at en
    -- the rest runs inside
    obtain ⟨st3, h3, x3⟩ := within_spec tab kb c js mf o ht bs m (by omega) (by omega) (swB act b.1 b.2) st2 h2b (swB_ok ha hb2 b.1) hbs2 (by have := swB_len (act := act) (l := b.2) b.1; omega) fun st1 q1 q2 => hd st1 q1 fun k o hk e => q2 k o hk (h2o k o hk e)
    have ex := exit_spec (b := b) (act := act) (o := .non) (x3 _ _ rfl h2j) (x3 _ _ rfl h2e) (x3 _ _ rfl h2b)
    refine ⟨(st3.set kb (boardO act)).set st.length (blockO kb b .non), ?_, ?_⟩
    · apply of_run
      rw [mf_within, run_mfnS]
      simp [run_mfn, mb_within, eqF_int, ht]
      rw [if_pos (by omega), if_neg (by omega), if_pos (by omega)]
      simp [blkD, bl]
      simp [kIns_block, en, h2b, kIns_board, look_ne n_within_now, Out.res]
      rw [h3]
      cases o with
      | ok d => simp [Out.res, kExit_rt ex]
      | error e => simp [Out.res, kExit_err ex]
    · have lk := get_lt hb
      have g1 : kb < st3.length := get_lt (x3 _ _ rfl h2b)
      have g2 : st.length < st3.length := get_lt (x3 _ _ rfl h2j)
      intro k o hn e
      have := get_lt e
      rw [List.getElem?_set_ne (by omega)]
      by_cases hk : k = kb
      · subst hk
        rw [List.getElem?_set_self g1, ← e, hb]
      · rw [List.getElem?_set_ne (Ne.symm hk)]
        exact x3 _ _ hn (h2o k o hk e)
theorem wwithin_spec (tab : FnTab) {kb : Nat} {c : String} {js : List Nat} {mf : List Nat → List D → M D} {o : Out} (ht : tab.lookup c = some mf) {bs : List Blk} (hn : bs.length ≤ 4) {act : List Str} {st : Store} (hb : st[kb]? = some (boardO act)) (ha : Oks act) (hbs : OksB bs) (hl : act.length ≤ 1000)
    (hd : ∀ st1 : Store, st1[kb]? = some (boardO (aftB act bs)) → (∀ (k : Nat) (o : MO), k ≠ kb → st[k]? = some o → st1[k]? = some o) → ∃ st2, mf js [] st1 = o.res st2 ∧ Ext st1 st2) :
    ∃ st', mf_wwithin tab [.ref kb, .fn c js, .lst (bs.map blkD)] st = o.res st' ∧ Ext st st' := by
  obtain ⟨st', h1, h2⟩ := within_spec tab kb c js mf o ht bs 5 (by omega) (by omega) act st hb ha hbs (by omega) hd
  refine ⟨st', ?_, h2⟩
  apply of_run
  rw [mf_wwithin, run_mfn]
  match bs, hn with
  | [], _ => 
    simp [mb_wwithin, eqF_int, hb, kIns_board, look_ne n_within_now] at h1 ⊢
    rw [h1]
    cases o <;> simp [Out.res]
  | [a], _ => 
    simp [mb_wwithin, eqF_int, hb, kIns_board, look_ne n_within_now] at h1 ⊢
    rw [h1]
    cases o <;> simp [Out.res]
  | [a, b], _ => 
    simp [mb_wwithin, eqF_int, hb, kIns_board, look_ne n_within_now] at h1 ⊢
    rw [h1]
    cases o <;> simp [Out.res]
  | [a, b, c], _ => 
    simp [mb_wwithin, eqF_int, hb, kIns_board, look_ne n_within_now] at h1 ⊢
    rw [h1]
    cases o <;> simp [Out.res]
  | [a, b, c, d], _ => 
    simp [mb_wwithin, eqF_int, hb, kIns_board, look_ne n_within_now] at h1 ⊢
    rw [h1]
    cases o <;> simp [Out.res]
/-! calls from frames with captured cells -/
theorem back_ext {st st' : Store} {f : MO → MO} (hf : ∀ o : MO, o.tr = true → f o = o) (hg : ∀ o : MO, (f o).nap = f o) (x : Ext (st.map f) st') (k : Nat) (o : MO) (e : st[k]? = some o) : (M3.back st st')[k]? = some o := by
  have e1 : (st.map f)[k]? = some (f o) := by rw [List.getElem?_map, e]; rfl
  have e2 := x k _ (hg o) e1
  rw [back_get, e2, Option.map_some, e]
  show some (o.pick (f o)) = some o
  unfold MO.pick
  split
  · rename_i h
    rw [hf o h]
    unfold MO.cut
    rw [if_pos h]
  · rfl
theorem nap_nap (o : MO) : o.nap.nap = o.nap := by cases o <;> rfl
theorem nap_of_tr (o : MO) (h : o.tr = true) : o.nap = o := by cases o <;> first | rfl | cases h
theorem lent_nap (u : Sl3) (o : MO) : (o.lent u).nap = o.lent u := by
  cases o with
  | slp i => unfold MO.lent; dsimp only; split <;> rfl
  | _ => rfl
theorem lent_of_tr (u : Sl3) (o : MO) (h : o.tr = true) : o.lent u = o := by cases o <;> first | rfl | cases h
theorem get_nap {st : Store} {k : Nat} {o : MO} (h : st[k]? = some o) (hn : o.nap = o) : (st.map MO.nap)[k]? = some o := by
  rw [List.getElem?_map, h, Option.map_some, hn]
theorem get_lent {u : Sl3} {st : Store} {k : Nat} {o : MO} (h : st[k]? = some o) (hn : o.lent u = o) : (st.map (MO.lent u))[k]? = some o := by
  rw [List.getElem?_map, h, Option.map_some, hn]
theorem after_spec {bs : List Blk} {act : List Str} (ha : Oks act) (hbs : OksB bs) (hl : act.length + bs.length ≤ 900000) (st : Store) : mf_w_after [tupS act, .lst (bs.map blkD)] st = .ok (tupS (aftB act bs)) st := by
  apply of_run
  rw [mf_w_after, run_mfn]
  simp [mb_w_after]
  refine forL_run (fun i u st' => st' = st ∧ ∃ x y z : Option W, u = [some (W.val (tupS (aftB act (bs.take i)))), some (W.val (.lst (bs.map blkD))), x, y, z]) ⟨rfl, none, none, none, rfl⟩ ?_ ?_
  · rintro i d u st' hd ⟨rfl, x, y, z, rfl⟩
    rw [List.getElem?_map] at hd
    obtain ⟨b, eb, rfl⟩ := Option.map_eq_some_iff.mp hd
    have hi := (List.getElem?_eq_some_iff.mp eb).1
    have ok : Ok b.2 := hbs b (List.mem_of_getElem? eb)
    have oks : Oks (aftB act (bs.take i)) := aftB_ok ha fun c hc => hbs c (List.mem_of_mem_take hc)
    have len : (aftB act (bs.take i)).length ≤ 900000 := by
      have := aftB_len (bs := bs.take i) (act := act)
      rw [List.length_take] at this
      omega
    have step : aftB act (bs.take (i + 1)) = swB (aftB act (bs.take i)) b.1 b.2 := by
      have h := List.take_succ (l := bs) (i := i)
      rw [h, eb]
      unfold aftB
      rw [List.foldl_append]
      rfl
    refine ⟨_, rfl, ?_⟩
    rw [step]
    generalize aftB act (bs.take i) = a at oks len ⊢
    have lf := List.length_filter_le (fun n => !decide (n = b.2)) a
    simp [tupS]
    refine lc_strs (ws := a) (fun n => !decide (n = b.2)) (fun n => .str n) (by omega) (fun n hn => ⟨_, rfl, ?_, fun _ => ?_⟩) ?_
    · simp [blkD, eqF_str true (oks n hn) ok]
    · simp
    simp [blkD, onB_eq]
    unfold swB
    cases b.1 with
    | true => simp; omega
    | false => simp
  · rintro u st' ⟨rfl, x, y, z, rfl⟩
    simp
/-- what the law draws -/
def drawB (ws : List Str) (d : Int) : Blk := (!decide (d % 3 = 2), ws.getD ((d / 3).toNat % ws.length) "")
theorem drawB_ok {ws : List Str} (h : Oks ws) (hn : ws ≠ []) (d : Int) : Ok (drawB ws d).2 := by
  have l : 0 < ws.length := List.length_pos_iff.mpr hn
  unfold drawB
  rw [List.getD_eq_getElem?_getD, List.getElem?_eq_getElem (Nat.mod_lt _ l)]
  exact h _ (List.getElem_mem _)
theorem blocks_spec {ds : List Int} {ws : List Str} (hd : ∀ d ∈ ds, 0 ≤ d ∧ d < 5040) (hn : ws ≠ []) (hw : ws.length ≤ 1000) (hl : ds.length ≤ 1000) (st : Store) : mf_w_blocks [.lst (ds.map .int), .lst (ws.map .str)] st = .ok (.lst ((ds.map (drawB ws)).map blkD)) st := by
  have l : 0 < ws.length := List.length_pos_iff.mpr hn
  apply of_run
  rw [mf_w_blocks, run_mfn]
  simp [mb_w_blocks]
  refine lcA_run (xs := ds) (fun d => .int d) (fun d => blkD (drawB ws d)) (by omega) (fun d hm => ⟨_, rfl, ?_⟩) ?_
  · obtain ⟨h1, h2⟩ := hd d hm
    obtain ⟨m, e3, hm, lt⟩ : ∃ m : Nat, d / 3 % (ws.length : Int) = (m : Int) ∧ m = (d / 3).toNat % ws.length ∧ m < ws.length :=
      ⟨_, by rw [Int.natCast_emod, Int.toNat_of_nonneg (by omega)], rfl, Nat.mod_lt _ l⟩
    have ea : atI (ws.map D.str) (m : Int) = some (.str (ws.getD m "")) := by
      rw [atI_int _ (by omega), Int.toNat_natCast, List.getElem?_map, List.getD_eq_getElem?_getD, List.getElem?_eq_getElem lt]
      rfl
    have h0 : d % 3 = 0 ∨ d % 3 = 1 ∨ d % 3 = 2 := by omega
    rcases h0 with h0 | h0 | h0 <;> simp [e3, h0, ea, l, blkD, drawB, hm.symm, onB]
  · simp [Function.comp_def]
/-! data that is equal to itself -/
structure Sam (n : Nat) (d : D) (p : PyData) : Prop where
  py : d.py = some p
  lay : p.canLay0 = true
  dep : p.depth ≤ n
  eqv : PyData.eqv p p = true
theorem sam_tupS {a : List Str} (h : Oks a) : Sam 1 (tupS a) (.tuple (a.map .str)) :=
  ⟨by rw [tupS, D.py, pys_strs]; rfl, by rw [PyData.canLay0, canLay_strs h], by rw [PyData.depth, depth_strs]; omega, by rw [PyData.eqv, eqv_strs]; simp⟩
theorem sam_lst2 {n : Nat} {d1 d2 : D} {p1 p2 : PyData} (h1 : Sam n d1 p1) (h2 : Sam n d2 p2) : Sam (n + 1) (.lst [d1, d2]) (.list [p1, p2]) :=
  ⟨by rw [D.py, D.pys, h1.py, D.pys, h2.py]; rfl, by rw [PyData.canLay0, PyData.canLayAll0, h1.lay, PyData.canLayAll0, h2.lay]; rfl,
    by have := h1.dep; have := h2.dep; rw [PyData.depth, PyData.depthAll, PyData.depthAll, PyData.depthAll]; omega, by rw [PyData.eqv, PyData.eqvAll, h1.eqv, PyData.eqvAll, h2.eqv]; rfl⟩
theorem Sam.up {m n : Nat} {d : D} {p : PyData} (h : Sam m d p) (l : m ≤ n) : Sam n d p := ⟨h.py, h.lay, Nat.le_trans h.dep l, h.eqv⟩
theorem Sam.eqF {n : Nat} {d : D} {p : PyData} (h : Sam n d p) (hn : n ≤ 10) (neg : Bool) : M3.eqF neg (.val d) (.val d) = some (.val (.bl (!neg))) := by
  have s : SeqAt.shaped p = true := by
    have := h.dep
    unfold SeqAt.shaped
    rw [h.lay]
    simp
    omega
  unfold M3.eqF
  simp only [W_rd_val, D.eqv?, h.py, s, and_self, if_true, Option.map_some, h.eqv]
  cases neg <;> rfl
theorem eqF_tupS (neg : Bool) {a : List Str} (h : Oks a) : eqF neg (.val (tupS a)) (.val (tupS a)) = some (.val (.bl (!neg))) := (sam_tupS h).eqF (by decide) neg
theorem run_at {α : Type} {r x : Res α} (e : r = x) {k : Res α → Prop} (h : M3.run x k) : M3.run r k := e ▸ h
end My
namespace My
open PySem L2 M3
def le_lam_law_0 : EM := (eF (fLst (aCons (eBin (isNF false) (eMk3 "Block" 3 [] mf_Block_init (aCons (eVar 1) (aCons (eBin ixF (eBin ixF (eVar 0) (eC (.int 0))) (eC (.int 0))) (aCons (eBin ixF (eBin ixF (eVar 0) (eC (.int 0))) (eC (.int 1))) aNil)))) (eC .non)) (aCons (eProp "Switchboard" mf_Switchboard_active (eVar 1)) aNil))))
def lf_lam_law_0 : List Nat → List D → M D := capd (mfnE 2 le_lam_law_0)
def mb_w_failing : SM := (sSeq (sIf (tOf (eBin (eqF false) (eVar 0) (eC (.int 0)))) (sRetV (eGetX (eVar 1) (eVar 2))) sNext)
  (sRetV (eFdX (eB lenF (aCons (eVar 2) aNil)) (eB lenDF (aCons (eVar 1) aNil)))))
def mf_w_failing : List D → M D := mfn 3 mb_w_failing
def le_lam_w_left_by_error_0 : EM := (eCall 3 mf_w_failing (aCons (eVar 1) (aCons (eC (.dict [] [])) (aCons (eVar 0) aNil))))
def lf_lam_w_left_by_error_0 : List Nat → List D → M D := capd (mfnE 2 le_lam_w_left_by_error_0)
def tab_0 : FnTab := [("lam_w_left_by_error_0", lf_lam_w_left_by_error_0)]
def mb_Switchboard_within_0 (mr : List D → M D) : SM := (sSeq (sIf (tOf (eBin (eqF false) (eB lenF (aCons (eVar 2) aNil)) (eC (.int 0)))) (sRetV (eCallV 0 tab_0 1 aNil)) sNext)
  (sSeq (sAsgStar (eVar 2) (gTup3 2 (gCons3 (gName3 3) (gCons3 (gName3 4) gNil3))) 5)
  (sWith "Block" mf_Block_enter mf_Block_exit (eMk3 "Block" 3 [] mf_Block_init (aCons (eVar 0) (aCons (eVar 3) (aCons (eVar 4) aNil)))) (sRetV (eMethRs (fun _ mf => mf) "within" [("Switchboard", mr)] (eVar 0) (eVar 1) (eVar 5))))))
def mf_Switchboard_within_0 : Nat → List D → M D
  | 0 => fun _ _ => .bad
  | n + 1 => mfnS 6 2 (mb_Switchboard_within_0 (mf_Switchboard_within_0 n))
def mb_w_within_0 : SM := (sSeq (sIf (tOf (eBin (eqF false) (eB lenF (aCons (eVar 2) aNil)) (eC (.int 0)))) (sRetV (eMethRp "within" [("Switchboard", mf_Switchboard_within_0 5)] (eVar 0) (aCons (eVar 1) aNil))) sNext)
  (sSeq (sIf (tOf (eBin (eqF false) (eB lenF (aCons (eVar 2) aNil)) (eC (.int 1)))) (sRetV (eMethRp "within" [("Switchboard", mf_Switchboard_within_0 5)] (eVar 0) (aCons (eVar 1) (aCons (eBin ixF (eVar 2) (eC (.int 0))) aNil)))) sNext)
  (sSeq (sIf (tOf (eBin (eqF false) (eB lenF (aCons (eVar 2) aNil)) (eC (.int 2)))) (sRetV (eMethRp "within" [("Switchboard", mf_Switchboard_within_0 5)] (eVar 0) (aCons (eVar 1) (aCons (eBin ixF (eVar 2) (eC (.int 0))) (aCons (eBin ixF (eVar 2) (eC (.int 1))) aNil))))) sNext)
  (sSeq (sIf (tOf (eBin (eqF false) (eB lenF (aCons (eVar 2) aNil)) (eC (.int 3)))) (sRetV (eMethRp "within" [("Switchboard", mf_Switchboard_within_0 5)] (eVar 0) (aCons (eVar 1) (aCons (eBin ixF (eVar 2) (eC (.int 0))) (aCons (eBin ixF (eVar 2) (eC (.int 1))) (aCons (eBin ixF (eVar 2) (eC (.int 2))) aNil)))))) sNext)
  (sRetV (eMethRp "within" [("Switchboard", mf_Switchboard_within_0 5)] (eVar 0) (aCons (eVar 1) (aCons (eBin ixF (eVar 2) (eC (.int 0))) (aCons (eBin ixF (eVar 2) (eC (.int 1))) (aCons (eBin ixF (eVar 2) (eC (.int 2))) (aCons (eBin ixF (eVar 2) (eC (.int 3))) aNil)))))))))))
def mf_w_within_0 : List D → M D := mfn 3 mb_w_within_0
def mb_w_left_by_error : SM := (sSeq (sTry2 (subT [("KeyError", true), ("ZeroDivisionError", false)]) (sRetV (eF (fLst (aCons (eC (.int 0)) (aCons (eProp "Switchboard" (nap mf_Switchboard_active) (eVar 0)) aNil))))) (subT [("KeyError", false), ("ZeroDivisionError", true)]) (sRetV (eF (fLst (aCons (eC (.int 1)) (aCons (eProp "Switchboard" (nap mf_Switchboard_active) (eVar 0)) aNil))))) (sDrop (eCallR 3 mf_w_within_0 (aCons (eVar 0) (aCons (eLam "lam_w_left_by_error_0" [2, 1]) (aCons (eVar 3) aNil))))))
  (sRetV (eF (fLst aNil))))
def mf_w_left_by_error : List D → M D := mfnC 4 mb_w_left_by_error
def le_lam_law_1 : EM := (eF (fLst (aCons (eCall 4 mf_w_left_by_error (aCons (eVar 3) (aCons (eVar 0) (aCons (eBin ixF (eVar 1) (eC (.int 0))) (aCons (eVar 2) aNil))))) (aCons (eProp "Switchboard" mf_Switchboard_active (eVar 3)) aNil))))
def lf_lam_law_1 : List Nat → List D → M D := capd (mfnE 4 le_lam_law_1)
def le_lam_law_2 : EM := (eF (fLst (aCons (eProp "Switchboard" mf_Switchboard_active (eVar 1)) (aCons (eVar 0) aNil))))
def lf_lam_law_2 : List Nat → List D → M D := capd (mfnE 2 le_lam_law_2)
def le_lam_law_3 : EM := (eVar 0)
def lf_lam_law_3 : List Nat → List D → M D := capd (mfnE 1 le_lam_law_3)
def tab_1 : FnTab := [("lam_law_0", lf_lam_law_0), ("lam_law_1", lf_lam_law_1), ("lam_law_2", lf_lam_law_2), ("lam_law_3", lf_lam_law_3)]
def mb_Switchboard_within_1 (mr : List D → M D) : SM := (sSeq (sIf (tOf (eBin (eqF false) (eB lenF (aCons (eVar 2) aNil)) (eC (.int 0)))) (sRetV (eCallV 0 tab_1 1 aNil)) sNext)
  (sSeq (sAsgStar (eVar 2) (gTup3 2 (gCons3 (gName3 3) (gCons3 (gName3 4) gNil3))) 5)
  (sWith "Block" mf_Block_enter mf_Block_exit (eMk3 "Block" 3 [] mf_Block_init (aCons (eVar 0) (aCons (eVar 3) (aCons (eVar 4) aNil)))) (sRetV (eMethRs (fun _ mf => mf) "within" [("Switchboard", mr)] (eVar 0) (eVar 1) (eVar 5))))))
def mf_Switchboard_within_1 : Nat → List D → M D
  | 0 => fun _ _ => .bad
  | n + 1 => mfnS 6 2 (mb_Switchboard_within_1 (mf_Switchboard_within_1 n))
def mb_w_within_1 : SM := (sSeq (sIf (tOf (eBin (eqF false) (eB lenF (aCons (eVar 2) aNil)) (eC (.int 0)))) (sRetV (eMethRp "within" [("Switchboard", mf_Switchboard_within_1 5)] (eVar 0) (aCons (eVar 1) aNil))) sNext)
  (sSeq (sIf (tOf (eBin (eqF false) (eB lenF (aCons (eVar 2) aNil)) (eC (.int 1)))) (sRetV (eMethRp "within" [("Switchboard", mf_Switchboard_within_1 5)] (eVar 0) (aCons (eVar 1) (aCons (eBin ixF (eVar 2) (eC (.int 0))) aNil)))) sNext)
  (sSeq (sIf (tOf (eBin (eqF false) (eB lenF (aCons (eVar 2) aNil)) (eC (.int 2)))) (sRetV (eMethRp "within" [("Switchboard", mf_Switchboard_within_1 5)] (eVar 0) (aCons (eVar 1) (aCons (eBin ixF (eVar 2) (eC (.int 0))) (aCons (eBin ixF (eVar 2) (eC (.int 1))) aNil))))) sNext)
  (sSeq (sIf (tOf (eBin (eqF false) (eB lenF (aCons (eVar 2) aNil)) (eC (.int 3)))) (sRetV (eMethRp "within" [("Switchboard", mf_Switchboard_within_1 5)] (eVar 0) (aCons (eVar 1) (aCons (eBin ixF (eVar 2) (eC (.int 0))) (aCons (eBin ixF (eVar 2) (eC (.int 1))) (aCons (eBin ixF (eVar 2) (eC (.int 2))) aNil)))))) sNext)
  (sRetV (eMethRp "within" [("Switchboard", mf_Switchboard_within_1 5)] (eVar 0) (aCons (eVar 1) (aCons (eBin ixF (eVar 2) (eC (.int 0))) (aCons (eBin ixF (eVar 2) (eC (.int 1))) (aCons (eBin ixF (eVar 2) (eC (.int 2))) (aCons (eBin ixF (eVar 2) (eC (.int 3))) aNil)))))))))))
def mf_w_within_1 : List D → M D := mfn 3 mb_w_within_1
def mb_law : SM := (sSeq (sSet 1 (eCall 3 (nap mf_w_digits) (aCons (eCall 2 (nap mf_w_cell_at) (aCons (eVar 0) (aCons (eC (.int 0)) aNil))) (aCons (eC (.int 3)) (aCons (eC (.int 13)) aNil)))))
  (sSeq (sSet 2 (eCall 2 (nap mf_w_spelled) (aCons (eBin ixF (eVar 1) (eC (.int 0))) (aCons (eC (.int 4)) aNil))))
  (sSeq (sSet 3 (eF (fLst (aCons (eMk3 "Switchboard" 0 [] (nap mf_Switchboard_init) aNil) (aCons (eMk3 "Switchboard" 0 [] (nap mf_Switchboard_init) aNil) aNil)))))
  (sSeq (sSet 4 (eCall 2 (nap mf_w_blocks) (aCons (eSlA (eVar 1) (pSome (eC (.int 2))) (pSome (eBin addF (eC (.int 2)) (eBin modF (eB intCF (aCons (eBin ixF (eVar 1) (eC (.int 1))) aNil)) (eC (.int 5)))))) (aCons (eVar 2) aNil))))
  (sSeq (sSet 5 (eCall 2 (nap mf_w_blocks) (aCons (eSlA (eVar 1) (pSome (eC (.int 7))) (pSome (eBin addF (eC (.int 8)) (eBin modF (eBin divF (eB intCF (aCons (eBin ixF (eVar 1) (eC (.int 1))) aNil)) (eC (.int 5))) (eC (.int 4)))))) (aCons (eVar 2) aNil))))
  (sSeq (sSet 6 (eCall 2 (nap mf_w_after) (aCons (eTup aNil) (aCons (eVar 4) aNil))))
  (sSeq (sFor (iRange1 (aCons (eC (.int 2)) aNil)) (gName3 7) (sSeq (sSet 8 (eBin ixF (eVar 3) (eBin modF (eBin addF (eVar 7) (eB intCF (aCons (eBin ixF (eVar 1) (eC (.int 12))) aNil))) (eC (.int 2)))))
  (sSeq (sSet 9 (eBin modF (eBin divF (eB intCF (aCons (eBin ixF (eVar 1) (eC (.int 12))) aNil)) (eBin ixF (eF (fLst (aCons (eC (.int 2)) (aCons (eC (.int 4)) aNil)))) (eVar 7))) (eC (.int 2))))
  (sSeq (sSet 10 (eCallR 3 mf_w_within_1 (aCons (eVar 8) (aCons (eLam "lam_law_0" [5, 8]) (aCons (eVar 4) aNil)))))
  (sSeq (sIf (tOr3 (tOf (eBin (eqF true) (eVar 10) (eF (fLst (aCons (eC (.bl false)) (aCons (eVar 6) aNil)))))) (tOf (eBin (eqF true) (eProp "Switchboard" (nap mf_Switchboard_active) (eVar 8)) (eTup aNil)))) (sRetV (eC (.bl false))) sNext)
  (sSeq (sSet 11 (eCallR 3 mf_w_within_1 (aCons (eVar 8) (aCons (eLam "lam_law_1" [9, 2, 5, 8]) (aCons (eVar 4) aNil)))))
  (sSeq (sIf (tOr3 (tOf (eBin (eqF true) (eVar 11) (eF (fLst (aCons (eF (fLst (aCons (eVar 9) (aCons (eVar 6) aNil)))) (aCons (eVar 6) aNil)))))) (tOf (eBin (eqF true) (eProp "Switchboard" (nap mf_Switchboard_active) (eVar 8)) (eTup aNil)))) (sRetV (eC (.bl false))) sNext)
  (sSeq (sIf (tOf (eBin (eqF true) (eCall 4 (nap mf_w_left_by_error) (aCons (eVar 8) (aCons (eBin subF (eC (.int 1)) (eVar 9)) (aCons (eBin ixF (eVar 2) (eC (.int 1))) (aCons (eVar 4) aNil))))) (eF (fLst (aCons (eBin subF (eC (.int 1)) (eVar 9)) (aCons (eTup aNil) aNil)))))) (sRetV (eC (.bl false))) sNext)
  (sSeq (sIf (tOf (eBin (eqF true) (eCallR 3 mf_w_within_1 (aCons (eVar 8) (aCons (eLam "lam_law_2" [7, 8]) (aCons (eVar 5) aNil)))) (eF (fLst (aCons (eCall 2 (nap mf_w_after) (aCons (eTup aNil) (aCons (eVar 5) aNil))) (aCons (eVar 7) aNil)))))) (sRetV (eC (.bl false))) sNext)
  (sFor (iSeq (eF (fLst (aCons (eC .non) (aCons (eC (.int 0)) (aCons (eC (.str "")) (aCons (eTup aNil) (aCons (eF (fLst (aCons (eBin ixF (eVar 2) (eC (.int 0))) aNil))) aNil)))))))) (gName3 12) (sIf (tOr3 (tOf (eBin (eqF true) (eCallR 3 mf_w_within_1 (aCons (eVar 8) (aCons (eLam "lam_law_3" [12]) (aCons (eVar 5) aNil)))) (eVar 12))) (tOf (eBin (eqF true) (eProp "Switchboard" (nap mf_Switchboard_active) (eVar 8)) (eTup aNil)))) (sRetV (eC (.bl false))) sNext)))))))))))
  (sRetV (eAnd (eBin (eqF false) (eProp "Switchboard" (nap mf_Switchboard_active) (eBin ixF (eVar 3) (eC (.int 0)))) (eTup aNil)) (eBin (eqF false) (eProp "Switchboard" (nap mf_Switchboard_active) (eBin ixF (eVar 3) (eC (.int 1)))) (eTup aNil)))))))))))
def mf_law : List D → M D := mfnC 13 mb_law
end My
namespace My
open PySem L2 M3
/-! law k57: blocks end after any error -/
theorem sw0_is : ∀ n, mf_Switchboard_within_0 n = mf_within tab_0 n
  | 0 => rfl
  | n + 1 => by
    show mfnS 6 2 (mb_Switchboard_within_0 (mf_Switchboard_within_0 n)) = _
    rw [sw0_is n]
    rfl
theorem sw1_is : ∀ n, mf_Switchboard_within_1 n = mf_within tab_1 n
  | 0 => rfl
  | n + 1 => by
    show mfnS 6 2 (mb_Switchboard_within_1 (mf_Switchboard_within_1 n)) = _
    rw [sw1_is n]
    rfl
theorem w0_is : mf_w_within_0 = mf_wwithin tab_0 := by
  unfold mf_w_within_0 mb_w_within_0 mf_wwithin mb_wwithin
  rw [sw0_is]
theorem w1_is : mf_w_within_1 = mf_wwithin tab_1 := by
  unfold mf_w_within_1 mb_w_within_1 mf_wwithin mb_wwithin
  rw [sw1_is]
/-! a try with two clauses, run -/
def kTry2 (sub1 : String → Option Bool) (ms1 : SM) (sub2 : String → Option Bool) (ms2 : SM) (k : SRes → Prop) : SRes → Prop
  | .err c x u' st' => srun (match sub1 c with
    | some true => if noExn u' = true then sSuite none ms1 c x u' st' else .bad
    | some false => match sub2 c with
      | some true => if noExn u' = true then sSuite none ms2 c x u' st' else .bad
      | some false => .err c x u' st'
      | none => .bad
    | none => .bad) k
  | r => k r
section
variable {u : Sl3} {st : Store} {ks : SRes → Prop}
@[simp] theorem run_sTry2 (sub1 sub2) (ms1 ms2 mb : SM) : srun (sTry2 sub1 ms1 sub2 ms2 mb u st) ks = srun (mb u st) (kTry2 sub1 ms1 sub2 ms2 ks) := by
  unfold srun sTry2 kTry2
  cases mb u st <;> rfl
theorem kTry2_1 {sub1 sub2} {ms1 ms2 : SM} {c x} (h : sub1 c = some true) (n : noExn u = true) : kTry2 sub1 ms1 sub2 ms2 ks (.err c x u st) = srun (sSuite none ms1 c x u st) ks := by
  unfold kTry2; simp only [h, n, if_true]
theorem kTry2_2 {sub1 sub2} {ms1 ms2 : SM} {c x} (h : sub1 c = some false) (h2 : sub2 c = some true) (n : noExn u = true) : kTry2 sub1 ms1 sub2 ms2 ks (.err c x u st) = srun (sSuite none ms2 c x u st) ks := by
  unfold kTry2; simp only [h, h2, n, if_true]
end
@[simp] theorem run_eCallRp {kw : Res W → Prop} {u : Sl3} {st : Store} {ma : AM} (f : List D → M D) : M3.run (eCallRp f ma u st) kw = M3.run (ma u st) (kBind (fun ws => M.bind (M.of (asDs ws)) fun ds => M.bind (f ds) fun d => M.pure (.val d)) kw) := run_bind _ _
/-! the two errors -/
def errN (way : Nat) : String := if way = 0 then "KeyError" else "ZeroDivisionError"
theorem failing_spec {way : Nat} (hw : way < 2) {w : Str} (hl : w.length ≤ 1000) (st : Store) : mf_w_failing [.int way, .dict [] [], .str w] st = .err (errN way) .non st := by
  suffices h : M3.run (mf_w_failing [.int way, .dict [] [], .str w] st) (fun r => r = .err (errN way) .non st) from h
  rw [mf_w_failing, run_mfn]
  rcases (show way = 0 ∨ way = 1 by omega) with rfl | rfl
  · have g : dgetF (.dict [] []) (.str w) = some none := rfl
    simp [mb_w_failing, eqF_int, keyX, W.dic, g]
    rfl
  · simp [mb_w_failing, eqF_int, lenF, lenDF, fdX]
    exact ⟨by omega, rfl⟩
theorem fail_spec {st : Store} {k1 k2 : Nat} {way : Nat} (hw : way < 2) {w : Str} (hl : w.length ≤ 1000) (h1 : st[k1]? = some (.kc (.str w))) (h2 : st[k2]? = some (.kc (.int way))) : lf_lam_w_left_by_error_0 [k1, k2] [] st = .err (errN way) .non st := by
  suffices h : M3.run (lf_lam_w_left_by_error_0 [k1, k2] [] st) (fun r => r = .err (errN way) .non st) from h
  have hc : capsS st [k1, k2] = some [.str w, .int way] := by simp [capsS, h1, h2]
  have f := failing_spec hw hl st
  rw [lf_lam_w_left_by_error_0, run_capd, run_capsM hc]
  simp [le_lam_w_left_by_error_0, f]
theorem sub_e1 {way : Nat} (hw : way = 0) : subT [("KeyError", true), ("ZeroDivisionError", false)] (errN way) = some true := by subst hw; rfl
theorem sub_e2 {way : Nat} (hw : way = 1) : subT [("KeyError", true), ("ZeroDivisionError", false)] (errN way) = some false ∧ subT [("KeyError", false), ("ZeroDivisionError", true)] (errN way) = some true := by subst hw; exact ⟨rfl, rfl⟩
/-- an error leaves the blocks -/
theorem left_spec {st : Store} {kb way : Nat} (hw : way < 2) {a1 : List Str} {w : Str} (hl : w.length ≤ 1000) {bs : List Blk} (hb : st[kb]? = some (boardO a1)) (ho : Oks a1) (hbs : OksB bs) (hn : bs.length ≤ 4) (hl1 : a1.length ≤ 1000) :
    ∃ st', mf_w_left_by_error [.ref kb, .int way, .str w, .lst (bs.map blkD)] st = .ok (.lst [.int way, tupS a1]) st' ∧ Ext st st' := by
  have lk := get_lt hb
  let u : Sl3 := [some (.val (.ref kb)), some (.val (.int way)), some (.val (.str w)), some (.val (.lst (bs.map blkD)))]
  let stL : Store := (st ++ [MO.slp 2, MO.slp 1]).map (MO.lent u)
  have hb' : stL[kb]? = some (boardO a1) := get_lent (get_app hb) rfl
  have k1 : stL[st.length]? = some (.kc (.str w)) := by
    show ((st ++ [MO.slp 2, MO.slp 1]).map (MO.lent u))[st.length]? = _
    rw [List.getElem?_map, List.getElem?_append_right (Nat.le_refl _), Nat.sub_self]
    rfl
  have k2 : stL[st.length + 1]? = some (.kc (.int way)) := by
    show ((st ++ [MO.slp 2, MO.slp 1]).map (MO.lent u))[st.length + 1]? = _
    rw [List.getElem?_map, List.getElem?_append_right (Nat.le_add_right _ _), Nat.add_sub_cancel_left]
    rfl
  obtain ⟨st2, e2, x2⟩ := wwithin_spec tab_0 (c := "lam_w_left_by_error_0") (js := [st.length, st.length + 1]) (mf := lf_lam_w_left_by_error_0) (o := .error (errN way, .non)) rfl hn hb' ho hbs hl1 fun st1 q1 q2 =>
    ⟨st1, fail_spec hw hl (q2 _ _ (by omega) k1) (q2 _ _ (by omega) k2), Ext.refl _⟩
  rw [← w0_is] at e2
  have x3 := back_ext (st := st ++ [MO.slp 2, MO.slp 1]) (lent_of_tr u) (lent_nap u) x2
  have hb3 := x3 kb _ (get_app hb)
  have e3 := active_spec (get_nap hb3 rfl)
  refine ⟨(M3.back (st ++ [MO.slp 2, MO.slp 1]) st2).map MO.nap, ?_, fun k o hn e => get_nap (x3 k o (get_app e)) hn⟩
  apply of_run
  rw [mf_w_left_by_error, run_mfnC, run_mfn]
  simp [-List.map_append, mb_w_left_by_error]
  refine run_at e2 ?_
  simp [-List.map_append, Out.res]
  rcases (show way = 0 ∨ way = 1 by omega) with q | q
  · rw [kTry2_1 (sub_e1 q) rfl]
    simp [-List.map_append, hb3, kIns_board]
    refine run_at e3 ?_
    simp [-List.map_append, back_self, q]
  · rw [kTry2_2 (sub_e2 q).1 (sub_e2 q).2 rfl]
    simp [-List.map_append, hb3, kIns_board]
    refine run_at e3 ?_
    simp [-List.map_append, back_self, q]
/-- the deeds -/
theorem deed0 {st : Store} {k1 k2 kb : Nat} {a1 : List Str} {b : Blk} {bs : List Blk} (h1 : st[k1]? = some (.kc (.lst ((b :: bs).map blkD)))) (h2 : st[k2]? = some (.kc (.ref kb))) (hb : st[kb]? = some (boardO a1)) :
    ∃ st', lf_lam_law_0 [k1, k2] [] st = .ok (.lst [.bl false, tupS a1]) st' ∧ Ext st st' := by
  have hc : capsS st [k1, k2] = some [.lst ((b :: bs).map blkD), .ref kb] := by simp [capsS, h1, h2]
  have bi := block_init st kb b
  have hb2 : (st ++ [blockO kb b .non])[kb]? = some (boardO a1) := get_app hb
  refine ⟨st ++ [blockO kb b .non], ?_, fun k o _ e => get_app e⟩
  apply of_run
  rw [lf_lam_law_0, run_capd, run_capsM hc]
  simp [le_lam_law_0, blkD]
  refine run_at bi ?_
  have isn : isNF false (.val (.ref st.length)) (.val .non) = some (.val (.bl false)) := rfl
  simp [hb2, kIns_board, isn]
  refine run_at (active_spec hb2) ?_
  simp
theorem deed1 {st : Store} {k1 k2 k3 k4 kb way : Nat} (hw : way < 2) {a1 ws : List Str} {w : Str} (hlw : w.length ≤ 1000) {bs : List Blk} (h1 : st[k1]? = some (.kc (.int way))) (h2 : st[k2]? = some (.kc (.lst ((w :: ws).map .str)))) (h3 : st[k3]? = some (.kc (.lst (bs.map blkD)))) (h4 : st[k4]? = some (.kc (.ref kb)))
    (hb : st[kb]? = some (boardO a1)) (ho : Oks a1) (hbs : OksB bs) (hn : bs.length ≤ 4) (hl : a1.length ≤ 1000) :
    ∃ st', lf_lam_law_1 [k1, k2, k3, k4] [] st = .ok (.lst [.lst [.int way, tupS a1], tupS a1]) st' ∧ Ext st st' := by
  obtain ⟨st', e, x⟩ := left_spec hw hlw hb ho hbs hn hl
  have hb2 := x kb _ rfl hb
  refine ⟨st', ?_, x⟩
  apply of_run
  have hc : capsS st [k1, k2, k3, k4] = some [.int way, .lst ((w :: ws).map .str), .lst (bs.map blkD), .ref kb] := by simp [capsS, h1, h2, h3, h4]
  rw [lf_lam_law_1, run_capd, run_capsM hc]
  simp [le_lam_law_1, e, hb2, kIns_board, active_spec hb2]
theorem deed2 {st : Store} {k1 k2 kb : Nat} {i : Int} {a1 : List Str} (h1 : st[k1]? = some (.kc (.int i))) (h2 : st[k2]? = some (.kc (.ref kb))) (hb : st[kb]? = some (boardO a1)) : lf_lam_law_2 [k1, k2] [] st = .ok (.lst [tupS a1, .int i]) st := by
  apply of_run
  have hc : capsS st [k1, k2] = some [.int i, .ref kb] := by simp [capsS, h1, h2]
  rw [lf_lam_law_2, run_capd, run_capsM hc]
  simp [le_lam_law_2, hb, kIns_board, active_spec hb]
theorem deed3 {st : Store} {k1 : Nat} {d : D} (h1 : st[k1]? = some (.kc d)) : lf_lam_law_3 [k1] [] st = .ok d st := by
  apply of_run
  have hc : capsS st [k1] = some [d] := by simp [capsS, h1]
  rw [lf_lam_law_3, run_capd, run_capsM hc]
  simp [le_lam_law_3]
end My
namespace My
open PySem L2 M3
/-! law k57: the law -/
theorem sam_lst1 {n : Nat} {d1 : D} {p1 : PyData} (h1 : Sam n d1 p1) : Sam (n + 1) (.lst [d1]) (.list [p1]) :=
  ⟨by rw [D.py, D.pys, h1.py]; rfl, by rw [PyData.canLay0, PyData.canLayAll0, h1.lay]; rfl,
    by have := h1.dep; rw [PyData.depth, PyData.depthAll, PyData.depthAll]; omega, by rw [PyData.eqv, PyData.eqvAll, h1.eqv]; rfl⟩
theorem sam_int (i : Int) : Sam 1 (.int i) (.int i) := ⟨rfl, by rw [PyData.canLay0], by rw [PyData.depth]; omega, by rw [PyData.eqv]; simp⟩
theorem sam_bl (b : Bool) : Sam 1 (.bl b) (.bool b) := ⟨rfl, by rw [PyData.canLay0], by rw [PyData.depth]; omega, by rw [PyData.eqv]; simp⟩
theorem sam_non : Sam 1 .non .none := ⟨rfl, by rw [PyData.canLay0], by rw [PyData.depth]; omega, by rw [PyData.eqv]⟩
theorem sam_str {x : Str} (h : Ok x) : Sam 1 (.str x) (.str x) := ⟨rfl, by rw [PyData.canLay0]; exact h, by rw [PyData.depth]; omega, by rw [PyData.eqv]; simp⟩
theorem cut_board (a : List Str) : (boardO a).cut = boardO a := rfl
theorem pick_board (a b : List Str) : (boardO a).pick (boardO b) = boardO b := rfl
theorem pick_ins (c : String) (fs : List (Str × D)) (b : List Str) : (MO.ins c fs).pick (boardO b) = boardO b := rfl
theorem nap_board (a : List Str) : (boardO a).nap = boardO a := rfl
set_option maxHeartbeats 8000000 in
theorem law_true (ns : List Int) (hl : ns.length ≤ 63) (hb : ∀ i ∈ ns, i.natAbs.log2 ≤ 1048576) : ∃ st, mf_law [.ro (ns.map .int)] [] = .ok (.bl true) st := by
  suffices h : M3.run (mf_law [.ro (ns.map .int)] []) (fun r => ∃ st, r = .ok (.bl true) st) from h
  obtain ⟨c0, ec0, bc0⟩ := cell_at_spec ns 0 (by omega) hb hl []
  obtain ⟨ds, eds, lds, hds⟩ := digits_spec c0 3 13 bc0 (by omega) (by omega) []
  have gd : ∀ i, i < 13 → ∃ d : Nat, ds[i]? = some (d : Int) ∧ d < 5040 := fun i hi => by
    have h1 : i < ds.length := by omega
    have := hds ds[i] (List.getElem_mem h1)
    exact ⟨ds[i].toNat, by rw [List.getElem?_eq_getElem h1]; congr 1; omega, by omega⟩
  obtain ⟨d0, g0, b0⟩ := gd 0 (by omega)
  obtain ⟨d1, g1, b1⟩ := gd 1 (by omega)
  obtain ⟨dz, gz, bz⟩ := gd 12 (by omega)
  have e2 : mf_w_spelled [.int d0, .int 4] [] = _ := spelled_spec d0 4 b0 (by omega) []
  have okw : Oks (words d0 4) := fun w hw => okN (words_nm hw)
  have lww : ∀ w ∈ words d0 4, w.length ≤ 1000 := fun w hw => by have := (words_nm hw).2.1; omega
  have is1 := init_spec []
  have is2 := init_spec [boardO []]
  obtain ⟨w1, w2, w3, w4, hws⟩ : ∃ w1 w2 w3 w4, words d0 4 = [w1, w2, w3, w4] := by
    have := words_length d0 4
    match words d0 4, this with
    | [a, b, c, d], _ => exact ⟨a, b, c, d, rfl⟩
  have hne : words d0 4 ≠ [] := by rw [hws]; simp
  have hwl := words_length d0 4
  have ok0 : Oks ([] : List Str) := fun _ h => by cases h
  have eq0 : ∀ neg : Bool, eqF neg (.val (tupS [])) (.val (.tup [])) = some (.val (.bl (!neg))) := fun neg => eqF_tupS neg ok0
  obtain ⟨s0, h0, l0⟩ : ∃ s0 : Nat, (d1 : Int) % 5 = (s0 : Int) ∧ s0 ≤ 4 := ⟨d1 % 5, by omega, by omega⟩
  obtain ⟨s1, h1, l1⟩ : ∃ s1 : Nat, (d1 : Int) / 5 % 4 = (s1 : Int) ∧ s1 ≤ 3 := ⟨d1 / 5 % 4, by omega, by omega⟩
  have part : ∀ (a b : Nat), b - a ≤ 4 → ∃ A : List Int, cutD (ds.map D.int) (some (a : Int)) (some (b : Int)) = A.map .int ∧ A.length ≤ 4 ∧ (a < b → b ≤ 13 → A ≠ []) ∧ ∀ d ∈ A, 0 ≤ d ∧ d < 5040 := fun a b hs =>
    ⟨_, cutD_map _ _ _ _, by rw [cut_mid _ (by omega) (by omega), List.length_take]; omega, fun h1 h2 e => by
      have := congrArg List.length e
      rw [cut_mid _ (by omega) (by omega), List.length_take, List.length_drop] at this
      simp at this
      omega, fun d hd => by
      rw [cut_mid _ (by omega) (by omega)] at hd
      exact hds d (List.mem_of_mem_drop (List.mem_of_mem_take hd))⟩
  obtain ⟨A, eA, lA, _, hA⟩ := part 2 (2 + s0) (by omega)
  obtain ⟨B, eB, lB, nB0, hB⟩ := part 7 (8 + s1) (by omega)
  have nB0 := nB0 (by omega) (by omega)
  have eA : cutD (ds.map D.int) (some 2) (some (2 + (s0 : Int))) = A.map .int := by rw [← eA]; congr 2
  have eB : cutD (ds.map D.int) (some 7) (some (8 + (s1 : Int))) = B.map .int := by rw [← eB]; congr 2
  let S0 : Store := [boardO [], boardO []]
  have bA := blocks_spec hA hne (by omega) (by omega) S0
  have bB := blocks_spec hB hne (by omega) (by omega) S0
  have okA : OksB (A.map (drawB (words d0 4))) := fun b hb => by
    obtain ⟨d, _, rfl⟩ := List.mem_map.mp hb
    exact drawB_ok okw hne d
  have okB : OksB (B.map (drawB (words d0 4))) := fun b hb => by
    obtain ⟨d, _, rfl⟩ := List.mem_map.mp hb
    exact drawB_ok okw hne d
  have nA : (A.map (drawB (words d0 4))).length ≤ 4 := by rw [List.length_map]; exact lA
  have nB : (B.map (drawB (words d0 4))).length ≤ 4 := by rw [List.length_map]; exact lB
  have nB1 : B.map (drawB (words d0 4)) ≠ [] := by simpa using nB0
  generalize A.map (drawB (words d0 4)) = bs at bA okA nA
  generalize B.map (drawB (words d0 4)) = last at bB okB nB nB1
  have af := after_spec ok0 okA (by simp; omega) S0
  rw [mf_law, run_mfnC, run_mfn]
  simp only [mb_law]
  simp
  refine run_at ec0 ?_
  simp [back]
  refine run_at eds ?_
  simp [back, g0]
  refine run_at e2 ?_
  simp [back]
  refine run_at is1 ?_
  simp [back, cut_board, nap_board, pick_ins]
  refine run_at is2 ?_
  simp [back, cut_board, pick_board, pick_ins, nap_board, g1, h0, h1, eA, eB]
  refine run_at bA ?_
  simp [back, cut_board, pick_board, pick_ins, nap_board, g1, h0, h1, eA, eB, S0]
  refine run_at bB ?_
  simp [back, cut_board, pick_board, pick_ins, nap_board, S0]
  refine run_at af ?_
  simp [back, cut_board, pick_board, pick_ins, nap_board, S0]
  obtain ⟨lb, ll, rfl⟩ : ∃ b l, last = b :: l := by
    cases last with
    | nil => exact absurd rfl nB1
    | cons b l => exact ⟨b, l, rfl⟩
  have okd : Oks (aftB [] bs) := aftB_ok ok0 okA
  have okl : Oks (aftB [] (lb :: ll)) := aftB_ok ok0 okB
  have lnd : (aftB [] bs).length ≤ 4 := by have := aftB_len (bs := bs) (act := []); simp at this; omega
  have tl0 : eqF true (.val (.lst [.bl false, tupS (aftB [] bs)])) (.val (.lst [.bl false, tupS (aftB [] bs)])) = some (.val (.bl false)) := (sam_lst2 (sam_bl false) (sam_tupS okd)).eqF (by decide) true
  have tl1 : ∀ way : Nat, eqF true (.val (.lst [.lst [.int way, tupS (aftB [] bs)], tupS (aftB [] bs)])) (.val (.lst [.lst [.int way, tupS (aftB [] bs)], tupS (aftB [] bs)])) = some (.val (.bl false)) := fun way => (sam_lst2 (sam_lst2 (sam_int way) (sam_tupS okd)) ((sam_tupS okd).up (by decide))).eqF (by decide) true
  have tl2 : ∀ way : Nat, eqF true (.val (.lst [.int way, tupS []])) (.val (.lst [.int way, .tup []])) = some (.val (.bl false)) := fun way => (sam_lst2 (sam_int way) (sam_tupS ok0)).eqF (by decide) true
  have tl3 : ∀ i : Int, eqF true (.val (.lst [tupS (aftB [] (lb :: ll)), .int i])) (.val (.lst [tupS (aftB [] (lb :: ll)), .int i])) = some (.val (.bl false)) := fun i => (sam_lst2 (sam_tupS okl) (sam_int i)).eqF (by decide) true
  have okw1 : Ok w1 := okw w1 (by rw [hws]; simp)
  have lw1 : w1.length ≤ 1000 := lww w1 (by rw [hws]; simp)
  have lw2 : w2.length ≤ 1000 := lww w2 (by rw [hws]; simp)
  obtain ⟨TH, hTH⟩ : ∃ TH : List D, TH = [.non, .int 0, .str "", .tup [], .lst [.str w1]] := ⟨_, rfl⟩
  have things : ∀ d ∈ TH, eqF true (.val d) (.val d) = some (.val (.bl false)) := by
    intro d hd
    rw [hTH] at hd
    simp only [List.mem_cons, List.not_mem_nil, or_false] at hd
    rcases hd with rfl | rfl | rfl | rfl | rfl
    · exact sam_non.eqF (by decide) true
    · exact (sam_int 0).eqF (by decide) true
    · exact (sam_str (show Ok ("" : Str) by decide +kernel)).eqF (by decide) true
    · exact (sam_tupS ok0).eqF (by decide) true
    · exact (sam_lst1 (sam_str okw1)).eqF (by decide) true
  let U : Option W → Option W → Option W → Option W → Option W → Option W → Sl3 := fun x7 x8 x9 x10 x11 x12 => [some (W.val (D.ro (List.map D.int ns))), some (W.val (D.lst (List.map D.int ds))), some (W.val (D.lst (List.map D.str (words d0 4)))), some (W.val (D.lst [D.ref 0, D.ref 1])), some (W.val (D.lst (bs.map blkD))), some (W.val (D.lst ((lb :: ll).map blkD))), some (W.val (tupS (aftB [] bs))), x7, x8, x9, x10, x11, x12]
  refine forL_run (fun i u st => st[0]? = some (boardO []) ∧ st[1]? = some (boardO []) ∧ ∃ x7 x8 x9 x10 x11 x12 : Option W, u = U x7 x8 x9 x10 x11 x12) ⟨rfl, rfl, none, none, none, none, none, none, rfl⟩ ?_ ?_
  · rintro i d u st hd ⟨hA0, hB0, x7, x8, x9, x10, x11, x12, rfl⟩
    obtain ⟨rfl, hi⟩ := range_get hd
    refine ⟨_, rfl, ?_⟩
    obtain ⟨kb, hkb, lkb⟩ : ∃ kb : Nat, ((i : Int) + dz) % 2 = (kb : Int) ∧ kb < 2 := ⟨(i + dz) % 2, by omega, by omega⟩
    have atb : atI [D.ref 0, D.ref 1] (kb : Int) = some (.ref kb) := by
      rcases (show kb = 0 ∨ kb = 1 by omega) with rfl | rfl <;> rfl
    obtain ⟨mm, hm, m1, m2⟩ : ∃ mm : Nat, atI [D.int 2, D.int 4] (i : Int) = some (.int mm) ∧ 0 < mm ∧ mm < 10 := by
      rcases (show i = 0 ∨ i = 1 by omega) with rfl | rfl
      · exact ⟨2, rfl, by decide, by decide⟩
      · exact ⟨4, rfl, by decide, by decide⟩
    obtain ⟨way, hway, lway⟩ : ∃ way : Nat, (dz : Int) / (mm : Int) % 2 = (way : Int) ∧ way < 2 := ⟨dz / mm % 2, by omega, by omega⟩
    obtain ⟨wy, hwy, lwy⟩ : ∃ wy : Nat, (1 : Int) - (way : Int) = (wy : Int) ∧ wy < 2 := ⟨1 - way, by omega, by omega⟩
    have hk : st[kb]? = some (boardO []) := by rcases (show kb = 0 ∨ kb = 1 by omega) with rfl | rfl <;> assumption
    have hls := get_lt hk
    -- a block that is not entered
    let u1 : Sl3 := U (some (.val (.int i))) (some (.val (.ref kb))) (some (.val (.int way))) x10 x11 x12
    let stL : Store := (st ++ [MO.slp 5, MO.slp 8]).map (MO.lent u1)
    have hkL : stL[kb]? = some (boardO []) := get_lent (get_app hk) rfl
    have kk : ∀ j, stL[st.length + j]? = (([MO.slp 5, MO.slp 8] : Store)[j]?).map (MO.lent u1) := fun j => by
      show ((st ++ [MO.slp 5, MO.slp 8]).map (MO.lent u1))[st.length + j]? = _
      rw [List.getElem?_map, List.getElem?_append_right (Nat.le_add_right _ _), Nat.add_sub_cancel_left]
    have k1 : stL[st.length]? = some (.kc (.lst ((lb :: ll).map blkD))) := kk 0
    have k2 : stL[st.length + 1]? = some (.kc (.ref kb)) := kk 1
    obtain ⟨st2, e2w, x2⟩ := wwithin_spec tab_1 (c := "lam_law_0") (js := [st.length, st.length + 1]) (mf := lf_lam_law_0) (o := .ok (.lst [.bl false, tupS (aftB [] bs)])) rfl nA hkL ok0 okA (by simp) fun st1 q1 q2 =>
      deed0 (q2 _ _ (by omega) k1) (q2 _ _ (by omega) k2) q1
    rw [← w1_is] at e2w
    have x3 := back_ext (st := st ++ [MO.slp 5, MO.slp 8]) (lent_of_tr u1) (lent_nap u1) x2
    have hk3 := x3 kb _ (get_app hk)
    have hA3 := x3 0 _ (get_app hA0)
    have hB3 := x3 1 _ (get_app hB0)
    simp [-List.map_append, U, gz, hkb, atb, hm, m1, show (mm : Int) < 1073741824 by omega, hway]
    refine run_at e2w ?_
    simp [-List.map_append, Out.res]
    generalize M3.back (st ++ [MO.slp 5, MO.slp 8]) st2 = st3 at hk3 hA3 hB3 ⊢
    clear x3 x2 kk k1 k2 e2w hkL
    simp [back_self, tl0, hk3, kIns_board]
    refine run_at (active_spec (get_nap hk3 rfl)) ?_
    simp [back_self, eq0, -List.map_append]
    -- an error inside two rounds of blocks
    let u2 : Sl3 := U (some (.val (.int i))) (some (.val (.ref kb))) (some (.val (.int way))) (some (.val (.lst [.bl false, tupS (aftB [] bs)]))) x11 x12
    let stM : Store := (st3 ++ [MO.slp 9, MO.slp 2, MO.slp 5, MO.slp 8]).map (MO.lent u2)
    have hkM : stM[kb]? = some (boardO []) := get_lent (get_app hk3) rfl
    have kk2 : ∀ j, stM[st3.length + j]? = (([MO.slp 9, MO.slp 2, MO.slp 5, MO.slp 8] : Store)[j]?).map (MO.lent u2) := fun j => by
      show ((st3 ++ [MO.slp 9, MO.slp 2, MO.slp 5, MO.slp 8]).map (MO.lent u2))[st3.length + j]? = _
      rw [List.getElem?_map, List.getElem?_append_right (Nat.le_add_right _ _), Nat.add_sub_cancel_left]
    have j1 : stM[st3.length]? = some (.kc (.int way)) := kk2 0
    have j2 : stM[st3.length + 1]? = some (.kc (.lst ((w1 :: [w2, w3, w4]).map .str))) := by rw [← hws]; exact kk2 1
    have j3 : stM[st3.length + 2]? = some (.kc (.lst ((lb :: ll).map blkD))) := kk2 2
    have j4 : stM[st3.length + 3]? = some (.kc (.ref kb)) := kk2 3
    have hls3 := get_lt hk3
    obtain ⟨st4, e4w, x4⟩ := wwithin_spec tab_1 (c := "lam_law_1") (js := [st3.length, st3.length + 1, st3.length + 2, st3.length + 3]) (mf := lf_lam_law_1) (o := .ok (.lst [.lst [.int way, tupS (aftB [] bs)], tupS (aftB [] bs)])) rfl nA hkM ok0 okA (by simp) fun st1 q1 q2 =>
      deed1 lway lw1 (q2 _ _ (by omega) j1) (q2 _ _ (by omega) j2) (q2 _ _ (by omega) j3) (q2 _ _ (by omega) j4) q1 okd okB nB (by omega)
    rw [← w1_is] at e4w
    have x5 := back_ext (st := st3 ++ [MO.slp 9, MO.slp 2, MO.slp 5, MO.slp 8]) (lent_of_tr u2) (lent_nap u2) x4
    have hk5 := x5 kb _ (get_app hk3)
    have hA5 := x5 0 _ (get_app hA3)
    have hB5 := x5 1 _ (get_app hB3)
    refine run_at e4w ?_
    simp [-List.map_append, Out.res]
    generalize M3.back (st3 ++ [MO.slp 9, MO.slp 2, MO.slp 5, MO.slp 8]) st4 = st5 at hk5 hA5 hB5 ⊢
    clear x5 x4 kk2 j1 j2 j3 j4 e4w hkM
    simp [back_self, tl1, hk5, kIns_board]
    refine run_at (active_spec (get_nap hk5 rfl)) ?_
    have hw1 : (words d0 4)[1]? = some w2 := by rw [hws]; rfl
    obtain ⟨st6, e6, x6⟩ := left_spec (w := w2) (st := st5.map MO.nap) (kb := kb) lwy lw2 (get_nap hk5 rfl) ok0 okA nA (by simp)
    have x7' := back_ext (st := st5) nap_of_tr nap_nap x6
    have hk7 := x7' kb _ hk5
    have hA7 := x7' 0 _ hA5
    have hB7 := x7' 1 _ hB5
    simp [back_self, eq0, hwy, hw1, -List.map_append]
    refine run_at e6 ?_
    simp [-List.map_append, hwy, tl2]
    generalize M3.back st5 st6 = st7 at hk7 hA7 hB7 ⊢
    clear x7' x6 e6
    -- the last blocks
    let u3 : Sl3 := U (some (.val (.int i))) (some (.val (.ref kb))) (some (.val (.int way))) (some (.val (.lst [.bl false, tupS (aftB [] bs)]))) (some (.val (.lst [.lst [.int way, tupS (aftB [] bs)], tupS (aftB [] bs)]))) x12
    let stN : Store := (st7 ++ [MO.slp 7, MO.slp 8]).map (MO.lent u3)
    have hkN : stN[kb]? = some (boardO []) := get_lent (get_app hk7) rfl
    have kk3 : ∀ j, stN[st7.length + j]? = (([MO.slp 7, MO.slp 8] : Store)[j]?).map (MO.lent u3) := fun j => by
      show ((st7 ++ [MO.slp 7, MO.slp 8]).map (MO.lent u3))[st7.length + j]? = _
      rw [List.getElem?_map, List.getElem?_append_right (Nat.le_add_right _ _), Nat.add_sub_cancel_left]
    have n1 : stN[st7.length]? = some (.kc (.int i)) := kk3 0
    have n2 : stN[st7.length + 1]? = some (.kc (.ref kb)) := kk3 1
    have hls7 := get_lt hk7
    obtain ⟨st8, e8w, x8'⟩ := wwithin_spec tab_1 (c := "lam_law_2") (js := [st7.length, st7.length + 1]) (mf := lf_lam_law_2) (o := .ok (.lst [tupS (aftB [] (lb :: ll)), .int i])) rfl nB hkN ok0 okB (by simp) fun st1 q1 q2 =>
      ⟨st1, deed2 (q2 _ _ (by omega) n1) (q2 _ _ (by omega) n2) q1, Ext.refl _⟩
    rw [← w1_is] at e8w
    have x9' := back_ext (st := st7 ++ [MO.slp 7, MO.slp 8]) (lent_of_tr u3) (lent_nap u3) x8'
    have hk9 := x9' kb _ (get_app hk7)
    have hA9 := x9' 0 _ (get_app hA7)
    have hB9 := x9' 1 _ (get_app hB7)
    refine run_at e8w ?_
    simp [-List.map_append, Out.res]
    generalize M3.back (st7 ++ [MO.slp 7, MO.slp 8]) st8 = st9 at hk9 hA9 hB9 ⊢
    clear x9' x8' kk3 n1 n2 e8w hkN
    refine run_at (after_spec ok0 okB (by simp at nB ⊢; omega) _) ?_
    have hw0 : (words d0 4)[0]? = some w1 := by rw [hws]; rfl
    simp [back_self, tl3, -List.map_append, hw0]
    rw [← hTH]
    refine forL_run (fun q v sv => sv[0]? = some (boardO []) ∧ sv[1]? = some (boardO []) ∧ ∃ x12 : Option W, v = U (some (.val (.int i))) (some (.val (.ref kb))) (some (.val (.int way))) (some (.val (.lst [.bl false, tupS (aftB [] bs)]))) (some (.val (.lst [.lst [.int way, tupS (aftB [] bs)], tupS (aftB [] bs)]))) x12) ⟨hA9, hB9, x12, rfl⟩ ?_ ?_
    · rintro q d v sv hd ⟨pA, pB, y12, rfl⟩
      have hd' := things d (List.mem_of_getElem? hd)
      refine ⟨_, rfl, ?_⟩
      have pk : sv[kb]? = some (boardO []) := by rcases (show kb = 0 ∨ kb = 1 by omega) with rfl | rfl <;> assumption
      have hlq := get_lt pk
      let u4 : Sl3 := U (some (.val (.int i))) (some (.val (.ref kb))) (some (.val (.int way))) (some (.val (.lst [.bl false, tupS (aftB [] bs)]))) (some (.val (.lst [.lst [.int way, tupS (aftB [] bs)], tupS (aftB [] bs)]))) (some (.val d))
      let stO : Store := (sv ++ [MO.slp 12]).map (MO.lent u4)
      have hkO : stO[kb]? = some (boardO []) := get_lent (get_app pk) rfl
      have o1 : stO[sv.length]? = some (.kc d) := by
        show ((sv ++ [MO.slp 12]).map (MO.lent u4))[sv.length]? = _
        rw [List.getElem?_map, List.getElem?_append_right (Nat.le_refl _), Nat.sub_self]
        rfl
      obtain ⟨sw, eow, xo⟩ := wwithin_spec tab_1 (c := "lam_law_3") (js := [sv.length]) (mf := lf_lam_law_3) (o := .ok d) rfl nB hkO ok0 okB (by simp) fun st1 q1 q2 =>
        ⟨st1, deed3 (q2 _ _ (by omega) o1), Ext.refl _⟩
      rw [← w1_is] at eow
      have xp := back_ext (st := sv ++ [MO.slp 12]) (lent_of_tr u4) (lent_nap u4) xo
      have rk := xp kb _ (get_app pk)
      have rA := xp 0 _ (get_app pA)
      have rB := xp 1 _ (get_app pB)
      simp [-List.map_append, U]
      refine run_at eow ?_
      simp [-List.map_append, Out.res, hd']
      generalize M3.back (sv ++ [MO.slp 12]) sw = sx at rk rA rB ⊢
      simp [rk, kIns_board]
      refine run_at (active_spec (get_nap rk rfl)) ?_
      simp [back_self, eq0, rA, rB]
    · rintro v sv ⟨pA, pB, y12, rfl⟩
      simp [U]
      exact ⟨pA, pB⟩
  · rintro u st ⟨hA0, hB0, x7, x8, x9, x10, x11, x12, rfl⟩
    simp [U, hA0, kIns_board]
    refine run_at (active_spec (get_nap hA0 rfl)) ?_
    simp [back_self, eq0, hB0, kIns_board]
    refine run_at (active_spec (get_nap hB0 rfl)) ?_
    simp [back_self, eq0]
end My
namespace My
open PySem L2 M3
def top (i : Nat) : Stmt := PySem.Challenge.pw_switchedlayers_k57_blocks_end_after_any.main.body.getD i (.Pass ⟨0, 0, 0, 0⟩)
abbrev s_law : Stmt := top 15
abbrev s_w_left_by_error : Stmt := top 14
structure Txt (K : PySem.W.Frag) (mg : Str → Option Value) (G : G3) : Prop where
  hK : K = G.K
  z_int : mg "int" = none
  z_len : mg "len" = none
  z_range : mg "range" = none
  z_tuple : mg "tuple" = none
  f_now : ∀ c ∈ (["Switchboard"] : List String), FldOk K G c "now"
  f_board : ∀ c ∈ (["Block"] : List String), FldOk K G c "board"
  f_way : ∀ c ∈ (["Block"] : List String), FldOk K G c "way"
  f_layer : ∀ c ∈ (["Block"] : List String), FldOk K G c "layer"
  f_last : ∀ c ∈ (["Block"] : List String), FldOk K G c "last"
  f_before : ∀ c ∈ (["Entering"] : List String), FldOk K G c "before"
  f_outer : ∀ c ∈ (["Entering"] : List String), FldOk K G c "outer"
  b_KeyError : mg "KeyError" = none ∧ cvOf G "KeyError" = .type "KeyError" ∧ vOf G "KeyError" = .ty "KeyError"
  b_ZeroDivisionError : mg "ZeroDivisionError" = none ∧ cvOf G "ZeroDivisionError" = .type "ZeroDivisionError" ∧ vOf G "ZeroDivisionError" = .ty "ZeroDivisionError"
  x_KeyError : ∀ q ∈ ([("KeyError", true), ("ZeroDivisionError", false)] : List (String × Bool)), PySem.W.exmOne K (cvOf G q.1) (cvOf G "KeyError") = some q.2
  x_ZeroDivisionError : ∀ q ∈ ([("KeyError", false), ("ZeroDivisionError", true)] : List (String × Bool)), PySem.W.exmOne K (cvOf G q.1) (cvOf G "ZeroDivisionError") = some q.2
  hf : ∀ c F, G.nf c F → FnL F
  l_lam_law_0 : ∀ (c' : Addr) (cl : List (Str × Addr)), cl.map (·.1) = (["_law_last", "_law_board"] : List Str) → G.nf "lam_law_0" (LF.fv ⟨((("law" : Str) ++ (".<locals>." : Str)) : Str) ++ ("<lambda>" : Str), lamP (exA 1 (stE (stB 2 (stB 6 s_law)))), lamB (exA 1 (stE (stB 2 (stB 6 s_law)))), lamS (exA 1 (stE (stB 2 (stB 6 s_law)))), cl, c'⟩)
  m_lam_law_0 : ∀ F, G.nf "lam_law_0" F → ∃ (c' : Addr) (cl : List (Str × Addr)), cl.map (·.1) = (["_law_last", "_law_board"] : List Str) ∧ F = (LF.fv ⟨((("law" : Str) ++ (".<locals>." : Str)) : Str) ++ ("<lambda>" : Str), lamP (exA 1 (stE (stB 2 (stB 6 s_law)))), lamB (exA 1 (stE (stB 2 (stB 6 s_law)))), lamS (exA 1 (stE (stB 2 (stB 6 s_law)))), cl, c'⟩)
  l_lam_w_left_by_error_0 : ∀ (c' : Addr) (cl : List (Str × Addr)), cl.map (·.1) = (["_law_word", "_law_way"] : List Str) → G.nf "lam_w_left_by_error_0" (LF.fv ⟨((("_law_left_by_error" : Str) ++ (".<locals>." : Str)) : Str) ++ ("<lambda>" : Str), lamP (exA 1 (stE (stB 0 (stB 0 s_w_left_by_error)))), lamB (exA 1 (stE (stB 0 (stB 0 s_w_left_by_error)))), lamS (exA 1 (stE (stB 0 (stB 0 s_w_left_by_error)))), cl, c'⟩)
  m_lam_w_left_by_error_0 : ∀ F, G.nf "lam_w_left_by_error_0" F → ∃ (c' : Addr) (cl : List (Str × Addr)), cl.map (·.1) = (["_law_word", "_law_way"] : List Str) ∧ F = (LF.fv ⟨((("_law_left_by_error" : Str) ++ (".<locals>." : Str)) : Str) ++ ("<lambda>" : Str), lamP (exA 1 (stE (stB 0 (stB 0 s_w_left_by_error)))), lamB (exA 1 (stE (stB 0 (stB 0 s_w_left_by_error)))), lamS (exA 1 (stE (stB 0 (stB 0 s_w_left_by_error)))), cl, c'⟩)
  l_lam_law_1 : ∀ (c' : Addr) (cl : List (Str × Addr)), cl.map (·.1) = (["_law_way", "_law_names", "_law_last", "_law_board"] : List Str) → G.nf "lam_law_1" (LF.fv ⟨((("law" : Str) ++ (".<locals>." : Str)) : Str) ++ ("<lambda>" : Str), lamP (exA 1 (stE (stB 4 (stB 6 s_law)))), lamB (exA 1 (stE (stB 4 (stB 6 s_law)))), lamS (exA 1 (stE (stB 4 (stB 6 s_law)))), cl, c'⟩)
  m_lam_law_1 : ∀ F, G.nf "lam_law_1" F → ∃ (c' : Addr) (cl : List (Str × Addr)), cl.map (·.1) = (["_law_way", "_law_names", "_law_last", "_law_board"] : List Str) ∧ F = (LF.fv ⟨((("law" : Str) ++ (".<locals>." : Str)) : Str) ++ ("<lambda>" : Str), lamP (exA 1 (stE (stB 4 (stB 6 s_law)))), lamB (exA 1 (stE (stB 4 (stB 6 s_law)))), lamS (exA 1 (stE (stB 4 (stB 6 s_law)))), cl, c'⟩)
  l_lam_law_2 : ∀ (c' : Addr) (cl : List (Str × Addr)), cl.map (·.1) = (["_law_turn", "_law_board"] : List Str) → G.nf "lam_law_2" (LF.fv ⟨((("law" : Str) ++ (".<locals>." : Str)) : Str) ++ ("<lambda>" : Str), lamP (exA 1 (exC (stT (stB 7 (stB 6 s_law))))), lamB (exA 1 (exC (stT (stB 7 (stB 6 s_law))))), lamS (exA 1 (exC (stT (stB 7 (stB 6 s_law))))), cl, c'⟩)
  m_lam_law_2 : ∀ F, G.nf "lam_law_2" F → ∃ (c' : Addr) (cl : List (Str × Addr)), cl.map (·.1) = (["_law_turn", "_law_board"] : List Str) ∧ F = (LF.fv ⟨((("law" : Str) ++ (".<locals>." : Str)) : Str) ++ ("<lambda>" : Str), lamP (exA 1 (exC (stT (stB 7 (stB 6 s_law))))), lamB (exA 1 (exC (stT (stB 7 (stB 6 s_law))))), lamS (exA 1 (exC (stT (stB 7 (stB 6 s_law))))), cl, c'⟩)
  l_lam_law_3 : ∀ (c' : Addr) (cl : List (Str × Addr)), cl.map (·.1) = (["_law_thing"] : List Str) → G.nf "lam_law_3" (LF.fv ⟨((("law" : Str) ++ (".<locals>." : Str)) : Str) ++ ("<lambda>" : Str), lamP (exA 1 (exC (exB 0 (stT (stB 0 (stB 8 (stB 6 s_law))))))), lamB (exA 1 (exC (exB 0 (stT (stB 0 (stB 8 (stB 6 s_law))))))), lamS (exA 1 (exC (exB 0 (stT (stB 0 (stB 8 (stB 6 s_law))))))), cl, c'⟩)
  m_lam_law_3 : ∀ F, G.nf "lam_law_3" F → ∃ (c' : Addr) (cl : List (Str × Addr)), cl.map (·.1) = (["_law_thing"] : List Str) ∧ F = (LF.fv ⟨((("law" : Str) ++ (".<locals>." : Str)) : Str) ++ ("<lambda>" : Str), lamP (exA 1 (exC (exB 0 (stT (stB 0 (stB 8 (stB 6 s_law))))))), lamB (exA 1 (exC (exB 0 (stT (stB 0 (stB 8 (stB 6 s_law))))))), lamS (exA 1 (exC (exB 0 (stT (stB 0 (stB 8 (stB 6 s_law))))))), cl, c'⟩)
theorem Txt.ats {K : PySem.W.Frag} {mg : Str → Option Value} {G : G3} {b : Heap} (T : Txt K mg G) : Txt K mg (G.at b) := ⟨T.hK, T.z_int, T.z_len, T.z_range, T.z_tuple, fun c hc => ⟨(T.f_now c hc).ex⟩, fun c hc => ⟨(T.f_board c hc).ex⟩, fun c hc => ⟨(T.f_way c hc).ex⟩, fun c hc => ⟨(T.f_layer c hc).ex⟩, fun c hc => ⟨(T.f_last c hc).ex⟩, fun c hc => ⟨(T.f_before c hc).ex⟩, fun c hc => ⟨(T.f_outer c hc).ex⟩, T.b_KeyError, T.b_ZeroDivisionError, T.x_KeyError, T.x_ZeroDivisionError, T.hf, T.l_lam_law_0, T.m_lam_law_0, T.l_lam_w_left_by_error_0, T.m_lam_w_left_by_error_0, T.l_lam_law_1, T.m_lam_law_1, T.l_lam_law_2, T.m_lam_law_2, T.l_lam_law_3, T.m_lam_law_3⟩
theorem Txt.ow {K : PySem.W.Frag} {mg : Str → Option Value} {G : G3} {b : Heap} {w' : Nat → Option Addr} (T : Txt K mg G) : Txt K mg ((G.at b).owning w') := ⟨T.hK, T.z_int, T.z_len, T.z_range, T.z_tuple, fun c hc => ⟨(T.f_now c hc).ex⟩, fun c hc => ⟨(T.f_board c hc).ex⟩, fun c hc => ⟨(T.f_way c hc).ex⟩, fun c hc => ⟨(T.f_layer c hc).ex⟩, fun c hc => ⟨(T.f_last c hc).ex⟩, fun c hc => ⟨(T.f_before c hc).ex⟩, fun c hc => ⟨(T.f_outer c hc).ex⟩, T.b_KeyError, T.b_ZeroDivisionError, T.x_KeyError, T.x_ZeroDivisionError, T.hf, T.l_lam_law_0, T.m_lam_law_0, T.l_lam_w_left_by_error_0, T.m_lam_w_left_by_error_0, T.l_lam_law_1, T.m_lam_law_1, T.l_lam_law_2, T.m_lam_law_2, T.l_lam_law_3, T.m_lam_law_3⟩
abbrev s_w_digits : Stmt := top 8
abbrev n_w_digits : List Str := ["_law_cell", "_law_salt", "_law_many", "_law_draws", "_law_rest", "_law_k", "_law_mixed"]
theorem sc_w_digits : FnScope n_w_digits ["_law_cell", "_law_salt", "_law_many"] (defScope s_w_digits) := ⟨rfl, rfl, rfl, by decide +kernel, rfl, by decide +kernel, by decide +kernel⟩
abbrev s_w_cell_at : Stmt := top 7
abbrev n_w_cell_at : List Str := ["_law_script", "_law_k"]
theorem sc_w_cell_at : FnScope n_w_cell_at ["_law_script", "_law_k"] (defScope s_w_cell_at) := ⟨rfl, rfl, rfl, by decide +kernel, rfl, by decide +kernel, by decide +kernel⟩
abbrev s_w_spelled : Stmt := top 9
abbrev n_w_spelled : List Str := ["_law_draw", "_law_many", "_law_letters", "_law_first", "_law_place", "_law_more", "_law_signs", "_law_rests", "_law_k"]
theorem sc_w_spelled : FnScope n_w_spelled ["_law_draw", "_law_many"] (defScope s_w_spelled) := ⟨rfl, rfl, rfl, by decide +kernel, rfl, by decide +kernel, by decide +kernel⟩
abbrev s_Switchboard_init : Stmt := (clsB (top 5)).getD 0 (.Pass ⟨0, 0, 0, 0⟩)
abbrev n_Switchboard_init : List Str := ["self", "__class__"]
abbrev s_w_blocks : Stmt := top 10
abbrev n_w_blocks : List Str := ["_law_draws", "_law_names", "_law_draw"]
theorem sc_w_blocks : FnScope n_w_blocks ["_law_draws", "_law_names"] (defScope s_w_blocks) := ⟨rfl, rfl, rfl, by decide +kernel, rfl, by decide +kernel, by decide +kernel⟩
abbrev s_w_after : Stmt := top 11
abbrev n_w_after : List Str := ["_law_active", "_law_blocks_here", "_law_block", "_law_rest", "_law_name"]
theorem sc_w_after : FnScope n_w_after ["_law_active", "_law_blocks_here"] (defScope s_w_after) := ⟨rfl, rfl, rfl, by decide +kernel, rfl, by decide +kernel, by decide +kernel⟩
abbrev s_Switchboard_active : Stmt := (clsB (top 5)).getD 1 (.Pass ⟨0, 0, 0, 0⟩)
abbrev n_Switchboard_active : List Str := ["self"]
theorem sc_Switchboard_active : FnScope n_Switchboard_active ["self"] (defScope s_Switchboard_active) := ⟨rfl, rfl, rfl, by decide +kernel, rfl, by decide +kernel, by decide +kernel⟩
abbrev s_Block_init : Stmt := (clsB (top 4)).getD 0 (.Pass ⟨0, 0, 0, 0⟩)
abbrev n_Block_init : List Str := ["self", "board", "way", "layer"]
theorem sc_Block_init : FnScope n_Block_init ["self", "board", "way", "layer"] (defScope s_Block_init) := ⟨rfl, rfl, rfl, by decide +kernel, rfl, by decide +kernel, by decide +kernel⟩
abbrev s_w_failing : Stmt := top 13
abbrev n_w_failing : List Str := ["_law_way", "_law_table", "_law_word"]
theorem sc_w_failing : FnScope n_w_failing ["_law_way", "_law_table", "_law_word"] (defScope s_w_failing) := ⟨rfl, rfl, rfl, by decide +kernel, rfl, by decide +kernel, by decide +kernel⟩
abbrev s_Entering_init : Stmt := (clsB (top 3)).getD 0 (.Pass ⟨0, 0, 0, 0⟩)
abbrev n_Entering_init : List Str := ["self", "before", "outer"]
theorem sc_Entering_init : FnScope n_Entering_init ["self", "before", "outer"] (defScope s_Entering_init) := ⟨rfl, rfl, rfl, by decide +kernel, rfl, by decide +kernel, by decide +kernel⟩
abbrev s_switch_layer : Stmt := top 1
abbrev n_switch_layer : List Str := ["active", "way", "layer", "rest", "name"]
theorem sc_switch_layer : FnScope n_switch_layer ["active", "way", "layer"] (defScope s_switch_layer) := ⟨rfl, rfl, rfl, by decide +kernel, rfl, by decide +kernel, by decide +kernel⟩
abbrev s_Block_enter : Stmt := (clsB (top 4)).getD 1 (.Pass ⟨0, 0, 0, 0⟩)
abbrev n_Block_enter : List Str := ["self"]
theorem sc_Block_enter : FnScope n_Block_enter ["self"] (defScope s_Block_enter) := ⟨rfl, rfl, rfl, by decide +kernel, rfl, by decide +kernel, by decide +kernel⟩
abbrev s_Block_exit : Stmt := (clsB (top 4)).getD 2 (.Pass ⟨0, 0, 0, 0⟩)
abbrev n_Block_exit : List Str := ["self", "kind", "value", "trace"]
theorem sc_Block_exit : FnScope n_Block_exit ["self", "kind", "value", "trace"] (defScope s_Block_exit) := ⟨rfl, rfl, rfl, by decide +kernel, rfl, by decide +kernel, by decide +kernel⟩
abbrev s_Switchboard_within_0 : Stmt := (clsB (top 5)).getD 2 (.Pass ⟨0, 0, 0, 0⟩)
abbrev n_Switchboard_within_0 : List Str := ["self", "deed", "blocks", "way", "layer", "rest"]
theorem sc_Switchboard_within_0 : FnScope n_Switchboard_within_0 ["self", "deed", "blocks"] (defScope s_Switchboard_within_0) := ⟨rfl, rfl, rfl, by decide +kernel, rfl, by decide +kernel, by decide +kernel⟩
abbrev s_w_within_0 : Stmt := top 12
abbrev n_w_within_0 : List Str := ["_law_board", "_law_deed", "_law_blocks_here"]
theorem sc_w_within_0 : FnScope n_w_within_0 ["_law_board", "_law_deed", "_law_blocks_here"] (defScope s_w_within_0) := ⟨rfl, rfl, rfl, by decide +kernel, rfl, by decide +kernel, by decide +kernel⟩
abbrev n_w_left_by_error : List Str := ["_law_board", "_law_way", "_law_word", "_law_blocks_here"]
theorem sc_w_left_by_error : FnScope n_w_left_by_error ["_law_board", "_law_way", "_law_word", "_law_blocks_here"] (defScope s_w_left_by_error) := ⟨rfl, rfl, rfl, by decide +kernel, rfl, by decide +kernel, by decide +kernel⟩
abbrev s_Switchboard_within_1 : Stmt := (clsB (top 5)).getD 2 (.Pass ⟨0, 0, 0, 0⟩)
abbrev n_Switchboard_within_1 : List Str := ["self", "deed", "blocks", "way", "layer", "rest"]
theorem sc_Switchboard_within_1 : FnScope n_Switchboard_within_1 ["self", "deed", "blocks"] (defScope s_Switchboard_within_1) := ⟨rfl, rfl, rfl, by decide +kernel, rfl, by decide +kernel, by decide +kernel⟩
abbrev s_w_within_1 : Stmt := top 12
abbrev n_w_within_1 : List Str := ["_law_board", "_law_deed", "_law_blocks_here"]
theorem sc_w_within_1 : FnScope n_w_within_1 ["_law_board", "_law_deed", "_law_blocks_here"] (defScope s_w_within_1) := ⟨rfl, rfl, rfl, by decide +kernel, rfl, by decide +kernel, by decide +kernel⟩
abbrev n_law : List Str := ["_law_script", "_law_draws", "_law_names", "_law_boards", "_law_blocks_here", "_law_last", "_law_active", "_law_turn", "_law_board", "_law_way", "_law_made", "_law_told", "_law_thing"]
theorem sc_law : FnScope n_law ["_law_script"] (defScope s_law) := ⟨rfl, rfl, rfl, by decide +kernel, rfl, by decide +kernel, by decide +kernel⟩
section
variable {Pg : Program} {w : World} {K : PySem.W.Frag} {mg : Str → Option Value} {base : Heap} {G : G3}
theorem ok_w_digits (hw : w = G.w) (T : Txt K mg G) {f : Addr} {fd : FuncData} (F : Fun K "_law_digits" "_law_digits" s_w_digits f fd) :
    FnOk Pg w K mg base (L2.CX Pg w) 1 f fd ["_law_cell", "_law_salt", "_law_many"] (spM G 3 mf_w_digits) :=
  fn_ok (k := 0) (N := n_w_digits) (mb := mb_w_digits) T.hK hw F sc_w_digits fun cdv A outer s H E hr =>
  (mss_cons (ms_own 3 sc_w_digits.nd (mf_lst ma_nil))
  (mss_cons (ms_set 4 sc_w_digits.nd (me_bin om_sub (me_var 0) (me_bin om_pow me_int me_int)))
  (mss_cons (ms_for (passes_of rfl) rfl (mi_range1 rfl T.z_range (ma_cons (me_var 2) ma_nil)) (mg_name 5 sc_w_digits.nd) (mss_one (ms_if (mt_cmp om_ge (me_var 0) (me_bin om_pow me_int me_int) (nomark _)) (mss_cons (ms_app 3 (me_bin om_mod (me_callTy cm_int rfl T.z_int (by decide +kernel) (ma_cons (me_var 4) ma_nil)) me_int))
  (mss_one (ms_set 4 sc_w_digits.nd (me_bin om_div (me_var 4) me_int)))) (mss_cons (ms_set 6 sc_w_digits.nd (me_bin om_mod (me_callTy cm_int rfl T.z_int (by decide +kernel) (ma_cons (me_bin om_add (me_bin om_add (me_bin om_mul (me_var 0) me_int) (me_bin om_mul (me_bin om_add (me_var 1) (me_var 5)) me_int)) me_int) ma_nil)) me_int))
  (mss_one (ms_app 3 (me_bin om_mod (me_bin om_mod (me_callTy cm_int rfl T.z_int (by decide +kernel) (ma_cons (me_bin om_add (me_bin om_add (me_bin om_mul (me_var 6) (me_var 6)) (me_bin om_mul me_int (me_var 1))) (me_var 5)) ma_nil)) me_int) me_int)))))))
  (mss_one (ms_retO 3)))))
theorem ok_w_cell_at (hw : w = G.w) (T : Txt K mg G) {f : Addr} {fd : FuncData} (F : Fun K "_law_cell_at" "_law_cell_at" s_w_cell_at f fd) :
    FnOk Pg w K mg base (L2.CX Pg w) 1 f fd ["_law_script", "_law_k"] (spM G 2 mf_w_cell_at) :=
  fn_ok (k := 0) (N := n_w_cell_at) (mb := mb_w_cell_at) T.hK hw F sc_w_cell_at fun cdv A outer s H E hr =>
  (mss_cons (ms_if (mt_cmp om_lt (me_var 1) (me_callB cm_len rfl T.z_len PySem.boot_len (ma_cons (me_var 0) ma_nil)) (nomark _)) (mss_one (ms_ret (me_ix (me_var 0) (me_var 1)))) mss_nil)
  (mss_cons (ms_if (mt_cmp om_gt (me_callB cm_len rfl T.z_len PySem.boot_len (ma_cons (me_var 0) ma_nil)) me_int (nomark _)) (mss_one (ms_ret (me_bin om_add (me_bin om_mod (me_callTy cm_int rfl T.z_int (by decide +kernel) (ma_cons (me_ix (me_var 0) (me_bin om_mod (me_var 1) (me_callB cm_len rfl T.z_len PySem.boot_len (ma_cons (me_var 0) ma_nil)))) ma_nil)) me_int) (me_bin om_mul me_int (me_var 1))))) mss_nil)
  (mss_one (ms_ret (me_var 1)))))
theorem ok_w_spelled (hw : w = G.w) (T : Txt K mg G) {f : Addr} {fd : FuncData} (F : Fun K "_law_spelled" "_law_spelled" s_w_spelled f fd) :
    FnOk Pg w K mg base (L2.CX Pg w) 1 f fd ["_law_draw", "_law_many"] (spM G 2 mf_w_spelled) :=
  fn_ok (k := 0) (N := n_w_spelled) (mb := mb_w_spelled) T.hK hw F sc_w_spelled fun cdv A outer s H E hr =>
  (mss_cons (ms_set 2 sc_w_spelled.nd me_str)
  (mss_cons (ms_set 3 sc_w_spelled.nd (me_bin om_mul (me_ix (me_var 2) (me_bin om_mod (me_bin om_div (me_callTy cm_int rfl T.z_int (by decide +kernel) (ma_cons (me_var 0) ma_nil)) me_int) me_int)) (me_bin om_mod (me_callTy cm_int rfl T.z_int (by decide +kernel) (ma_cons (me_var 0) ma_nil)) me_int)))
  (mss_cons (ms_set 4 sc_w_spelled.nd (me_bin om_mod (me_bin om_div (me_callTy cm_int rfl T.z_int (by decide +kernel) (ma_cons (me_var 0) ma_nil)) me_int) me_int))
  (mss_cons (ms_set 5 sc_w_spelled.nd (me_bin om_mod (me_bin om_div (me_callTy cm_int rfl T.z_int (by decide +kernel) (ma_cons (me_var 0) ma_nil)) me_int) me_int))
  (mss_cons (ms_set 6 sc_w_spelled.nd (me_f (mf_lc (own := [("_law_k", 8)]) rfl sc_w_spelled.nd (mi_range1 rfl T.z_range (ma_cons (me_var 1) ma_nil)) (blkOk_by (N := n_w_spelled) (sc := defScope s_w_spelled) (by decide +kernel)) (fun _ _ _ _ _ => (mg_name 8 sc_w_spelled.nd)) (fun _ _ _ _ _ => mifs_nil) (fun _ _ _ _ _ => (me_ix (me_var 2) (me_bin om_mod (me_callTy cm_int rfl T.z_int (by decide +kernel) (ma_cons (me_bin om_add (me_var 0) (me_bin om_mul me_int (me_var 8))) ma_nil)) me_int))))))
  (mss_cons (ms_set 7 sc_w_spelled.nd (me_f (mf_lc (own := [("_law_k", 8)]) rfl sc_w_spelled.nd (mi_range1 rfl T.z_range (ma_cons (me_var 1) ma_nil)) (blkOk_by (N := n_w_spelled) (sc := defScope s_w_spelled) (by decide +kernel)) (fun _ _ _ _ _ => (mg_name 8 sc_w_spelled.nd)) (fun _ _ _ _ _ => mifs_nil) (fun _ _ _ _ _ => (me_bin om_add (me_sl (me_var 3) (mp_some (me_var 4)) mp_none) (me_sl (me_var 3) mp_none (mp_some (me_bin om_mul (me_var 8) (me_var 5)))))))))
  (mss_one (ms_ret (me_f (mf_lc (own := [("_law_k", 8)]) rfl sc_w_spelled.nd (mi_range1 rfl T.z_range (ma_cons (me_var 1) ma_nil)) (blkOk_by (N := n_w_spelled) (sc := defScope s_w_spelled) (by decide +kernel)) (fun _ _ _ _ _ => (mg_name 8 sc_w_spelled.nd)) (fun _ _ _ _ _ => mifs_nil) (fun _ _ _ _ _ => (me_sl (me_bin om_add (me_bin om_add (me_sl (me_var 3) mp_none (mp_some (me_var 4))) (me_ix (me_var 6) (me_var 8))) (me_ix (me_var 7) (me_var 8))) mp_none (mp_some me_int)))))))))))))
theorem sc_Switchboard_init : NdefX.NScope n_Switchboard_init ["self"] ["__class__"] (defScope s_Switchboard_init) := NdefX.nscope_by (by decide +kernel)
theorem ok_Switchboard_init (hw : w = G.w) (T : Txt K mg G) {Dc f : Addr} {fd : FuncData} (F : FunC K mg Pg "Switchboard.__init__" s_Switchboard_init Dc ["self"] n_Switchboard_init f fd) (hcs : ∀ c ∈ (["Switchboard"] : List String), ∃ C, G.cls c = some C ∧ SupI K C Dc) :
    FnOk Pg w K mg base (L2.CX Pg w) 1 f fd ["self"] (spM G 1 mf_Switchboard_init) :=
  fnS_ok (k := 0) (N := n_Switchboard_init) (mb := (sFldS ["Switchboard"] "now" (eVar 0) (eTup aNil))) T.hK hw F hcs (fun env => ⟨_, rfl⟩) rfl (by decide) fun cc c A outer s H E hr =>
  (mss_one (ms_fld T.f_now (me_var 0) (me_tup ma_nil)))
theorem ok_w_blocks (hw : w = G.w) (T : Txt K mg G) {f : Addr} {fd : FuncData} (F : Fun K "_law_blocks" "_law_blocks" s_w_blocks f fd) :
    FnOk Pg w K mg base (L2.CX Pg w) 1 f fd ["_law_draws", "_law_names"] (spM G 2 mf_w_blocks) :=
  fn_ok (k := 0) (N := n_w_blocks) (mb := mb_w_blocks) T.hK hw F sc_w_blocks fun cdv A outer s H E hr =>
  (mss_one (ms_ret (me_f (mf_lc (own := [("_law_draw", 2)]) rfl sc_w_blocks.nd (mi_seq (me_var 0)) (blkOk_by (N := n_w_blocks) (sc := defScope s_w_blocks) (by decide +kernel)) (fun _ _ _ _ _ => (mg_name 2 sc_w_blocks.nd)) (fun _ _ _ _ _ => mifs_nil) (fun _ _ _ _ _ => (me_tup (ma_cons (me_ix (me_f (mf_lst (ma_cons me_str (ma_cons me_str (ma_cons me_str ma_nil))))) (me_bin om_mod (me_callTy cm_int rfl T.z_int (by decide +kernel) (ma_cons (me_var 2) ma_nil)) me_int)) (ma_cons (me_ix (me_var 1) (me_bin om_mod (me_bin om_div (me_callTy cm_int rfl T.z_int (by decide +kernel) (ma_cons (me_var 2) ma_nil)) me_int) (me_callB cm_len rfl T.z_len PySem.boot_len (ma_cons (me_var 1) ma_nil)))) ma_nil))))))))
theorem ok_w_after (hw : w = G.w) (T : Txt K mg G) {f : Addr} {fd : FuncData} (F : Fun K "_law_after" "_law_after" s_w_after f fd) :
    FnOk Pg w K mg base (L2.CX Pg w) 1 f fd ["_law_active", "_law_blocks_here"] (spM G 2 mf_w_after) :=
  fn_ok (k := 0) (N := n_w_after) (mb := mb_w_after) T.hK hw F sc_w_after fun cdv A outer s H E hr =>
  (mss_cons (ms_for (passes_of rfl) rfl (mi_seq (me_var 1)) (mg_name 2 sc_w_after.nd) (mss_cons (ms_setLc (i := 3) (own := [("_law_name", 4)]) rfl sc_w_after.nd (mi_seq (me_var 0)) (blkOk_by (N := n_w_after) (sc := defScope s_w_after) (by decide +kernel)) (fun _ _ _ _ _ => (mg_name 4 sc_w_after.nd)) (fun _ _ _ _ _ => (mifs_one (mt_cmp (om_ne hr.units) (me_var 4) (me_ix (me_var 2) me_int) (nomark _)))) (fun _ _ _ _ _ => (me_var 4)) (sw_true rfl rfl rfl (by decide +kernel)))
  (mss_cons (ms_if (mt_cmp (om_eq hr.units) (me_ix (me_var 2) me_int) me_str (nomark _)) (mss_one (ms_set 3 sc_w_after.nd (me_bin om_add (me_f (mf_lst (ma_cons (me_ix (me_var 2) me_int) ma_nil))) (me_var 3)))) mss_nil)
  (mss_one (ms_set 0 sc_w_after.nd (me_callTy cm_tuple rfl T.z_tuple (by decide +kernel) (ma_cons (me_var 3) ma_nil)))))))
  (mss_one (ms_ret (me_var 0))))
theorem okq_Switchboard_active (hw : w = G.w) (T : Txt K mg G) {f : Addr} {fd : FuncData} (F : Fun K "active" "Switchboard.active" s_Switchboard_active f fd) :
    FnQ Pg w K mg base 1 f fd ["self"] (spQ G 1 mf_Switchboard_active) :=
  fn_okQ (k := 0) (N := n_Switchboard_active) (mb := mb_Switchboard_active) T.hK hw F sc_Switchboard_active fun cdv A outer s H hr =>
  (mss_one (ms_ret (me_fld T.f_now (me_var 0))))
theorem ok_Switchboard_active (hw : w = G.w) (T : Txt K mg G) {f : Addr} {fd : FuncData} (F : Fun K "active" "Switchboard.active" s_Switchboard_active f fd) :
    FnOk Pg w K mg base (L2.CX Pg w) 1 f fd ["self"] (spM G 1 mf_Switchboard_active) :=
  fn_ok (k := 0) (N := n_Switchboard_active) (mb := mb_Switchboard_active) T.hK hw F sc_Switchboard_active fun cdv A outer s H E hr =>
  (mss_one (ms_ret (me_fld T.f_now (me_var 0))))
theorem ok_Block_init (hw : w = G.w) (T : Txt K mg G) {f : Addr} {fd : FuncData} (F : Fun K "__init__" "Block.__init__" s_Block_init f fd) :
    FnOk Pg w K mg base (L2.CX Pg w) 1 f fd ["self", "board", "way", "layer"] (spM G 4 mf_Block_init) :=
  fn_ok (k := 0) (N := n_Block_init) (mb := mb_Block_init) T.hK hw F sc_Block_init fun cdv A outer s H E hr =>
  (mss_cons (ms_fld T.f_board (me_var 0) (me_var 1))
  (mss_cons (ms_fld T.f_way (me_var 0) (me_var 2))
  (mss_cons (ms_fld T.f_layer (me_var 0) (me_var 3))
  (mss_one (ms_fld T.f_last (me_var 0) me_non)))))
theorem lz_lam_law_0 : ∀ y ∈ (lamS (exA 1 (stE (stB 2 (stB 6 s_law))))).names, y.2 = .free → (defScope s_law).names.lookup y.1 = some .cell ∨ (defScope s_law).names.lookup y.1 = some .free := by decide +kernel
theorem sl_lam_law_0 : NdefX.NScope ["_law_last", "_law_board"] [] ["_law_last", "_law_board"] (lamS (exA 1 (stE (stB 2 (stB 6 s_law))))) := NdefX.nscope_by (by decide +kernel)
theorem ok_lam_law_0 (hw : w = G.w) (T : Txt K mg G) (P_Switchboard_Switchboard_active : PropOk Pg w K mg base (G.at base) 1 "active" "Switchboard" mf_Switchboard_active) (N_Block_3 : MkOk3 Pg w K mg base (G.at base) 1 "Block" "Block" 3 [] mf_Block_init) : ∀ F, G.nf "lam_law_0" F → VOk Pg w K mg base (L2.CX Pg w) 3 F (spV (G.at base) F 0 lf_lam_law_0) := fun F hF => by
  obtain ⟨c', cl, hfr, rfl⟩ := T.m_lam_law_0 F hF
  have T := T.ats (b := base)
  exact lam_ok (k := 2) (G := G.at base) (N := ["_law_last", "_law_board"]) (ps := []) (fr := ["_law_last", "_law_board"]) (e := le_lam_law_0) T.hK hw rfl hfr sl_lam_law_0 (fun pm ctv us hl => match us, hl with | [], _ => rfl) fun f A outer s H E hr =>
    (me_f (mf_lst (ma_cons (me_cmp om_is (me_mk3 N_Block_3 hr (by decide) (takes_of rfl rfl rfl rfl) rfl (ma_cons (me_var 1) (ma_cons (me_ix (me_ix (me_var 0) me_int) me_int) (ma_cons (me_ix (me_ix (me_var 0) me_int) me_int) ma_nil)))) me_non (nomark _)) (ma_cons (me_prop P_Switchboard_Switchboard_active hr (by decide) (me_var 1)) ma_nil))))
theorem ok_w_failing (hw : w = G.w) (T : Txt K mg G) {f : Addr} {fd : FuncData} (F : Fun K "_law_failing" "_law_failing" s_w_failing f fd) :
    FnOk Pg w K mg base (L2.CX Pg w) 1 f fd ["_law_way", "_law_table", "_law_word"] (spM G 3 mf_w_failing) :=
  fn_ok (k := 0) (N := n_w_failing) (mb := mb_w_failing) T.hK hw F sc_w_failing fun cdv A outer s H E hr =>
  (mss_cons (ms_if (mt_cmp (om_eq hr.units) (me_var 0) me_int (nomark _)) (mss_one (ms_ret (me_getX (units65 hr) rfl (takes_of rfl rfl rfl rfl) (cls_none T.b_KeyError.2.1) (me_var 1) (me_var 2)))) mss_nil)
  (mss_one (ms_ret (me_fdX rfl (takes_of rfl rfl rfl rfl) (cls_none T.b_ZeroDivisionError.2.1) (me_callB cm_len rfl T.z_len PySem.boot_len (ma_cons (me_var 2) ma_nil)) (me_callB cm_lenD rfl T.z_len PySem.boot_len (ma_cons (me_var 1) ma_nil))))))
theorem lz_lam_w_left_by_error_0 : ∀ y ∈ (lamS (exA 1 (stE (stB 0 (stB 0 s_w_left_by_error))))).names, y.2 = .free → (defScope s_w_left_by_error).names.lookup y.1 = some .cell ∨ (defScope s_w_left_by_error).names.lookup y.1 = some .free := by decide +kernel
theorem sl_lam_w_left_by_error_0 : NdefX.NScope ["_law_word", "_law_way"] [] ["_law_word", "_law_way"] (lamS (exA 1 (stE (stB 0 (stB 0 s_w_left_by_error))))) := NdefX.nscope_by (by decide +kernel)
theorem ok_lam_w_left_by_error_0 (hw : w = G.w) (T : Txt K mg G) (C_w_failing : Cal Pg w K mg base (G.at base) 1 "_law_failing" 3 mf_w_failing) : ∀ F, G.nf "lam_w_left_by_error_0" F → VOk Pg w K mg base (L2.CX Pg w) 2 F (spV (G.at base) F 0 lf_lam_w_left_by_error_0) := fun F hF => by
  obtain ⟨c', cl, hfr, rfl⟩ := T.m_lam_w_left_by_error_0 F hF
  have T := T.ats (b := base)
  exact lam_ok (k := 1) (G := G.at base) (N := ["_law_word", "_law_way"]) (ps := []) (fr := ["_law_word", "_law_way"]) (e := le_lam_w_left_by_error_0) T.hK hw rfl hfr sl_lam_w_left_by_error_0 (fun pm ctv us hl => match us, hl with | [], _ => rfl) fun f A outer s H E hr =>
    (me_call C_w_failing hr (by decide) (takes_of rfl rfl rfl rfl) rfl (ma_cons (me_var 1) (ma_cons me_d0 (ma_cons (me_var 0) ma_nil))))
theorem ok_Entering_init (hw : w = G.w) (T : Txt K mg G) {f : Addr} {fd : FuncData} (F : Fun K "__init__" "Entering.__init__" s_Entering_init f fd) :
    FnOk Pg w K mg base (L2.CX Pg w) 1 f fd ["self", "before", "outer"] (spM G 3 mf_Entering_init) :=
  fn_ok (k := 0) (N := n_Entering_init) (mb := mb_Entering_init) T.hK hw F sc_Entering_init fun cdv A outer s H E hr =>
  (mss_cons (ms_fld T.f_before (me_var 0) (me_var 1))
  (mss_one (ms_fld T.f_outer (me_var 0) (me_var 2))))
theorem ok_switch_layer (hw : w = G.w) (T : Txt K mg G) {f : Addr} {fd : FuncData} (F : Fun K "switch_layer" "switch_layer" s_switch_layer f fd) :
    FnOk Pg w K mg base (L2.CX Pg w) 1 f fd ["active", "way", "layer"] (spM G 3 mf_switch_layer) :=
  fn_ok (k := 0) (N := n_switch_layer) (mb := mb_switch_layer) T.hK hw F sc_switch_layer fun cdv A outer s H E hr =>
  (mss_cons (ms_set 3 sc_switch_layer.nd (me_callTy cm_tuple rfl T.z_tuple (by decide +kernel) (ma_cons (me_f (mf_lc (own := [("name", 4)]) rfl sc_switch_layer.nd (mi_seq (me_var 0)) (blkOk_by (N := n_switch_layer) (sc := defScope s_switch_layer) (by decide +kernel)) (fun _ _ _ _ _ => (mg_name 4 sc_switch_layer.nd)) (fun _ _ _ _ _ => (mifs_one (mt_cmp (om_ne hr.units) (me_var 4) (me_var 2) (nomark _)))) (fun _ _ _ _ _ => (me_var 4)))) ma_nil)))
  (mss_cons (ms_if (mt_cmp (om_eq hr.units) (me_var 1) me_str (nomark _)) (mss_one (ms_ret (me_bin om_add (me_tup (ma_cons (me_var 2) ma_nil)) (me_var 3)))) mss_nil)
  (mss_one (ms_ret (me_var 3)))))
theorem ok_Block_enter (hw : w = G.w) (T : Txt K mg G) (N_Entering_2 : MkOk3 Pg w K mg base G 1 "Entering" "Entering" 2 [] mf_Entering_init) (C_switch_layer : Cal Pg w K mg base G 1 "switch_layer" 3 mf_switch_layer) {f : Addr} {fd : FuncData} (F : Fun K "__enter__" "Block.__enter__" s_Block_enter f fd) :
    FnOk Pg w K mg base (L2.CX Pg w) 3 f fd ["self"] (spM G 1 mf_Block_enter) :=
  fn_ok (k := 2) (N := n_Block_enter) (mb := mb_Block_enter) T.hK hw F sc_Block_enter fun cdv A outer s H E hr =>
  (mss_cons (ms_fld T.f_last (me_var 0) (me_mk3 N_Entering_2 hr (by decide) (takes_of rfl rfl rfl rfl) rfl (ma_cons (me_fld T.f_now (me_fld T.f_board (me_var 0))) (ma_cons (me_fld T.f_last (me_var 0)) ma_nil))))
  (mss_cons (ms_fld T.f_now (me_fld T.f_board (me_var 0)) (me_call C_switch_layer hr (by decide) (takes_of rfl rfl rfl rfl) rfl (ma_cons (me_fld T.f_now (me_fld T.f_board (me_var 0))) (ma_cons (me_fld T.f_way (me_var 0)) (ma_cons (me_fld T.f_layer (me_var 0)) ma_nil)))))
  (mss_one (ms_ret (me_fld T.f_now (me_fld T.f_board (me_var 0)))))))
theorem ok_Block_exit (hw : w = G.w) (T : Txt K mg G) {f : Addr} {fd : FuncData} (F : Fun K "__exit__" "Block.__exit__" s_Block_exit f fd) :
    FnQ Pg w K mg base 1 f fd ["self", "kind", "value", "trace"] (spQ G 4 mf_Block_exit) :=
  fn_okQ (k := 0) (N := n_Block_exit) (mb := mb_Block_exit) T.hK hw F sc_Block_exit fun cdv A outer s H hr =>
  (mss_cons (ms_fld T.f_now (me_fld T.f_board (me_var 0)) (me_fld T.f_before (me_fld T.f_last (me_var 0))))
  (mss_one (ms_fld T.f_last (me_var 0) (me_fld T.f_outer (me_fld T.f_last (me_var 0))))))
theorem ok_Switchboard_within_0 {kk : Nat} (hk0 : 3 ≤ kk) {mr : List D → M D} (hw : w = G.w) (T : Txt K mg G) (TB_0 : M3.TabOk Pg w K mg base G 2 0 tab_0) (W_Block : WithOk Pg w K mg base G 3 "Block" mf_Block_enter mf_Block_exit) (N_Block_3 : MkOk3 Pg w K mg base G 1 "Block" "Block" 3 [] mf_Block_init) (MREC : MthR Pg w K mg base G kk "within" "Switchboard" mr) {f : Addr} {fd : FuncData} (F : Fun K "within" "Switchboard.within" s_Switchboard_within_0 f fd) :
    FnR Pg w K mg base (L2.CX Pg w) (kk + 1) f (spR G (mfnS 6 2 (mb_Switchboard_within_0 mr))) :=
  fn_okR (k := kk) (N := n_Switchboard_within_0) (ps := ["self", "deed"]) (mb := mb_Switchboard_within_0 mr) T.hK hw F sc_Switchboard_within_0 (by obtain ⟨_, _, _, _, _, _, _, _, _, rfl, _, _⟩ := F.ex; exact StX.bind_star2 (B := fun us => bindArgs _ ⟨us, []⟩) (fun _ _ => rfl) (fun _ _ _ _ => rfl)) fun cdv A outer s H E hr =>
  (mss_cons (ms_if (mt_cmp (om_eq hr.units) (me_callB cm_len rfl T.z_len PySem.boot_len (ma_cons (me_var 2) ma_nil)) me_int (nomark _)) (mss_one (ms_ret (me_callV0 TB_0 T.hf hr (by omega) (takes_of rfl rfl rfl rfl) 1))) mss_nil)
  (mss_cons (ms_asgStar rfl (me_var 2) (mg_tup rfl (mgs_cons (mg_name 3 sc_Switchboard_within_0.nd) (mgs_cons (mg_name 4 sc_Switchboard_within_0.nd) mgs_nil))) (mg_name 5 sc_Switchboard_within_0.nd))
  (mss_one (ms_with W_Block rfl rfl rfl (takes_of rfl rfl rfl rfl) hr (by omega) (me_mk3 N_Block_3 hr (by omega) (takes_of rfl rfl rfl rfl) rfl (ma_cons (me_var 0) (ma_cons (me_var 3) (ma_cons (me_var 4) ma_nil)))) (fun W pn xe tk own => (mss_one (ms_ret (me_methS (one MREC) hr (by omega) tk (me_var 0) (me_var 1) (me_var 5)))))))))
theorem ok_w_within_0 (hw : w = G.w) (T : Txt K mg G) (MR_Switchboard_Switchboard_within_0 : MthR Pg w K mg base G 8 "within" "Switchboard" (mf_Switchboard_within_0 5)) {f : Addr} {fd : FuncData} (F : Fun K "_law_within" "_law_within" s_w_within_0 f fd) :
    FnOk Pg w K mg base (L2.CX Pg w) 9 f fd ["_law_board", "_law_deed", "_law_blocks_here"] (spM G 3 mf_w_within_0) :=
  fn_ok (k := 8) (N := n_w_within_0) (mb := mb_w_within_0) T.hK hw F sc_w_within_0 fun cdv A outer s H E hr =>
  (mss_cons (ms_if (mt_cmp (om_eq hr.units) (me_callB cm_len rfl T.z_len PySem.boot_len (ma_cons (me_var 2) ma_nil)) me_int (nomark _)) (mss_one (ms_ret (me_methRp (one MR_Switchboard_Switchboard_within_0) hr (by decide) (takes_of rfl rfl rfl rfl) (me_var 0) (ma_cons (me_var 1) ma_nil)))) mss_nil)
  (mss_cons (ms_if (mt_cmp (om_eq hr.units) (me_callB cm_len rfl T.z_len PySem.boot_len (ma_cons (me_var 2) ma_nil)) me_int (nomark _)) (mss_one (ms_ret (me_methRp (one MR_Switchboard_Switchboard_within_0) hr (by decide) (takes_of rfl rfl rfl rfl) (me_var 0) (ma_cons (me_var 1) (ma_cons (me_ix (me_var 2) me_int) ma_nil))))) mss_nil)
  (mss_cons (ms_if (mt_cmp (om_eq hr.units) (me_callB cm_len rfl T.z_len PySem.boot_len (ma_cons (me_var 2) ma_nil)) me_int (nomark _)) (mss_one (ms_ret (me_methRp (one MR_Switchboard_Switchboard_within_0) hr (by decide) (takes_of rfl rfl rfl rfl) (me_var 0) (ma_cons (me_var 1) (ma_cons (me_ix (me_var 2) me_int) (ma_cons (me_ix (me_var 2) me_int) ma_nil)))))) mss_nil)
  (mss_cons (ms_if (mt_cmp (om_eq hr.units) (me_callB cm_len rfl T.z_len PySem.boot_len (ma_cons (me_var 2) ma_nil)) me_int (nomark _)) (mss_one (ms_ret (me_methRp (one MR_Switchboard_Switchboard_within_0) hr (by decide) (takes_of rfl rfl rfl rfl) (me_var 0) (ma_cons (me_var 1) (ma_cons (me_ix (me_var 2) me_int) (ma_cons (me_ix (me_var 2) me_int) (ma_cons (me_ix (me_var 2) me_int) ma_nil))))))) mss_nil)
  (mss_one (ms_ret (me_methRp (one MR_Switchboard_Switchboard_within_0) hr (by decide) (takes_of rfl rfl rfl rfl) (me_var 0) (ma_cons (me_var 1) (ma_cons (me_ix (me_var 2) me_int) (ma_cons (me_ix (me_var 2) me_int) (ma_cons (me_ix (me_var 2) me_int) (ma_cons (me_ix (me_var 2) me_int) ma_nil))))))))))))
theorem ok_w_left_by_error (hw : w = G.w) (T : Txt K mg G) (CB_w_within_0 : CalB Pg w K mg base G 9 "_law_within" 3 mf_w_within_0) (PQ_Switchboard_Switchboard_active : PropOkQ Pg w K mg base (G.at base) 1 "active" "Switchboard" mf_Switchboard_active) {f c PT : Addr} {fd : FuncData} (F : Fun K "_law_left_by_error" "_law_left_by_error" s_w_left_by_error f fd) (hc : fd.code = .ref c) (OT : OwnT G mg base c PT (((("_law_left_by_error" : Str) ++ (".<locals>." : Str)) : Str) ++ ("<lambda>" : Str))) :
    FnOk Pg w K mg base (L2.CX Pg w) 10 f fd ["_law_board", "_law_way", "_law_word", "_law_blocks_here"] (spM (G.at base) 4 mf_w_left_by_error) :=
  fn_okC (k := 9) (N := n_w_left_by_error) (mb := mb_w_left_by_error) (G := G) T.hK hw F hc sc_w_left_by_error fun A outer s H E hr => by
  have T := T.ow (b := base) (w' := ownOf n_w_left_by_error (defScope s_w_left_by_error) (PyProof.Rows.envOfC "_law_left_by_error" (defScope s_w_left_by_error) s.heap.objs.size f (.ref c)).cells)
  exact (mss_cons (ms_try2 rfl rfl (names_b T.b_KeyError rfl (by decide) (by decide +kernel) (by decide)) (names_b T.b_ZeroDivisionError rfl (by decide) (by decide +kernel) (by decide)) (takes_of rfl rfl rfl rfl) (subT_ok T.x_KeyError) (subT_ok T.x_ZeroDivisionError) (fun W pn xe tk o => (mss_one (ms_drop (me_callR (Owner.ok ⟨rfl, fun _ => rfl, rfl⟩) rfl CB_w_within_0 hr (by decide) tk rfl (ma_cons (me_var 0) (ma_cons (me_lam (fr := ["_law_word", "_law_way"]) (js := [2, 1]) ⟨rfl, fun _ => rfl, rfl⟩ OT.tb rfl OT.m OT.u rfl T.l_lam_w_left_by_error_0 rfl lz_lam_w_left_by_error_0) (ma_cons (me_var 3) ma_nil))))))) (fun a oe cv dd pn c x hz hfd cr => (mss_one (ms_ret (me_f (mf_lst (ma_cons me_int (ma_cons (me_propQ (PQ_Switchboard_Switchboard_active.ow) (L2H.roomH_mark hr _) (by decide) (me_var 0)) ma_nil))))))) (fun a oe cv dd pn c x hz hfd cr => (mss_one (ms_ret (me_f (mf_lst (ma_cons me_int (ma_cons (me_propQ (PQ_Switchboard_Switchboard_active.ow) (L2H.roomH_mark hr _) (by decide) (me_var 0)) ma_nil))))))))
  (mss_one (ms_ret (me_f (mf_lst ma_nil)))))
theorem lz_lam_law_1 : ∀ y ∈ (lamS (exA 1 (stE (stB 4 (stB 6 s_law))))).names, y.2 = .free → (defScope s_law).names.lookup y.1 = some .cell ∨ (defScope s_law).names.lookup y.1 = some .free := by decide +kernel
theorem sl_lam_law_1 : NdefX.NScope ["_law_way", "_law_names", "_law_last", "_law_board"] [] ["_law_way", "_law_names", "_law_last", "_law_board"] (lamS (exA 1 (stE (stB 4 (stB 6 s_law))))) := NdefX.nscope_by (by decide +kernel)
theorem ok_lam_law_1 (hw : w = G.w) (T : Txt K mg G) (P_Switchboard_Switchboard_active : PropOk Pg w K mg base (G.at base) 1 "active" "Switchboard" mf_Switchboard_active) (C_w_left_by_error : Cal Pg w K mg base (G.at base) 10 "_law_left_by_error" 4 mf_w_left_by_error) : ∀ F, G.nf "lam_law_1" F → VOk Pg w K mg base (L2.CX Pg w) 11 F (spV (G.at base) F 0 lf_lam_law_1) := fun F hF => by
  obtain ⟨c', cl, hfr, rfl⟩ := T.m_lam_law_1 F hF
  have T := T.ats (b := base)
  exact lam_ok (k := 10) (G := G.at base) (N := ["_law_way", "_law_names", "_law_last", "_law_board"]) (ps := []) (fr := ["_law_way", "_law_names", "_law_last", "_law_board"]) (e := le_lam_law_1) T.hK hw rfl hfr sl_lam_law_1 (fun pm ctv us hl => match us, hl with | [], _ => rfl) fun f A outer s H E hr =>
    (me_f (mf_lst (ma_cons (me_call C_w_left_by_error hr (by decide) (takes_of rfl rfl rfl rfl) rfl (ma_cons (me_var 3) (ma_cons (me_var 0) (ma_cons (me_ix (me_var 1) me_int) (ma_cons (me_var 2) ma_nil))))) (ma_cons (me_prop P_Switchboard_Switchboard_active hr (by decide) (me_var 3)) ma_nil))))
theorem lz_lam_law_2 : ∀ y ∈ (lamS (exA 1 (exC (stT (stB 7 (stB 6 s_law)))))).names, y.2 = .free → (defScope s_law).names.lookup y.1 = some .cell ∨ (defScope s_law).names.lookup y.1 = some .free := by decide +kernel
theorem sl_lam_law_2 : NdefX.NScope ["_law_turn", "_law_board"] [] ["_law_turn", "_law_board"] (lamS (exA 1 (exC (stT (stB 7 (stB 6 s_law)))))) := NdefX.nscope_by (by decide +kernel)
theorem ok_lam_law_2 (hw : w = G.w) (T : Txt K mg G) (P_Switchboard_Switchboard_active : PropOk Pg w K mg base (G.at base) 1 "active" "Switchboard" mf_Switchboard_active) : ∀ F, G.nf "lam_law_2" F → VOk Pg w K mg base (L2.CX Pg w) 3 F (spV (G.at base) F 0 lf_lam_law_2) := fun F hF => by
  obtain ⟨c', cl, hfr, rfl⟩ := T.m_lam_law_2 F hF
  have T := T.ats (b := base)
  exact lam_ok (k := 2) (G := G.at base) (N := ["_law_turn", "_law_board"]) (ps := []) (fr := ["_law_turn", "_law_board"]) (e := le_lam_law_2) T.hK hw rfl hfr sl_lam_law_2 (fun pm ctv us hl => match us, hl with | [], _ => rfl) fun f A outer s H E hr =>
    (me_f (mf_lst (ma_cons (me_prop P_Switchboard_Switchboard_active hr (by decide) (me_var 1)) (ma_cons (me_var 0) ma_nil))))
theorem lz_lam_law_3 : ∀ y ∈ (lamS (exA 1 (exC (exB 0 (stT (stB 0 (stB 8 (stB 6 s_law)))))))).names, y.2 = .free → (defScope s_law).names.lookup y.1 = some .cell ∨ (defScope s_law).names.lookup y.1 = some .free := by decide +kernel
theorem sl_lam_law_3 : NdefX.NScope ["_law_thing"] [] ["_law_thing"] (lamS (exA 1 (exC (exB 0 (stT (stB 0 (stB 8 (stB 6 s_law)))))))) := NdefX.nscope_by (by decide +kernel)
theorem ok_lam_law_3 (hw : w = G.w) (T : Txt K mg G) : ∀ F, G.nf "lam_law_3" F → VOk Pg w K mg base (L2.CX Pg w) 1 F (spV (G.at base) F 0 lf_lam_law_3) := fun F hF => by
  obtain ⟨c', cl, hfr, rfl⟩ := T.m_lam_law_3 F hF
  have T := T.ats (b := base)
  exact lam_ok (k := 0) (G := G.at base) (N := ["_law_thing"]) (ps := []) (fr := ["_law_thing"]) (e := le_lam_law_3) T.hK hw rfl hfr sl_lam_law_3 (fun pm ctv us hl => match us, hl with | [], _ => rfl) fun f A outer s H E hr =>
    (me_var 0)
theorem ok_Switchboard_within_1 {kk : Nat} (hk0 : 11 ≤ kk) {mr : List D → M D} (hw : w = G.w) (T : Txt K mg G) (TB_1 : M3.TabOk Pg w K mg base G 11 0 tab_1) (W_Block : WithOk Pg w K mg base G 3 "Block" mf_Block_enter mf_Block_exit) (N_Block_3 : MkOk3 Pg w K mg base G 1 "Block" "Block" 3 [] mf_Block_init) (MREC : MthR Pg w K mg base G kk "within" "Switchboard" mr) {f : Addr} {fd : FuncData} (F : Fun K "within" "Switchboard.within" s_Switchboard_within_1 f fd) :
    FnR Pg w K mg base (L2.CX Pg w) (kk + 1) f (spR G (mfnS 6 2 (mb_Switchboard_within_1 mr))) :=
  fn_okR (k := kk) (N := n_Switchboard_within_1) (ps := ["self", "deed"]) (mb := mb_Switchboard_within_1 mr) T.hK hw F sc_Switchboard_within_1 (by obtain ⟨_, _, _, _, _, _, _, _, _, rfl, _, _⟩ := F.ex; exact StX.bind_star2 (B := fun us => bindArgs _ ⟨us, []⟩) (fun _ _ => rfl) (fun _ _ _ _ => rfl)) fun cdv A outer s H E hr =>
  (mss_cons (ms_if (mt_cmp (om_eq hr.units) (me_callB cm_len rfl T.z_len PySem.boot_len (ma_cons (me_var 2) ma_nil)) me_int (nomark _)) (mss_one (ms_ret (me_callV0 TB_1 T.hf hr (by omega) (takes_of rfl rfl rfl rfl) 1))) mss_nil)
  (mss_cons (ms_asgStar rfl (me_var 2) (mg_tup rfl (mgs_cons (mg_name 3 sc_Switchboard_within_1.nd) (mgs_cons (mg_name 4 sc_Switchboard_within_1.nd) mgs_nil))) (mg_name 5 sc_Switchboard_within_1.nd))
  (mss_one (ms_with W_Block rfl rfl rfl (takes_of rfl rfl rfl rfl) hr (by omega) (me_mk3 N_Block_3 hr (by omega) (takes_of rfl rfl rfl rfl) rfl (ma_cons (me_var 0) (ma_cons (me_var 3) (ma_cons (me_var 4) ma_nil)))) (fun W pn xe tk own => (mss_one (ms_ret (me_methS (one MREC) hr (by omega) tk (me_var 0) (me_var 1) (me_var 5)))))))))
theorem ok_w_within_1 (hw : w = G.w) (T : Txt K mg G) (MR_Switchboard_Switchboard_within_1 : MthR Pg w K mg base G 16 "within" "Switchboard" (mf_Switchboard_within_1 5)) {f : Addr} {fd : FuncData} (F : Fun K "_law_within" "_law_within" s_w_within_1 f fd) :
    FnOk Pg w K mg base (L2.CX Pg w) 17 f fd ["_law_board", "_law_deed", "_law_blocks_here"] (spM G 3 mf_w_within_1) :=
  fn_ok (k := 16) (N := n_w_within_1) (mb := mb_w_within_1) T.hK hw F sc_w_within_1 fun cdv A outer s H E hr =>
  (mss_cons (ms_if (mt_cmp (om_eq hr.units) (me_callB cm_len rfl T.z_len PySem.boot_len (ma_cons (me_var 2) ma_nil)) me_int (nomark _)) (mss_one (ms_ret (me_methRp (one MR_Switchboard_Switchboard_within_1) hr (by decide) (takes_of rfl rfl rfl rfl) (me_var 0) (ma_cons (me_var 1) ma_nil)))) mss_nil)
  (mss_cons (ms_if (mt_cmp (om_eq hr.units) (me_callB cm_len rfl T.z_len PySem.boot_len (ma_cons (me_var 2) ma_nil)) me_int (nomark _)) (mss_one (ms_ret (me_methRp (one MR_Switchboard_Switchboard_within_1) hr (by decide) (takes_of rfl rfl rfl rfl) (me_var 0) (ma_cons (me_var 1) (ma_cons (me_ix (me_var 2) me_int) ma_nil))))) mss_nil)
  (mss_cons (ms_if (mt_cmp (om_eq hr.units) (me_callB cm_len rfl T.z_len PySem.boot_len (ma_cons (me_var 2) ma_nil)) me_int (nomark _)) (mss_one (ms_ret (me_methRp (one MR_Switchboard_Switchboard_within_1) hr (by decide) (takes_of rfl rfl rfl rfl) (me_var 0) (ma_cons (me_var 1) (ma_cons (me_ix (me_var 2) me_int) (ma_cons (me_ix (me_var 2) me_int) ma_nil)))))) mss_nil)
  (mss_cons (ms_if (mt_cmp (om_eq hr.units) (me_callB cm_len rfl T.z_len PySem.boot_len (ma_cons (me_var 2) ma_nil)) me_int (nomark _)) (mss_one (ms_ret (me_methRp (one MR_Switchboard_Switchboard_within_1) hr (by decide) (takes_of rfl rfl rfl rfl) (me_var 0) (ma_cons (me_var 1) (ma_cons (me_ix (me_var 2) me_int) (ma_cons (me_ix (me_var 2) me_int) (ma_cons (me_ix (me_var 2) me_int) ma_nil))))))) mss_nil)
  (mss_one (ms_ret (me_methRp (one MR_Switchboard_Switchboard_within_1) hr (by decide) (takes_of rfl rfl rfl rfl) (me_var 0) (ma_cons (me_var 1) (ma_cons (me_ix (me_var 2) me_int) (ma_cons (me_ix (me_var 2) me_int) (ma_cons (me_ix (me_var 2) me_int) (ma_cons (me_ix (me_var 2) me_int) ma_nil))))))))))))
theorem ok_law (hw : w = G.w) (T : Txt K mg G) (C_w_digits : Cal Pg w K mg base (G.at base) 1 "_law_digits" 3 mf_w_digits) (C_w_cell_at : Cal Pg w K mg base (G.at base) 1 "_law_cell_at" 2 mf_w_cell_at) (C_w_spelled : Cal Pg w K mg base (G.at base) 1 "_law_spelled" 2 mf_w_spelled) (N_Switchboard_0 : MkOk3 Pg w K mg base (G.at base) 1 "Switchboard" "Switchboard" 0 [] mf_Switchboard_init) (C_w_blocks : Cal Pg w K mg base (G.at base) 1 "_law_blocks" 2 mf_w_blocks) (C_w_after : Cal Pg w K mg base (G.at base) 1 "_law_after" 2 mf_w_after) (CB_w_within_1 : CalB Pg w K mg base G 17 "_law_within" 3 mf_w_within_1) (P_Switchboard_Switchboard_active : PropOk Pg w K mg base (G.at base) 1 "active" "Switchboard" mf_Switchboard_active) (C_w_left_by_error : Cal Pg w K mg base (G.at base) 10 "_law_left_by_error" 4 mf_w_left_by_error) {f c PT : Addr} {fd : FuncData} (F : Fun K "law" "law" s_law f fd) (hc : fd.code = .ref c) (OT : OwnT G mg base c PT (((("law" : Str) ++ (".<locals>." : Str)) : Str) ++ ("<lambda>" : Str))) :
    FnOk Pg w K mg base (L2.CX Pg w) 18 f fd ["_law_script"] (spM (G.at base) 1 mf_law) :=
  fn_okC (k := 17) (N := n_law) (mb := mb_law) (G := G) T.hK hw F hc sc_law fun A outer s H E hr => by
  have T := T.ow (b := base) (w' := ownOf n_law (defScope s_law) (PyProof.Rows.envOfC "law" (defScope s_law) s.heap.objs.size f (.ref c)).cells)
  exact (mss_cons (ms_set 1 sc_law.nd (me_call (C_w_digits.ow) hr (by decide) (takes_of rfl rfl rfl rfl) rfl (ma_cons (me_call (C_w_cell_at.ow) hr (by decide) (takes_of rfl rfl rfl rfl) rfl (ma_cons (me_var 0) (ma_cons me_int ma_nil))) (ma_cons me_int (ma_cons me_int ma_nil)))))
  (mss_cons (ms_set 2 sc_law.nd (me_call (C_w_spelled.ow) hr (by decide) (takes_of rfl rfl rfl rfl) rfl (ma_cons (me_ix (me_var 1) me_int) (ma_cons me_int ma_nil))))
  (mss_cons (ms_set 3 sc_law.nd (me_f (mf_lst (ma_cons (me_mk30 (N_Switchboard_0.ow) hr (by decide) (takes_of rfl rfl rfl rfl) rfl) (ma_cons (me_mk30 (N_Switchboard_0.ow) hr (by decide) (takes_of rfl rfl rfl rfl) rfl) ma_nil)))))
  (mss_cons (ms_set 4 sc_law.nd (me_call (C_w_blocks.ow) hr (by decide) (takes_of rfl rfl rfl rfl) rfl (ma_cons (me_sl (me_var 1) (mp_some me_int) (mp_some (me_bin om_add me_int (me_bin om_mod (me_callTy cm_int rfl T.z_int (by decide +kernel) (ma_cons (me_ix (me_var 1) me_int) ma_nil)) me_int)))) (ma_cons (me_var 2) ma_nil))))
  (mss_cons (ms_set 5 sc_law.nd (me_call (C_w_blocks.ow) hr (by decide) (takes_of rfl rfl rfl rfl) rfl (ma_cons (me_sl (me_var 1) (mp_some me_int) (mp_some (me_bin om_add me_int (me_bin om_mod (me_bin om_div (me_callTy cm_int rfl T.z_int (by decide +kernel) (ma_cons (me_ix (me_var 1) me_int) ma_nil)) me_int) me_int)))) (ma_cons (me_var 2) ma_nil))))
  (mss_cons (ms_set 6 sc_law.nd (me_call (C_w_after.ow) hr (by decide) (takes_of rfl rfl rfl rfl) rfl (ma_cons (me_tup ma_nil) (ma_cons (me_var 4) ma_nil))))
  (mss_cons (ms_for (passes_of rfl) rfl (mi_range1 rfl T.z_range (ma_cons me_int ma_nil)) (mg_name 7 sc_law.nd) (mss_cons (ms_set 8 sc_law.nd (me_ix (me_var 3) (me_bin om_mod (me_bin om_add (me_var 7) (me_callTy cm_int rfl T.z_int (by decide +kernel) (ma_cons (me_ix (me_var 1) me_int) ma_nil))) me_int)))
  (mss_cons (ms_set 9 sc_law.nd (me_bin om_mod (me_bin om_div (me_callTy cm_int rfl T.z_int (by decide +kernel) (ma_cons (me_ix (me_var 1) me_int) ma_nil)) (me_ix (me_f (mf_lst (ma_cons me_int (ma_cons me_int ma_nil)))) (me_var 7))) me_int))
  (mss_cons (ms_set 10 sc_law.nd (me_callR (Owner.ok ⟨rfl, fun _ => rfl, rfl⟩) rfl CB_w_within_1 hr (by decide) (takes_of rfl rfl rfl rfl) rfl (ma_cons (me_var 8) (ma_cons (me_lam (fr := ["_law_last", "_law_board"]) (js := [5, 8]) ⟨rfl, fun _ => rfl, rfl⟩ OT.tb rfl OT.m OT.u rfl T.l_lam_law_0 rfl lz_lam_law_0) (ma_cons (me_var 4) ma_nil)))))
  (mss_cons (ms_if (mt_w (mw_or (mt_cmp (om_ne hr.units) (me_var 10) (me_f (mf_lst (ma_cons me_bl (ma_cons (me_var 6) ma_nil)))) (nomark _)) (mw_or1 (mt_cmp (om_ne hr.units) (me_prop (P_Switchboard_Switchboard_active.ow) hr (by decide) (me_var 8)) (me_tup ma_nil) (nomark _))))) (mss_one (ms_ret me_bl)) mss_nil)
  (mss_cons (ms_set 11 sc_law.nd (me_callR (Owner.ok ⟨rfl, fun _ => rfl, rfl⟩) rfl CB_w_within_1 hr (by decide) (takes_of rfl rfl rfl rfl) rfl (ma_cons (me_var 8) (ma_cons (me_lam (fr := ["_law_way", "_law_names", "_law_last", "_law_board"]) (js := [9, 2, 5, 8]) ⟨rfl, fun _ => rfl, rfl⟩ OT.tb rfl OT.m OT.u rfl T.l_lam_law_1 rfl lz_lam_law_1) (ma_cons (me_var 4) ma_nil)))))
  (mss_cons (ms_if (mt_w (mw_or (mt_cmp (om_ne hr.units) (me_var 11) (me_f (mf_lst (ma_cons (me_f (mf_lst (ma_cons (me_var 9) (ma_cons (me_var 6) ma_nil)))) (ma_cons (me_var 6) ma_nil)))) (nomark _)) (mw_or1 (mt_cmp (om_ne hr.units) (me_prop (P_Switchboard_Switchboard_active.ow) hr (by decide) (me_var 8)) (me_tup ma_nil) (nomark _))))) (mss_one (ms_ret me_bl)) mss_nil)
  (mss_cons (ms_if (mt_cmp (om_ne hr.units) (me_call (C_w_left_by_error.ow) hr (by decide) (takes_of rfl rfl rfl rfl) rfl (ma_cons (me_var 8) (ma_cons (me_bin om_sub me_int (me_var 9)) (ma_cons (me_ix (me_var 2) me_int) (ma_cons (me_var 4) ma_nil))))) (me_f (mf_lst (ma_cons (me_bin om_sub me_int (me_var 9)) (ma_cons (me_tup ma_nil) ma_nil)))) (nomark _)) (mss_one (ms_ret me_bl)) mss_nil)
  (mss_cons (ms_if (mt_cmp (om_ne hr.units) (me_callR (Owner.ok ⟨rfl, fun _ => rfl, rfl⟩) rfl CB_w_within_1 hr (by decide) (takes_of rfl rfl rfl rfl) rfl (ma_cons (me_var 8) (ma_cons (me_lam (fr := ["_law_turn", "_law_board"]) (js := [7, 8]) ⟨rfl, fun _ => rfl, rfl⟩ OT.tb rfl OT.m OT.u rfl T.l_lam_law_2 rfl lz_lam_law_2) (ma_cons (me_var 5) ma_nil)))) (me_f (mf_lst (ma_cons (me_call (C_w_after.ow) hr (by decide) (takes_of rfl rfl rfl rfl) rfl (ma_cons (me_tup ma_nil) (ma_cons (me_var 5) ma_nil))) (ma_cons (me_var 7) ma_nil)))) (nomark _)) (mss_one (ms_ret me_bl)) mss_nil)
  (mss_one (ms_for (passes_of rfl) rfl (mi_seq (me_f (mf_lst (ma_cons me_non (ma_cons me_int (ma_cons me_str (ma_cons (me_tup ma_nil) (ma_cons (me_f (mf_lst (ma_cons (me_ix (me_var 2) me_int) ma_nil))) ma_nil)))))))) (mg_name 12 sc_law.nd) (mss_one (ms_if (mt_w (mw_or (mt_cmp (om_ne hr.units) (me_callR (Owner.ok ⟨rfl, fun _ => rfl, rfl⟩) rfl CB_w_within_1 hr (by decide) (takes_of rfl rfl rfl rfl) rfl (ma_cons (me_var 8) (ma_cons (me_lam (fr := ["_law_thing"]) (js := [12]) ⟨rfl, fun _ => rfl, rfl⟩ OT.tb rfl OT.m OT.u rfl T.l_lam_law_3 rfl lz_lam_law_3) (ma_cons (me_var 5) ma_nil)))) (me_var 12) (nomark _)) (mw_or1 (mt_cmp (om_ne hr.units) (me_prop (P_Switchboard_Switchboard_active.ow) hr (by decide) (me_var 8)) (me_tup ma_nil) (nomark _))))) (mss_one (ms_ret me_bl)) mss_nil)))))))))))))
  (mss_one (ms_ret (me_and (me_cmp (om_eq hr.units) (me_prop (P_Switchboard_Switchboard_active.ow) hr (by decide) (me_ix (me_var 3) me_int)) (me_tup ma_nil) (nomark _)) (me_one (me_cmp (om_eq hr.units) (me_prop (P_Switchboard_Switchboard_active.ow) hr (by decide) (me_ix (me_var 3) me_int)) (me_tup ma_nil) (nomark _)))))))))))))
end
def nfG (c : String) (F : FV) : Prop := (c = "lam_law_0" ∧ ∃ (c' : Addr) (cl : List (Str × Addr)), cl.map (·.1) = (["_law_last", "_law_board"] : List Str) ∧ F = (LF.fv ⟨((("law" : Str) ++ (".<locals>." : Str)) : Str) ++ ("<lambda>" : Str), lamP (exA 1 (stE (stB 2 (stB 6 s_law)))), lamB (exA 1 (stE (stB 2 (stB 6 s_law)))), lamS (exA 1 (stE (stB 2 (stB 6 s_law)))), cl, c'⟩)) ∨ (c = "lam_w_left_by_error_0" ∧ ∃ (c' : Addr) (cl : List (Str × Addr)), cl.map (·.1) = (["_law_word", "_law_way"] : List Str) ∧ F = (LF.fv ⟨((("_law_left_by_error" : Str) ++ (".<locals>." : Str)) : Str) ++ ("<lambda>" : Str), lamP (exA 1 (stE (stB 0 (stB 0 s_w_left_by_error)))), lamB (exA 1 (stE (stB 0 (stB 0 s_w_left_by_error)))), lamS (exA 1 (stE (stB 0 (stB 0 s_w_left_by_error)))), cl, c'⟩)) ∨ (c = "lam_law_1" ∧ ∃ (c' : Addr) (cl : List (Str × Addr)), cl.map (·.1) = (["_law_way", "_law_names", "_law_last", "_law_board"] : List Str) ∧ F = (LF.fv ⟨((("law" : Str) ++ (".<locals>." : Str)) : Str) ++ ("<lambda>" : Str), lamP (exA 1 (stE (stB 4 (stB 6 s_law)))), lamB (exA 1 (stE (stB 4 (stB 6 s_law)))), lamS (exA 1 (stE (stB 4 (stB 6 s_law)))), cl, c'⟩)) ∨ (c = "lam_law_2" ∧ ∃ (c' : Addr) (cl : List (Str × Addr)), cl.map (·.1) = (["_law_turn", "_law_board"] : List Str) ∧ F = (LF.fv ⟨((("law" : Str) ++ (".<locals>." : Str)) : Str) ++ ("<lambda>" : Str), lamP (exA 1 (exC (stT (stB 7 (stB 6 s_law))))), lamB (exA 1 (exC (stT (stB 7 (stB 6 s_law))))), lamS (exA 1 (exC (stT (stB 7 (stB 6 s_law))))), cl, c'⟩)) ∨ (c = "lam_law_3" ∧ ∃ (c' : Addr) (cl : List (Str × Addr)), cl.map (·.1) = (["_law_thing"] : List Str) ∧ F = (LF.fv ⟨((("law" : Str) ++ (".<locals>." : Str)) : Str) ++ ("<lambda>" : Str), lamP (exA 1 (exC (exB 0 (stT (stB 0 (stB 8 (stB 6 s_law))))))), lamB (exA 1 (exC (exB 0 (stT (stB 0 (stB 8 (stB 6 s_law))))))), lamS (exA 1 (exC (exB 0 (stT (stB 0 (stB 8 (stB 6 s_law))))))), cl, c'⟩))
theorem nf_hf : ∀ c F, nfG c F → FnL F := fun c F h => by
  unfold nfG at h
  rcases h with ⟨_, _, _, _, rfl⟩ | ⟨_, _, _, _, rfl⟩ | ⟨_, _, _, _, rfl⟩ | ⟨_, _, _, _, rfl⟩ | ⟨_, _, _, _, rfl⟩
  · exact .inl ⟨_, rfl⟩
  · exact .inl ⟨_, rfl⟩
  · exact .inl ⟨_, rfl⟩
  · exact .inl ⟨_, rfl⟩
  · exact .inl ⟨_, rfl⟩
theorem nf_l_lam_law_0 : ∀ (c' : Addr) (cl : List (Str × Addr)), cl.map (·.1) = (["_law_last", "_law_board"] : List Str) → nfG "lam_law_0" (LF.fv ⟨((("law" : Str) ++ (".<locals>." : Str)) : Str) ++ ("<lambda>" : Str), lamP (exA 1 (stE (stB 2 (stB 6 s_law)))), lamB (exA 1 (stE (stB 2 (stB 6 s_law)))), lamS (exA 1 (stE (stB 2 (stB 6 s_law)))), cl, c'⟩) := fun c' cl e => .inl ⟨rfl, c', cl, e, rfl⟩
theorem nf_m_lam_law_0 : ∀ F, nfG "lam_law_0" F → ∃ (c' : Addr) (cl : List (Str × Addr)), cl.map (·.1) = (["_law_last", "_law_board"] : List Str) ∧ F = (LF.fv ⟨((("law" : Str) ++ (".<locals>." : Str)) : Str) ++ ("<lambda>" : Str), lamP (exA 1 (stE (stB 2 (stB 6 s_law)))), lamB (exA 1 (stE (stB 2 (stB 6 s_law)))), lamS (exA 1 (stE (stB 2 (stB 6 s_law)))), cl, c'⟩) := fun F h => by
  unfold nfG at h
  rcases h with ⟨q, r⟩ | ⟨q, r⟩ | ⟨q, r⟩ | ⟨q, r⟩ | ⟨q, r⟩
  · exact r
  · exact absurd q (by decide)
  · exact absurd q (by decide)
  · exact absurd q (by decide)
  · exact absurd q (by decide)
theorem nf_l_lam_w_left_by_error_0 : ∀ (c' : Addr) (cl : List (Str × Addr)), cl.map (·.1) = (["_law_word", "_law_way"] : List Str) → nfG "lam_w_left_by_error_0" (LF.fv ⟨((("_law_left_by_error" : Str) ++ (".<locals>." : Str)) : Str) ++ ("<lambda>" : Str), lamP (exA 1 (stE (stB 0 (stB 0 s_w_left_by_error)))), lamB (exA 1 (stE (stB 0 (stB 0 s_w_left_by_error)))), lamS (exA 1 (stE (stB 0 (stB 0 s_w_left_by_error)))), cl, c'⟩) := fun c' cl e => .inr (.inl ⟨rfl, c', cl, e, rfl⟩)
theorem nf_m_lam_w_left_by_error_0 : ∀ F, nfG "lam_w_left_by_error_0" F → ∃ (c' : Addr) (cl : List (Str × Addr)), cl.map (·.1) = (["_law_word", "_law_way"] : List Str) ∧ F = (LF.fv ⟨((("_law_left_by_error" : Str) ++ (".<locals>." : Str)) : Str) ++ ("<lambda>" : Str), lamP (exA 1 (stE (stB 0 (stB 0 s_w_left_by_error)))), lamB (exA 1 (stE (stB 0 (stB 0 s_w_left_by_error)))), lamS (exA 1 (stE (stB 0 (stB 0 s_w_left_by_error)))), cl, c'⟩) := fun F h => by
  unfold nfG at h
  rcases h with ⟨q, r⟩ | ⟨q, r⟩ | ⟨q, r⟩ | ⟨q, r⟩ | ⟨q, r⟩
  · exact absurd q (by decide)
  · exact r
  · exact absurd q (by decide)
  · exact absurd q (by decide)
  · exact absurd q (by decide)
theorem nf_l_lam_law_1 : ∀ (c' : Addr) (cl : List (Str × Addr)), cl.map (·.1) = (["_law_way", "_law_names", "_law_last", "_law_board"] : List Str) → nfG "lam_law_1" (LF.fv ⟨((("law" : Str) ++ (".<locals>." : Str)) : Str) ++ ("<lambda>" : Str), lamP (exA 1 (stE (stB 4 (stB 6 s_law)))), lamB (exA 1 (stE (stB 4 (stB 6 s_law)))), lamS (exA 1 (stE (stB 4 (stB 6 s_law)))), cl, c'⟩) := fun c' cl e => .inr (.inr (.inl ⟨rfl, c', cl, e, rfl⟩))
theorem nf_m_lam_law_1 : ∀ F, nfG "lam_law_1" F → ∃ (c' : Addr) (cl : List (Str × Addr)), cl.map (·.1) = (["_law_way", "_law_names", "_law_last", "_law_board"] : List Str) ∧ F = (LF.fv ⟨((("law" : Str) ++ (".<locals>." : Str)) : Str) ++ ("<lambda>" : Str), lamP (exA 1 (stE (stB 4 (stB 6 s_law)))), lamB (exA 1 (stE (stB 4 (stB 6 s_law)))), lamS (exA 1 (stE (stB 4 (stB 6 s_law)))), cl, c'⟩) := fun F h => by
  unfold nfG at h
  rcases h with ⟨q, r⟩ | ⟨q, r⟩ | ⟨q, r⟩ | ⟨q, r⟩ | ⟨q, r⟩
  · exact absurd q (by decide)
  · exact absurd q (by decide)
  · exact r
  · exact absurd q (by decide)
  · exact absurd q (by decide)
theorem nf_l_lam_law_2 : ∀ (c' : Addr) (cl : List (Str × Addr)), cl.map (·.1) = (["_law_turn", "_law_board"] : List Str) → nfG "lam_law_2" (LF.fv ⟨((("law" : Str) ++ (".<locals>." : Str)) : Str) ++ ("<lambda>" : Str), lamP (exA 1 (exC (stT (stB 7 (stB 6 s_law))))), lamB (exA 1 (exC (stT (stB 7 (stB 6 s_law))))), lamS (exA 1 (exC (stT (stB 7 (stB 6 s_law))))), cl, c'⟩) := fun c' cl e => .inr (.inr (.inr (.inl ⟨rfl, c', cl, e, rfl⟩)))
theorem nf_m_lam_law_2 : ∀ F, nfG "lam_law_2" F → ∃ (c' : Addr) (cl : List (Str × Addr)), cl.map (·.1) = (["_law_turn", "_law_board"] : List Str) ∧ F = (LF.fv ⟨((("law" : Str) ++ (".<locals>." : Str)) : Str) ++ ("<lambda>" : Str), lamP (exA 1 (exC (stT (stB 7 (stB 6 s_law))))), lamB (exA 1 (exC (stT (stB 7 (stB 6 s_law))))), lamS (exA 1 (exC (stT (stB 7 (stB 6 s_law))))), cl, c'⟩) := fun F h => by
  unfold nfG at h
  rcases h with ⟨q, r⟩ | ⟨q, r⟩ | ⟨q, r⟩ | ⟨q, r⟩ | ⟨q, r⟩
  · exact absurd q (by decide)
  · exact absurd q (by decide)
  · exact absurd q (by decide)
  · exact r
  · exact absurd q (by decide)
theorem nf_l_lam_law_3 : ∀ (c' : Addr) (cl : List (Str × Addr)), cl.map (·.1) = (["_law_thing"] : List Str) → nfG "lam_law_3" (LF.fv ⟨((("law" : Str) ++ (".<locals>." : Str)) : Str) ++ ("<lambda>" : Str), lamP (exA 1 (exC (exB 0 (stT (stB 0 (stB 8 (stB 6 s_law))))))), lamB (exA 1 (exC (exB 0 (stT (stB 0 (stB 8 (stB 6 s_law))))))), lamS (exA 1 (exC (exB 0 (stT (stB 0 (stB 8 (stB 6 s_law))))))), cl, c'⟩) := fun c' cl e => .inr (.inr (.inr (.inr (⟨rfl, c', cl, e, rfl⟩))))
theorem nf_m_lam_law_3 : ∀ F, nfG "lam_law_3" F → ∃ (c' : Addr) (cl : List (Str × Addr)), cl.map (·.1) = (["_law_thing"] : List Str) ∧ F = (LF.fv ⟨((("law" : Str) ++ (".<locals>." : Str)) : Str) ++ ("<lambda>" : Str), lamP (exA 1 (exC (exB 0 (stT (stB 0 (stB 8 (stB 6 s_law))))))), lamB (exA 1 (exC (exB 0 (stT (stB 0 (stB 8 (stB 6 s_law))))))), lamS (exA 1 (exC (exB 0 (stT (stB 0 (stB 8 (stB 6 s_law))))))), cl, c'⟩) := fun F h => by
  unfold nfG at h
  rcases h with ⟨q, r⟩ | ⟨q, r⟩ | ⟨q, r⟩ | ⟨q, r⟩ | ⟨q, r⟩
  · exact absurd q (by decide)
  · exact absurd q (by decide)
  · exact absurd q (by decide)
  · exact absurd q (by decide)
  · exact r
set_option maxHeartbeats 0 in
theorem all_mk {l : PySem.W.OpenLaw} {w : World} {K : PySem.W.Frag} {h : Heap} {mg : Str → Option Value} {fa f0 f1 f2 f3 f4 f5 f6 f7 f8 f9 f10 f11 f12 f13 f14 f15 f16 f17 f18 : Addr} (X : K.In h) (G0 : h.Ns mainGlobals mg) (hfa : mg "law" = some (.ref fa))
    {CL_Entering : Addr}
    {CL_Block : Addr}
    {CL_Switchboard : Addr}
    {od0 an0 : Option Addr}
    {sl0 : Array (Option Value)}
    {oc0 kV0 dc0 pm0 cd0 ct0 : Value}
    {od1 an1 : Option Addr}
    {sl1 : Array (Option Value)}
    {oc1 kV1 dc1 pm1 cd1 ct1 : Value}
    {od2 an2 : Option Addr}
    {sl2 : Array (Option Value)}
    {oc2 kV2 dc2 pm2 cd2 ct2 : Value}
    {od3 : Option Addr}
    {sl3 : Array (Option Value)}
    {oc3 dc3 pm3 ct3 : Value}
    {od4 an4 : Option Addr}
    {sl4 : Array (Option Value)}
    {oc4 kV4 dc4 pm4 cd4 ct4 : Value}
    {od5 an5 : Option Addr}
    {sl5 : Array (Option Value)}
    {oc5 kV5 dc5 pm5 cd5 ct5 : Value}
    {od6 an6 : Option Addr}
    {sl6 : Array (Option Value)}
    {oc6 kV6 dc6 pm6 cd6 ct6 : Value}
    {od7 an7 : Option Addr}
    {sl7 : Array (Option Value)}
    {oc7 kV7 dc7 pm7 cd7 ct7 : Value}
    {od8 an8 : Option Addr}
    {sl8 : Array (Option Value)}
    {oc8 kV8 dc8 pm8 cd8 ct8 : Value}
    {od9 an9 : Option Addr}
    {sl9 : Array (Option Value)}
    {oc9 kV9 dc9 pm9 cd9 ct9 : Value}
    {od10 an10 : Option Addr}
    {sl10 : Array (Option Value)}
    {oc10 kV10 dc10 pm10 cd10 ct10 : Value}
    {od11 an11 : Option Addr}
    {sl11 : Array (Option Value)}
    {oc11 kV11 dc11 pm11 cd11 ct11 : Value}
    {od12 an12 : Option Addr}
    {sl12 : Array (Option Value)}
    {oc12 kV12 dc12 pm12 cd12 ct12 : Value}
    {od13 an13 : Option Addr}
    {sl13 : Array (Option Value)}
    {oc13 kV13 dc13 pm13 cd13 ct13 : Value}
    {od14 an14 : Option Addr}
    {sl14 : Array (Option Value)}
    {oc14 kV14 dc14 pm14 cd14 ct14 : Value}
    {od15 an15 : Option Addr}
    {sl15 : Array (Option Value)}
    {oc15 kV15 dc15 pm15 cd15 ct15 : Value}
    {od16 an16 : Option Addr}
    {sl16 : Array (Option Value)}
    {oc16 kV16 dc16 pm16 cd16 ct16 : Value}
    {od17 an17 : Option Addr}
    {sl17 : Array (Option Value)}
    {oc17 kV17 dc17 pm17 cd17 ct17 : Value}
    {od18 an18 : Option Addr}
    {sl18 : Array (Option Value)}
    {oc18 kV18 dc18 pm18 cd18 ct18 : Value}
    (n_Entering : PySem.W.nsIn K mainGlobals "Entering" = some (some (.ref CL_Entering)))
    (n_Block : PySem.W.nsIn K mainGlobals "Block" = some (some (.ref CL_Block)))
    (n_Switchboard : PySem.W.nsIn K mainGlobals "Switchboard" = some (some (.ref CL_Switchboard)))
    (cg_Entering : PySem.W.plainGet K CL_Entering Str.empty = true)
    (ch_Entering : PySem.W.hasDictIn K CL_Entering = true)
    (cp_Entering : PySem.W.plainOver K CL_Entering = true)
    (cs_Entering : PySem.W.findIn K (.ref CL_Entering) "__setattr__" = some (some (.builtin "object.__setattr__")))
    (cm_Entering : PySem.W.makesIn K CL_Entering = true)
    (ck_Entering : PySem.W.keepIn K (.ref CL_Entering) = true)
    (cg_Block : PySem.W.plainGet K CL_Block Str.empty = true)
    (ch_Block : PySem.W.hasDictIn K CL_Block = true)
    (cp_Block : PySem.W.plainOver K CL_Block = true)
    (cs_Block : PySem.W.findIn K (.ref CL_Block) "__setattr__" = some (some (.builtin "object.__setattr__")))
    (cm_Block : PySem.W.makesIn K CL_Block = true)
    (ck_Block : PySem.W.keepIn K (.ref CL_Block) = true)
    (cg_Switchboard : PySem.W.plainGet K CL_Switchboard Str.empty = true)
    (ch_Switchboard : PySem.W.hasDictIn K CL_Switchboard = true)
    (cp_Switchboard : PySem.W.plainOver K CL_Switchboard = true)
    (cs_Switchboard : PySem.W.findIn K (.ref CL_Switchboard) "__setattr__" = some (some (.builtin "object.__setattr__")))
    (cm_Switchboard : PySem.W.makesIn K CL_Switchboard = true)
    (ck_Switchboard : PySem.W.keepIn K (.ref CL_Switchboard) = true)
    (na_Switchboard_now : PySem.W.findIn K (.ref CL_Switchboard) "now" = some none)
    (na_Block_board : PySem.W.findIn K (.ref CL_Block) "board" = some none)
    (na_Block_way : PySem.W.findIn K (.ref CL_Block) "way" = some none)
    (na_Block_layer : PySem.W.findIn K (.ref CL_Block) "layer" = some none)
    (na_Block_last : PySem.W.findIn K (.ref CL_Block) "last" = some none)
    (na_Entering_before : PySem.W.findIn K (.ref CL_Entering) "before" = some none)
    (na_Entering_outer : PySem.W.findIn K (.ref CL_Entering) "outer" = some none)
    (in_Switchboard : PySem.W.findIn K (.ref CL_Switchboard) "__init__" = some (some (.ref f3)))
    (in_Block : PySem.W.findIn K (.ref CL_Block) "__init__" = some (some (.ref f7)))
    (in_Entering : PySem.W.findIn K (.ref CL_Entering) "__init__" = some (some (.ref f9)))
    (mt_Switchboard_Switchboard_within_0 : PySem.W.findIn K (.ref CL_Switchboard) "within" = some (some (.ref f13)))
    (gf13 : PySem.W.specialIn K (.ref f13) "__get__" = some (some (.builtin "function.__get__")))
    (tk13 : PySem.W.takesIn K (.ref f13) = some false)
    (fi13 : PySem.W.fnIn K f13 = true)
    (mt_Switchboard_Switchboard_within_1 : PySem.W.findIn K (.ref CL_Switchboard) "within" = some (some (.ref f16)))
    (gf16 : PySem.W.specialIn K (.ref f16) "__get__" = some (some (.builtin "function.__get__")))
    (tk16 : PySem.W.takesIn K (.ref f16) = some false)
    (fi16 : PySem.W.fnIn K f16 = true)
    (we_Block : PySem.W.findIn K (.ref CL_Block) "__enter__" = some (some (.ref f11)))
    (wx_Block : PySem.W.findIn K (.ref CL_Block) "__exit__" = some (some (.ref f12)))
    {pp_Switchboard_active : Addr}
    {pr_Switchboard_active : List Value}
    (pa_Switchboard_active : PySem.W.findIn K (.ref CL_Switchboard) "active" = some (some (.ref pp_Switchboard_active)))
    (pg_Switchboard_active : PySem.W.specialIn K (.ref pp_Switchboard_active) "__get__" = some (some (.builtin "property.__get__")))
    (pt_Switchboard_active : PySem.W.takesIn K (.ref pp_Switchboard_active) = some true)
    (pc_Switchboard_active : PySem.W.recIn K pp_Switchboard_active "property" = some (.ref f6 :: pr_Switchboard_active))
    (a0 : PySem.W.nsIn K mainGlobals "_law_digits" = some (some (.ref f0)))
    (l0 : K.lookup f0 = some ⟨oc0, od0, .func (PySem.W.fnOf "_law_digits" "_law_digits" (defArgs s_w_digits) (defBody s_w_digits) (defScope s_w_digits) .none kV0 dc0 pm0 an0 cd0 ct0), sl0⟩)
    (c0 : PySem.W.codeIn K cd0 "_law_digits" = true)
    (k0 : PySem.W.keepIn K (.ref f0) = true)
    (a1 : PySem.W.nsIn K mainGlobals "_law_cell_at" = some (some (.ref f1)))
    (l1 : K.lookup f1 = some ⟨oc1, od1, .func (PySem.W.fnOf "_law_cell_at" "_law_cell_at" (defArgs s_w_cell_at) (defBody s_w_cell_at) (defScope s_w_cell_at) .none kV1 dc1 pm1 an1 cd1 ct1), sl1⟩)
    (c1 : PySem.W.codeIn K cd1 "_law_cell_at" = true)
    (k1 : PySem.W.keepIn K (.ref f1) = true)
    (a2 : PySem.W.nsIn K mainGlobals "_law_spelled" = some (some (.ref f2)))
    (l2 : K.lookup f2 = some ⟨oc2, od2, .func (PySem.W.fnOf "_law_spelled" "_law_spelled" (defArgs s_w_spelled) (defBody s_w_spelled) (defScope s_w_spelled) .none kV2 dc2 pm2 an2 cd2 ct2), sl2⟩)
    (c2 : PySem.W.codeIn K cd2 "_law_spelled" = true)
    (k2 : PySem.W.keepIn K (.ref f2) = true)
    {qc3 qd3 : Addr}
    {qcl3 qel3 : Value}
    {qcd3 qed3 : Option Addr}
    {qcs3 qes3 : Array (Option Value)}
    {qv3 : Array Value}
    {qfi3 : Str}
    {qft3 : Tok}
    (l3 : K.lookup f3 = some ⟨oc3, od3, .func (PySem.W.fnX "__init__" "Switchboard.__init__" (defArgs s_Switchboard_init) (defBody s_Switchboard_init) (defScope s_Switchboard_init) [("__class__", qc3)] .none .none dc3 pm3 none (.ref qd3) ct3), sl3⟩)
    (c3 : PySem.W.codeIn K (.ref qd3) "Switchboard.__init__" = true)
    (k3 : PySem.W.keepIn K (.ref f3) = true)
    (fn3 : PySem.W.isFn K (.ref f3) = true)
    (qm3 : K.lookup qd3 = some ⟨qcl3, qcd3, .fields qv3, qcs3⟩)
    (qN_3 : qv3[2]? = some (.str qfi3 qft3))
    (qO_3 : ((l.prog.main.file : Str) == qfi3) = true)
    (qe3 : K.lookup qc3 = some ⟨qel3, qed3, .cell (some (.ref CL_Switchboard)), qes3⟩)
    (qx_Switchboard : PySem.W.mroIn K CL_Switchboard (.ref CL_Switchboard) = some true)
    (qy_Switchboard : PySem.W.mroIn K CL_Switchboard (.type "object") = some true)
    (qS_Switchboard : PySem.W.ks_superIn K CL_Switchboard CL_Switchboard "__init__" = some (some (.builtin "object.__init__")))
    (a4 : PySem.W.nsIn K mainGlobals "_law_blocks" = some (some (.ref f4)))
    (l4 : K.lookup f4 = some ⟨oc4, od4, .func (PySem.W.fnOf "_law_blocks" "_law_blocks" (defArgs s_w_blocks) (defBody s_w_blocks) (defScope s_w_blocks) .none kV4 dc4 pm4 an4 cd4 ct4), sl4⟩)
    (c4 : PySem.W.codeIn K cd4 "_law_blocks" = true)
    (k4 : PySem.W.keepIn K (.ref f4) = true)
    (a5 : PySem.W.nsIn K mainGlobals "_law_after" = some (some (.ref f5)))
    (l5 : K.lookup f5 = some ⟨oc5, od5, .func (PySem.W.fnOf "_law_after" "_law_after" (defArgs s_w_after) (defBody s_w_after) (defScope s_w_after) .none kV5 dc5 pm5 an5 cd5 ct5), sl5⟩)
    (c5 : PySem.W.codeIn K cd5 "_law_after" = true)
    (k5 : PySem.W.keepIn K (.ref f5) = true)
    (l6 : K.lookup f6 = some ⟨oc6, od6, .func (PySem.W.fnOf "active" "Switchboard.active" (defArgs s_Switchboard_active) (defBody s_Switchboard_active) (defScope s_Switchboard_active) .none kV6 dc6 pm6 an6 cd6 ct6), sl6⟩)
    (c6 : PySem.W.codeIn K cd6 "Switchboard.active" = true)
    (k6 : PySem.W.keepIn K (.ref f6) = true)
    (l7 : K.lookup f7 = some ⟨oc7, od7, .func (PySem.W.fnOf "__init__" "Block.__init__" (defArgs s_Block_init) (defBody s_Block_init) (defScope s_Block_init) .none kV7 dc7 pm7 an7 cd7 ct7), sl7⟩)
    (c7 : PySem.W.codeIn K cd7 "Block.__init__" = true)
    (k7 : PySem.W.keepIn K (.ref f7) = true)
    (fn7 : PySem.W.isFn K (.ref f7) = true)
    (a8 : PySem.W.nsIn K mainGlobals "_law_failing" = some (some (.ref f8)))
    (l8 : K.lookup f8 = some ⟨oc8, od8, .func (PySem.W.fnOf "_law_failing" "_law_failing" (defArgs s_w_failing) (defBody s_w_failing) (defScope s_w_failing) .none kV8 dc8 pm8 an8 cd8 ct8), sl8⟩)
    (c8 : PySem.W.codeIn K cd8 "_law_failing" = true)
    (k8 : PySem.W.keepIn K (.ref f8) = true)
    (l9 : K.lookup f9 = some ⟨oc9, od9, .func (PySem.W.fnOf "__init__" "Entering.__init__" (defArgs s_Entering_init) (defBody s_Entering_init) (defScope s_Entering_init) .none kV9 dc9 pm9 an9 cd9 ct9), sl9⟩)
    (c9 : PySem.W.codeIn K cd9 "Entering.__init__" = true)
    (k9 : PySem.W.keepIn K (.ref f9) = true)
    (fn9 : PySem.W.isFn K (.ref f9) = true)
    (a10 : PySem.W.nsIn K mainGlobals "switch_layer" = some (some (.ref f10)))
    (l10 : K.lookup f10 = some ⟨oc10, od10, .func (PySem.W.fnOf "switch_layer" "switch_layer" (defArgs s_switch_layer) (defBody s_switch_layer) (defScope s_switch_layer) .none kV10 dc10 pm10 an10 cd10 ct10), sl10⟩)
    (c10 : PySem.W.codeIn K cd10 "switch_layer" = true)
    (k10 : PySem.W.keepIn K (.ref f10) = true)
    (l11 : K.lookup f11 = some ⟨oc11, od11, .func (PySem.W.fnOf "__enter__" "Block.__enter__" (defArgs s_Block_enter) (defBody s_Block_enter) (defScope s_Block_enter) .none kV11 dc11 pm11 an11 cd11 ct11), sl11⟩)
    (c11 : PySem.W.codeIn K cd11 "Block.__enter__" = true)
    (k11 : PySem.W.keepIn K (.ref f11) = true)
    (fn11 : PySem.W.isFn K (.ref f11) = true)
    (l12 : K.lookup f12 = some ⟨oc12, od12, .func (PySem.W.fnOf "__exit__" "Block.__exit__" (defArgs s_Block_exit) (defBody s_Block_exit) (defScope s_Block_exit) .none kV12 dc12 pm12 an12 cd12 ct12), sl12⟩)
    (c12 : PySem.W.codeIn K cd12 "Block.__exit__" = true)
    (k12 : PySem.W.keepIn K (.ref f12) = true)
    (fn12 : PySem.W.isFn K (.ref f12) = true)
    (l13 : K.lookup f13 = some ⟨oc13, od13, .func (PySem.W.fnOf "within" "Switchboard.within" (defArgs s_Switchboard_within_0) (defBody s_Switchboard_within_0) (defScope s_Switchboard_within_0) .none kV13 dc13 pm13 an13 cd13 ct13), sl13⟩)
    (c13 : PySem.W.codeIn K cd13 "Switchboard.within" = true)
    (k13 : PySem.W.keepIn K (.ref f13) = true)
    (fn13 : PySem.W.isFn K (.ref f13) = true)
    (a14 : PySem.W.nsIn K mainGlobals "_law_within" = some (some (.ref f14)))
    (l14 : K.lookup f14 = some ⟨oc14, od14, .func (PySem.W.fnOf "_law_within" "_law_within" (defArgs s_w_within_0) (defBody s_w_within_0) (defScope s_w_within_0) .none kV14 dc14 pm14 an14 cd14 ct14), sl14⟩)
    (c14 : PySem.W.codeIn K cd14 "_law_within" = true)
    (k14 : PySem.W.keepIn K (.ref f14) = true)
    (a15 : PySem.W.nsIn K mainGlobals "_law_left_by_error" = some (some (.ref f15)))
    (l15 : K.lookup f15 = some ⟨oc15, od15, .func (PySem.W.fnOf "_law_left_by_error" "_law_left_by_error" (defArgs s_w_left_by_error) (defBody s_w_left_by_error) (defScope s_w_left_by_error) .none kV15 dc15 pm15 an15 cd15 ct15), sl15⟩)
    (c15 : PySem.W.codeIn K cd15 "_law_left_by_error" = true)
    (k15 : PySem.W.keepIn K (.ref f15) = true)
    {cc15 cT15 : Addr}
    {co15 : Value}
    {cdo15 : Option Addr}
    {cv15 : Array Value}
    {cs15 : Array (Option Value)}
    (ce15 : cd15 = .ref cc15)
    (lc15 : K.lookup cc15 = some ⟨co15, cdo15, .fields cv15, cs15⟩)
    (vP15 : cv15[11]? = some (.ref cT15))
    (nt15 : K.lookup cT15 = none)
    (l16 : K.lookup f16 = some ⟨oc16, od16, .func (PySem.W.fnOf "within" "Switchboard.within" (defArgs s_Switchboard_within_1) (defBody s_Switchboard_within_1) (defScope s_Switchboard_within_1) .none kV16 dc16 pm16 an16 cd16 ct16), sl16⟩)
    (c16 : PySem.W.codeIn K cd16 "Switchboard.within" = true)
    (k16 : PySem.W.keepIn K (.ref f16) = true)
    (fn16 : PySem.W.isFn K (.ref f16) = true)
    (a17 : PySem.W.nsIn K mainGlobals "_law_within" = some (some (.ref f17)))
    (l17 : K.lookup f17 = some ⟨oc17, od17, .func (PySem.W.fnOf "_law_within" "_law_within" (defArgs s_w_within_1) (defBody s_w_within_1) (defScope s_w_within_1) .none kV17 dc17 pm17 an17 cd17 ct17), sl17⟩)
    (c17 : PySem.W.codeIn K cd17 "_law_within" = true)
    (k17 : PySem.W.keepIn K (.ref f17) = true)
    (a18 : PySem.W.nsIn K mainGlobals "law" = some (some (.ref f18)))
    (l18 : K.lookup f18 = some ⟨oc18, od18, .func (PySem.W.fnOf "law" "law" (defArgs s_law) (defBody s_law) (defScope s_law) .none kV18 dc18 pm18 an18 cd18 ct18), sl18⟩)
    (c18 : PySem.W.codeIn K cd18 "law" = true)
    (k18 : PySem.W.keepIn K (.ref f18) = true)
    {cc18 cT18 : Addr}
    {co18 : Value}
    {cdo18 : Option Addr}
    {cv18 : Array Value}
    {cs18 : Array (Option Value)}
    (ce18 : cd18 = .ref cc18)
    (lc18 : K.lookup cc18 = some ⟨co18, cdo18, .fields cv18, cs18⟩)
    (vP18 : cv18[11]? = some (.ref cT18))
    (nt18 : K.lookup cT18 = none)
    (ne18_15 : cT18 ≠ cT15)
    (z_int : PySem.W.nsIn K mainGlobals "int" = some none)
    (z_len : PySem.W.nsIn K mainGlobals "len" = some none)
    (z_range : PySem.W.nsIn K mainGlobals "range" = some none)
    (z_tuple : PySem.W.nsIn K mainGlobals "tuple" = some none)
    (zb_KeyError : PySem.W.nsIn K mainGlobals "KeyError" = some none)
    (zb_ZeroDivisionError : PySem.W.nsIn K mainGlobals "ZeroDivisionError" = some none)
    (zq_super : PySem.W.nsIn K mainGlobals "super" = some none)
    (zq_any : PySem.W.nsIn K cStatics "thirdparty.any" = some none)
    (qO_top : (l.prog.main.scope.names.lookup ("super" : Str)).isSome = false)
    : ∃ (G : G3) (fd : FuncData) (cs : List (Addr × Addr)), G.K = K ∧ (∀ p ∈ cs, K.lookup p.2 = none ∧ ∃ y ∈ (["_law_left_by_error", "law"] : List Str), PySem.W.tabIn K y = some p) ∧ (∀ p ∈ G.tabs, ∃ c, (c, p.1) ∈ cs) ∧ (∀ (s : Shared) (v : Value), BindsTo s fd ⟨[v], []⟩ [("_law_script", v)]) ∧ ∀ base : Heap, K.In base → base.Ns mainGlobals mg → (∀ p ∈ cs, LamX.TabB base mg p.1 p.2) → FnOk l.prog w K mg base (L2.CX l.prog w) 18 fa fd ["_law_script"] (spM (G.at base) 1 mf_law) := by
  have e := hfa.symm.trans (PySem.W.mg_of X G0 a18)
  cases e
  have T : Txt K mg ⟨K, w, fun c => List.lookup c [("Entering", CL_Entering), ("Block", CL_Block), ("Switchboard", CL_Switchboard)], fun _ => none, nfG, [(cT15, (fun _ _ => ((("_law_left_by_error" : Str) ++ (".<locals>." : Str)) : Str) ++ ("<lambda>" : Str))), (cT18, (fun _ _ => ((("law" : Str) ++ (".<locals>." : Str)) : Str) ++ ("<lambda>" : Str)))], h, fun _ => none⟩ := ⟨rfl, PySem.W.mg_none_of X G0 z_int, PySem.W.mg_none_of X G0 z_len, PySem.W.mg_none_of X G0 z_range, PySem.W.mg_none_of X G0 z_tuple, (cons_all ⟨CL_Switchboard, rfl, ⟨cg_Switchboard, ch_Switchboard, cp_Switchboard, cs_Switchboard⟩, na_Switchboard_now⟩ nil_all), (cons_all ⟨CL_Block, rfl, ⟨cg_Block, ch_Block, cp_Block, cs_Block⟩, na_Block_board⟩ nil_all), (cons_all ⟨CL_Block, rfl, ⟨cg_Block, ch_Block, cp_Block, cs_Block⟩, na_Block_way⟩ nil_all), (cons_all ⟨CL_Block, rfl, ⟨cg_Block, ch_Block, cp_Block, cs_Block⟩, na_Block_layer⟩ nil_all), (cons_all ⟨CL_Block, rfl, ⟨cg_Block, ch_Block, cp_Block, cs_Block⟩, na_Block_last⟩ nil_all), (cons_all ⟨CL_Entering, rfl, ⟨cg_Entering, ch_Entering, cp_Entering, cs_Entering⟩, na_Entering_before⟩ nil_all), (cons_all ⟨CL_Entering, rfl, ⟨cg_Entering, ch_Entering, cp_Entering, cs_Entering⟩, na_Entering_outer⟩ nil_all), ⟨PySem.W.mg_none_of X G0 zb_KeyError, rfl, rfl⟩, ⟨PySem.W.mg_none_of X G0 zb_ZeroDivisionError, rfl, rfl⟩, (cons_all (exm_bb (c := "KeyError") (x := "KeyError") (by decide +kernel) (by decide +kernel) (by decide +kernel)) (cons_all (exm_bb (c := "ZeroDivisionError") (x := "KeyError") (by decide +kernel) (by decide +kernel) (by decide +kernel)) nil_all)), (cons_all (exm_bb (c := "KeyError") (x := "ZeroDivisionError") (by decide +kernel) (by decide +kernel) (by decide +kernel)) (cons_all (exm_bb (c := "ZeroDivisionError") (x := "ZeroDivisionError") (by decide +kernel) (by decide +kernel) (by decide +kernel)) nil_all)), nf_hf, nf_l_lam_law_0, nf_m_lam_law_0, nf_l_lam_w_left_by_error_0, nf_m_lam_w_left_by_error_0, nf_l_lam_law_1, nf_m_lam_law_1, nf_l_lam_law_2, nf_m_lam_law_2, nf_l_lam_law_3, nf_m_lam_law_3⟩
  revert T
  generalize hG : (⟨K, w, fun c => List.lookup c [("Entering", CL_Entering), ("Block", CL_Block), ("Switchboard", CL_Switchboard)], fun _ => none, nfG, [(cT15, (fun _ _ => ((("_law_left_by_error" : Str) ++ (".<locals>." : Str)) : Str) ++ ("<lambda>" : Str))), (cT18, (fun _ _ => ((("law" : Str) ++ (".<locals>." : Str)) : Str) ++ ("<lambda>" : Str)))], h, fun _ => none⟩ : G3) = G
  intro T
  have Gt : G.tabs = [(cT15, (fun _ _ => ((("_law_left_by_error" : Str) ++ (".<locals>." : Str)) : Str) ++ ("<lambda>" : Str))), (cT18, (fun _ _ => ((("law" : Str) ++ (".<locals>." : Str)) : Str) ++ ("<lambda>" : Str)))] := by rw [← hG]
  have GK : G.K = K := by rw [← hG]
  have Gw : w = G.w := by rw [← hG]
  have G_Entering : G.cls "Entering" = some CL_Entering := by rw [← hG]; rfl
  have G_Block : G.cls "Block" = some CL_Block := by rw [← hG]; rfl
  have G_Switchboard : G.cls "Switchboard" = some CL_Switchboard := by rw [← hG]; rfl
  refine ⟨G, PySem.W.fnOf "law" "law" (defArgs s_law) (defBody s_law) (defScope s_law) .none kV18 dc18 pm18 an18 cd18 ct18, [(cc15, cT15), (cc18, cT18)], GK, (cons_all ⟨nt15, "_law_left_by_error", by simp, tabIn_of a15 l15 ce15 lc15 vP15⟩ (cons_all ⟨nt18, "law", by simp, tabIn_of a18 l18 ce18 lc18 vP18⟩ nil_all)), by rw [Gt]; exact (cons_all ⟨cc15, by simp⟩ (cons_all ⟨cc18, by simp⟩ nil_all)), fun s v => .of_eq rfl, fun base _ _ TBs => ?_⟩
  have OT15 : ∀ b, Over base b → OwnT G mg b cc15 cT15 _ := fun b ob => ⟨TabB.over (TBs (cc15, cT15) (by simp)) ob, by rw [Gt]; exact .head _, by rw [Gt]; exact (cons_all (fun _ => rfl) (cons_all (fun e => absurd e ne18_15) nil_all))⟩
  have OT18 : ∀ b, Over base b → OwnT G mg b cc18 cT18 _ := fun b ob => ⟨TabB.over (TBs (cc18, cT18) (by simp)) ob, by rw [Gt]; exact .tail _ (.head _), by rw [Gt]; exact (cons_all (fun e => absurd e.symm ne18_15) (cons_all (fun _ => rfl) nil_all))⟩
  have F0 := fun_mk (st := s_w_digits) l0 c0 k0
  have O0 := fun (b : Heap) (ob : Over base b) => ok_w_digits (Pg := l.prog) (base := b) (G := G.at b) Gw T.ats  F0
  have B0 := F0.binds (ps := ["_law_cell", "_law_salt", "_law_many"]) fun _ _ _ _ _ _ us hl => match us, hl with | [_, _, _], _ => rfl
  have C_w_digits : ∀ b, Over base b → Cal l.prog w K mg b (G.at b) 1 "_law_digits" 3 mf_w_digits := fun b ob => ⟨_, _, _, PySem.W.mg_of X G0 a0, k0, B0, rfl, (O0 b ob)⟩
  have F1 := fun_mk (st := s_w_cell_at) l1 c1 k1
  have O1 := fun (b : Heap) (ob : Over base b) => ok_w_cell_at (Pg := l.prog) (base := b) (G := G.at b) Gw T.ats  F1
  have B1 := F1.binds (ps := ["_law_script", "_law_k"]) fun _ _ _ _ _ _ us hl => match us, hl with | [_, _], _ => rfl
  have C_w_cell_at : ∀ b, Over base b → Cal l.prog w K mg b (G.at b) 1 "_law_cell_at" 2 mf_w_cell_at := fun b ob => ⟨_, _, _, PySem.W.mg_of X G0 a1, k1, B1, rfl, (O1 b ob)⟩
  have F2 := fun_mk (st := s_w_spelled) l2 c2 k2
  have O2 := fun (b : Heap) (ob : Over base b) => ok_w_spelled (Pg := l.prog) (base := b) (G := G.at b) Gw T.ats  F2
  have B2 := F2.binds (ps := ["_law_draw", "_law_many"]) fun _ _ _ _ _ _ us hl => match us, hl with | [_, _], _ => rfl
  have C_w_spelled : ∀ b, Over base b → Cal l.prog w K mg b (G.at b) 1 "_law_spelled" 2 mf_w_spelled := fun b ob => ⟨_, _, _, PySem.W.mg_of X G0 a2, k2, B2, rfl, (O2 b ob)⟩
  have F3 : FunC K mg l.prog "Switchboard.__init__" s_Switchboard_init CL_Switchboard ["self"] n_Switchboard_init f3 _ := ⟨qc3, qd3, _, _, _, _, _, _, rfl, l3, ⟨⟨_, _, _, _, _, _, l3⟩, c3, ⟨_, _, _, _, _, _, qm3, qN_3, qO_3⟩, rfl, ⟨_, _, _, qe3⟩, cls_of_dict ch_Switchboard, PySem.W.mg_none_of X G0 zq_super, qO_top, zq_any, rfl, rfl, ⟨_, rfl, rfl, rfl⟩, sc_Switchboard_init⟩⟩
  have HC3 : ∀ c ∈ (["Switchboard"] : List String), ∃ C, G.cls c = some C ∧ SupI K C CL_Switchboard := (cons_all (show ∃ C, G.cls "Switchboard" = some C ∧ SupI K C CL_Switchboard from ⟨CL_Switchboard, G_Switchboard, ⟨isSome_of_dict ch_Switchboard, qx_Switchboard, qy_Switchboard, qS_Switchboard⟩⟩) nil_all)
  have O3 := fun (b : Heap) (ob : Over base b) => ok_Switchboard_init (Pg := l.prog) (base := b) (G := G.at b) Gw T.ats  F3 HC3
  have B3 : Binds K _ ["self"] [] := Binds.all (fd := (⟨"__init__", "Switchboard.__init__", defArgs s_Switchboard_init, defBody s_Switchboard_init, defScope s_Switchboard_init, [("__class__", qc3)], qd3⟩ : NdefX.NF).fd dc3 pm3 ct3) fun us hl => match us, hl with | [_], _ => rfl
  have N_Switchboard_0 : ∀ b, Over base b → MkOk3 l.prog w K mg b (G.at b) 1 "Switchboard" "Switchboard" 0 [] mf_Switchboard_init := fun b ob => ⟨_, _, _, _, [], [], PySem.W.mg_of X G0 n_Switchboard, G_Switchboard, ⟨cm_Switchboard, in_Switchboard, fn3, ck_Switchboard⟩, B3, .nil, fun _ _ => .nil, (O3 b ob)⟩
  have F4 := fun_mk (st := s_w_blocks) l4 c4 k4
  have O4 := fun (b : Heap) (ob : Over base b) => ok_w_blocks (Pg := l.prog) (base := b) (G := G.at b) Gw T.ats  F4
  have B4 := F4.binds (ps := ["_law_draws", "_law_names"]) fun _ _ _ _ _ _ us hl => match us, hl with | [_, _], _ => rfl
  have C_w_blocks : ∀ b, Over base b → Cal l.prog w K mg b (G.at b) 1 "_law_blocks" 2 mf_w_blocks := fun b ob => ⟨_, _, _, PySem.W.mg_of X G0 a4, k4, B4, rfl, (O4 b ob)⟩
  have F5 := fun_mk (st := s_w_after) l5 c5 k5
  have O5 := fun (b : Heap) (ob : Over base b) => ok_w_after (Pg := l.prog) (base := b) (G := G.at b) Gw T.ats  F5
  have B5 := F5.binds (ps := ["_law_active", "_law_blocks_here"]) fun _ _ _ _ _ _ us hl => match us, hl with | [_, _], _ => rfl
  have C_w_after : ∀ b, Over base b → Cal l.prog w K mg b (G.at b) 1 "_law_after" 2 mf_w_after := fun b ob => ⟨_, _, _, PySem.W.mg_of X G0 a5, k5, B5, rfl, (O5 b ob)⟩
  have F6 := fun_mk (st := s_Switchboard_active) l6 c6 k6
  have O6 := fun (b : Heap) (ob : Over base b) => ok_Switchboard_active (Pg := l.prog) (base := b) (G := G.at b) Gw T.ats  F6
  have B6 := F6.binds (ps := ["self"]) fun _ _ _ _ _ _ us hl => match us, hl with | [_], _ => rfl
  have PQ_Switchboard_Switchboard_active : ∀ b, Over base b → PropOkQ l.prog w K mg b (G.at b) 1 "active" "Switchboard" mf_Switchboard_active := fun b ob => ⟨_, _, _, _, _, G_Switchboard, ⟨cg_Switchboard, ch_Switchboard, cp_Switchboard, cs_Switchboard⟩, ⟨pa_Switchboard_active, pg_Switchboard_active, pt_Switchboard_active, ⟨_, pc_Switchboard_active⟩⟩, B6, rfl, okq_Switchboard_active (Pg := l.prog) (base := b) (G := G.at b) Gw T.ats  F6⟩
  have P_Switchboard_Switchboard_active : ∀ b, Over base b → PropOk l.prog w K mg b (G.at b) 1 "active" "Switchboard" mf_Switchboard_active := fun b ob => ⟨_, _, _, _, _, G_Switchboard, ⟨cg_Switchboard, ch_Switchboard, cp_Switchboard, cs_Switchboard⟩, ⟨pa_Switchboard_active, pg_Switchboard_active, pt_Switchboard_active, ⟨_, pc_Switchboard_active⟩⟩, B6, (O6 b ob)⟩
  have F7 := fun_mk (st := s_Block_init) l7 c7 k7
  have O7 := fun (b : Heap) (ob : Over base b) => ok_Block_init (Pg := l.prog) (base := b) (G := G.at b) Gw T.ats  F7
  have B7 := F7.binds (ps := ["self", "board", "way", "layer"]) fun _ _ _ _ _ _ us hl => match us, hl with | [_, _, _, _], _ => rfl
  have N_Block_3 : ∀ b, Over base b → MkOk3 l.prog w K mg b (G.at b) 1 "Block" "Block" 3 [] mf_Block_init := fun b ob => ⟨_, _, _, _, [], [], PySem.W.mg_of X G0 n_Block, G_Block, ⟨cm_Block, in_Block, fn7, ck_Block⟩, B7, .nil, fun _ _ => .nil, (O7 b ob)⟩
  have F8 := fun_mk (st := s_w_failing) l8 c8 k8
  have V_lam_law_0 := fun (b : Heap) (ob : Over base b) => ok_lam_law_0 (Pg := l.prog) (base := b) (G := G) Gw T (P_Switchboard_Switchboard_active b ob) (N_Block_3 b ob)
  have O8 := fun (b : Heap) (ob : Over base b) => ok_w_failing (Pg := l.prog) (base := b) (G := G.at b) Gw T.ats  F8
  have B8 := F8.binds (ps := ["_law_way", "_law_table", "_law_word"]) fun _ _ _ _ _ _ us hl => match us, hl with | [_, _, _], _ => rfl
  have C_w_failing : ∀ b, Over base b → Cal l.prog w K mg b (G.at b) 1 "_law_failing" 3 mf_w_failing := fun b ob => ⟨_, _, _, PySem.W.mg_of X G0 a8, k8, B8, rfl, (O8 b ob)⟩
  have F9 := fun_mk (st := s_Entering_init) l9 c9 k9
  have V_lam_w_left_by_error_0 := fun (b : Heap) (ob : Over base b) => ok_lam_w_left_by_error_0 (Pg := l.prog) (base := b) (G := G) Gw T (C_w_failing b ob)
  have TB_0 : ∀ b, Over base b → M3.TabOk l.prog w K mg b (G.at b) 2 0 tab_0 := fun b ob c mf hm => (show ∀ q ∈ tab_0, ∀ F, G.nf q.1 F → VOk l.prog w K mg b (L2.CX l.prog w) 2 F (spV (G.at b) F 0 q.2) from (cons_all (fun F hF => (V_lam_w_left_by_error_0 b ob F hF).mono (by decide)) nil_all)) (c, mf) hm
  have O9 := fun (b : Heap) (ob : Over base b) => ok_Entering_init (Pg := l.prog) (base := b) (G := G.at b) Gw T.ats  F9
  have B9 := F9.binds (ps := ["self", "before", "outer"]) fun _ _ _ _ _ _ us hl => match us, hl with | [_, _, _], _ => rfl
  have N_Entering_2 : ∀ b, Over base b → MkOk3 l.prog w K mg b (G.at b) 1 "Entering" "Entering" 2 [] mf_Entering_init := fun b ob => ⟨_, _, _, _, [], [], PySem.W.mg_of X G0 n_Entering, G_Entering, ⟨cm_Entering, in_Entering, fn9, ck_Entering⟩, B9, .nil, fun _ _ => .nil, (O9 b ob)⟩
  have F10 := fun_mk (st := s_switch_layer) l10 c10 k10
  have O10 := fun (b : Heap) (ob : Over base b) => ok_switch_layer (Pg := l.prog) (base := b) (G := G.at b) Gw T.ats  F10
  have B10 := F10.binds (ps := ["active", "way", "layer"]) fun _ _ _ _ _ _ us hl => match us, hl with | [_, _, _], _ => rfl
  have C_switch_layer : ∀ b, Over base b → Cal l.prog w K mg b (G.at b) 1 "switch_layer" 3 mf_switch_layer := fun b ob => ⟨_, _, _, PySem.W.mg_of X G0 a10, k10, B10, rfl, (O10 b ob)⟩
  have F11 := fun_mk (st := s_Block_enter) l11 c11 k11
  have O11 := fun (b : Heap) (ob : Over base b) => ok_Block_enter (Pg := l.prog) (base := b) (G := G.at b) Gw T.ats (N_Entering_2 b ob) (C_switch_layer b ob) F11
  have B11 := F11.binds (ps := ["self"]) fun _ _ _ _ _ _ us hl => match us, hl with | [_], _ => rfl
  have F12 := fun_mk (st := s_Block_exit) l12 c12 k12
  have O12 := fun (b : Heap) (ob : Over base b) => ok_Block_exit (Pg := l.prog) (base := b) (G := G.at b) Gw T.ats  F12
  have B12 := F12.binds (ps := ["self", "kind", "value", "trace"]) fun _ _ _ _ _ _ us hl => match us, hl with | [_, _, _, _], _ => rfl
  have F13 := fun_mk (st := s_Switchboard_within_0) l13 c13 k13
  have W_Block : ∀ b, Over base b → WithOk l.prog w K mg b (G.at b) 3 "Block" mf_Block_enter mf_Block_exit := fun b ob => ⟨CL_Block, _, _, _, _, _, _, G_Block, ⟨we_Block, fn11, wx_Block, fn12⟩, B11, (O11 b ob).mono (by decide), B12, rfl, (O12 b ob).mono (by decide)⟩
  have R13_0 : ∀ b, Over base b → MthR l.prog w K mg b (G.at b) 3 "within" "Switchboard" (mf_Switchboard_within_0 0) := fun b ob => ⟨_, _, G_Switchboard, ⟨cg_Switchboard, ch_Switchboard, cp_Switchboard, cs_Switchboard⟩, ⟨⟨mt_Switchboard_Switchboard_within_0, fn13, k13⟩, gf13, tk13, by decide, fi13⟩, fun _ _ _ _ _ _ _ _ _ _ _ ⟨_, _, _, _, _, _, _, hp⟩ => hp.elim⟩
  have R13_1 : ∀ b, Over base b → MthR l.prog w K mg b (G.at b) 4 "within" "Switchboard" (mf_Switchboard_within_0 1) := fun b ob => ⟨_, _, G_Switchboard, ⟨cg_Switchboard, ch_Switchboard, cp_Switchboard, cs_Switchboard⟩, ⟨⟨mt_Switchboard_Switchboard_within_0, fn13, k13⟩, gf13, tk13, by decide, fi13⟩, ok_Switchboard_within_0 (Pg := l.prog) (base := b) (G := G.at b) (kk := 3) (by decide) Gw T.ats (TB_0 b ob) (W_Block b ob) (N_Block_3 b ob) (R13_0 b ob) F13⟩
  have R13_2 : ∀ b, Over base b → MthR l.prog w K mg b (G.at b) 5 "within" "Switchboard" (mf_Switchboard_within_0 2) := fun b ob => ⟨_, _, G_Switchboard, ⟨cg_Switchboard, ch_Switchboard, cp_Switchboard, cs_Switchboard⟩, ⟨⟨mt_Switchboard_Switchboard_within_0, fn13, k13⟩, gf13, tk13, by decide, fi13⟩, ok_Switchboard_within_0 (Pg := l.prog) (base := b) (G := G.at b) (kk := 4) (by decide) Gw T.ats (TB_0 b ob) (W_Block b ob) (N_Block_3 b ob) (R13_1 b ob) F13⟩
  have R13_3 : ∀ b, Over base b → MthR l.prog w K mg b (G.at b) 6 "within" "Switchboard" (mf_Switchboard_within_0 3) := fun b ob => ⟨_, _, G_Switchboard, ⟨cg_Switchboard, ch_Switchboard, cp_Switchboard, cs_Switchboard⟩, ⟨⟨mt_Switchboard_Switchboard_within_0, fn13, k13⟩, gf13, tk13, by decide, fi13⟩, ok_Switchboard_within_0 (Pg := l.prog) (base := b) (G := G.at b) (kk := 5) (by decide) Gw T.ats (TB_0 b ob) (W_Block b ob) (N_Block_3 b ob) (R13_2 b ob) F13⟩
  have R13_4 : ∀ b, Over base b → MthR l.prog w K mg b (G.at b) 7 "within" "Switchboard" (mf_Switchboard_within_0 4) := fun b ob => ⟨_, _, G_Switchboard, ⟨cg_Switchboard, ch_Switchboard, cp_Switchboard, cs_Switchboard⟩, ⟨⟨mt_Switchboard_Switchboard_within_0, fn13, k13⟩, gf13, tk13, by decide, fi13⟩, ok_Switchboard_within_0 (Pg := l.prog) (base := b) (G := G.at b) (kk := 6) (by decide) Gw T.ats (TB_0 b ob) (W_Block b ob) (N_Block_3 b ob) (R13_3 b ob) F13⟩
  have R13_5 : ∀ b, Over base b → MthR l.prog w K mg b (G.at b) 8 "within" "Switchboard" (mf_Switchboard_within_0 5) := fun b ob => ⟨_, _, G_Switchboard, ⟨cg_Switchboard, ch_Switchboard, cp_Switchboard, cs_Switchboard⟩, ⟨⟨mt_Switchboard_Switchboard_within_0, fn13, k13⟩, gf13, tk13, by decide, fi13⟩, ok_Switchboard_within_0 (Pg := l.prog) (base := b) (G := G.at b) (kk := 7) (by decide) Gw T.ats (TB_0 b ob) (W_Block b ob) (N_Block_3 b ob) (R13_4 b ob) F13⟩
  have MR_Switchboard_Switchboard_within_0 := R13_5
  have F14 := fun_mk (st := s_w_within_0) l14 c14 k14
  have O14 := fun (b : Heap) (ob : Over base b) => ok_w_within_0 (Pg := l.prog) (base := b) (G := G.at b) Gw T.ats (MR_Switchboard_Switchboard_within_0 b ob) F14
  have B14 := F14.binds (ps := ["_law_board", "_law_deed", "_law_blocks_here"]) fun _ _ _ _ _ _ us hl => match us, hl with | [_, _, _], _ => rfl
  have C_w_within_0 : ∀ b, Over base b → Cal l.prog w K mg b (G.at b) 9 "_law_within" 3 mf_w_within_0 := fun b ob => ⟨_, _, _, PySem.W.mg_of X G0 a14, k14, B14, rfl, (O14 b ob)⟩
  have F15 := fun_mk (st := s_w_left_by_error) l15 c15 k15
  have O15 := fun (b : Heap) (ob : Over base b) => ok_w_left_by_error (Pg := l.prog) (base := b) (G := G) Gw T (fun b_ ob_ => C_w_within_0 b_ (ob.trans ob_)) (PQ_Switchboard_Switchboard_active b ob) F15 ce15 (OT15 b ob)
  have B15 := F15.binds (ps := ["_law_board", "_law_way", "_law_word", "_law_blocks_here"]) fun _ _ _ _ _ _ us hl => match us, hl with | [_, _, _, _], _ => rfl
  have C_w_left_by_error : ∀ b, Over base b → Cal l.prog w K mg b (G.at b) 10 "_law_left_by_error" 4 mf_w_left_by_error := fun b ob => ⟨_, _, _, PySem.W.mg_of X G0 a15, k15, B15, rfl, O15 b ob⟩
  have F16 := fun_mk (st := s_Switchboard_within_1) l16 c16 k16
  have V_lam_law_1 := fun (b : Heap) (ob : Over base b) => ok_lam_law_1 (Pg := l.prog) (base := b) (G := G) Gw T (P_Switchboard_Switchboard_active b ob) (C_w_left_by_error b ob)
  have V_lam_law_2 := fun (b : Heap) (ob : Over base b) => ok_lam_law_2 (Pg := l.prog) (base := b) (G := G) Gw T (P_Switchboard_Switchboard_active b ob)
  have V_lam_law_3 := fun (b : Heap) (ob : Over base b) => ok_lam_law_3 (Pg := l.prog) (base := b) (G := G) Gw T 
  have TB_1 : ∀ b, Over base b → M3.TabOk l.prog w K mg b (G.at b) 11 0 tab_1 := fun b ob c mf hm => (show ∀ q ∈ tab_1, ∀ F, G.nf q.1 F → VOk l.prog w K mg b (L2.CX l.prog w) 11 F (spV (G.at b) F 0 q.2) from (cons_all (fun F hF => (V_lam_law_0 b ob F hF).mono (by decide)) (cons_all (fun F hF => (V_lam_law_1 b ob F hF).mono (by decide)) (cons_all (fun F hF => (V_lam_law_2 b ob F hF).mono (by decide)) (cons_all (fun F hF => (V_lam_law_3 b ob F hF).mono (by decide)) nil_all))))) (c, mf) hm
  have R16_0 : ∀ b, Over base b → MthR l.prog w K mg b (G.at b) 11 "within" "Switchboard" (mf_Switchboard_within_1 0) := fun b ob => ⟨_, _, G_Switchboard, ⟨cg_Switchboard, ch_Switchboard, cp_Switchboard, cs_Switchboard⟩, ⟨⟨mt_Switchboard_Switchboard_within_1, fn16, k16⟩, gf16, tk16, by decide, fi16⟩, fun _ _ _ _ _ _ _ _ _ _ _ ⟨_, _, _, _, _, _, _, hp⟩ => hp.elim⟩
  have R16_1 : ∀ b, Over base b → MthR l.prog w K mg b (G.at b) 12 "within" "Switchboard" (mf_Switchboard_within_1 1) := fun b ob => ⟨_, _, G_Switchboard, ⟨cg_Switchboard, ch_Switchboard, cp_Switchboard, cs_Switchboard⟩, ⟨⟨mt_Switchboard_Switchboard_within_1, fn16, k16⟩, gf16, tk16, by decide, fi16⟩, ok_Switchboard_within_1 (Pg := l.prog) (base := b) (G := G.at b) (kk := 11) (by decide) Gw T.ats (TB_1 b ob) (W_Block b ob) (N_Block_3 b ob) (R16_0 b ob) F16⟩
  have R16_2 : ∀ b, Over base b → MthR l.prog w K mg b (G.at b) 13 "within" "Switchboard" (mf_Switchboard_within_1 2) := fun b ob => ⟨_, _, G_Switchboard, ⟨cg_Switchboard, ch_Switchboard, cp_Switchboard, cs_Switchboard⟩, ⟨⟨mt_Switchboard_Switchboard_within_1, fn16, k16⟩, gf16, tk16, by decide, fi16⟩, ok_Switchboard_within_1 (Pg := l.prog) (base := b) (G := G.at b) (kk := 12) (by decide) Gw T.ats (TB_1 b ob) (W_Block b ob) (N_Block_3 b ob) (R16_1 b ob) F16⟩
  have R16_3 : ∀ b, Over base b → MthR l.prog w K mg b (G.at b) 14 "within" "Switchboard" (mf_Switchboard_within_1 3) := fun b ob => ⟨_, _, G_Switchboard, ⟨cg_Switchboard, ch_Switchboard, cp_Switchboard, cs_Switchboard⟩, ⟨⟨mt_Switchboard_Switchboard_within_1, fn16, k16⟩, gf16, tk16, by decide, fi16⟩, ok_Switchboard_within_1 (Pg := l.prog) (base := b) (G := G.at b) (kk := 13) (by decide) Gw T.ats (TB_1 b ob) (W_Block b ob) (N_Block_3 b ob) (R16_2 b ob) F16⟩
  have R16_4 : ∀ b, Over base b → MthR l.prog w K mg b (G.at b) 15 "within" "Switchboard" (mf_Switchboard_within_1 4) := fun b ob => ⟨_, _, G_Switchboard, ⟨cg_Switchboard, ch_Switchboard, cp_Switchboard, cs_Switchboard⟩, ⟨⟨mt_Switchboard_Switchboard_within_1, fn16, k16⟩, gf16, tk16, by decide, fi16⟩, ok_Switchboard_within_1 (Pg := l.prog) (base := b) (G := G.at b) (kk := 14) (by decide) Gw T.ats (TB_1 b ob) (W_Block b ob) (N_Block_3 b ob) (R16_3 b ob) F16⟩
  have R16_5 : ∀ b, Over base b → MthR l.prog w K mg b (G.at b) 16 "within" "Switchboard" (mf_Switchboard_within_1 5) := fun b ob => ⟨_, _, G_Switchboard, ⟨cg_Switchboard, ch_Switchboard, cp_Switchboard, cs_Switchboard⟩, ⟨⟨mt_Switchboard_Switchboard_within_1, fn16, k16⟩, gf16, tk16, by decide, fi16⟩, ok_Switchboard_within_1 (Pg := l.prog) (base := b) (G := G.at b) (kk := 15) (by decide) Gw T.ats (TB_1 b ob) (W_Block b ob) (N_Block_3 b ob) (R16_4 b ob) F16⟩
  have MR_Switchboard_Switchboard_within_1 := R16_5
  have F17 := fun_mk (st := s_w_within_1) l17 c17 k17
  have O17 := fun (b : Heap) (ob : Over base b) => ok_w_within_1 (Pg := l.prog) (base := b) (G := G.at b) Gw T.ats (MR_Switchboard_Switchboard_within_1 b ob) F17
  have B17 := F17.binds (ps := ["_law_board", "_law_deed", "_law_blocks_here"]) fun _ _ _ _ _ _ us hl => match us, hl with | [_, _, _], _ => rfl
  have C_w_within_1 : ∀ b, Over base b → Cal l.prog w K mg b (G.at b) 17 "_law_within" 3 mf_w_within_1 := fun b ob => ⟨_, _, _, PySem.W.mg_of X G0 a17, k17, B17, rfl, (O17 b ob)⟩
  have F18 := fun_mk (st := s_law) l18 c18 k18
  exact ok_law (base := base) (G := G) Gw T (C_w_digits base (Over.refl _)) (C_w_cell_at base (Over.refl _)) (C_w_spelled base (Over.refl _)) (N_Switchboard_0 base (Over.refl _)) (C_w_blocks base (Over.refl _)) (C_w_after base (Over.refl _)) (fun b_ ob_ => C_w_within_1 b_ ob_) (P_Switchboard_Switchboard_active base (Over.refl _)) (C_w_left_by_error base (Over.refl _)) F18 ce18 (OT18 base (Over.refl _))
end My
open PySem PySem.W PyProof.Rows in
set_option maxRecDepth 100000 in
set_option maxHeartbeats 0 in
theorem PySem.Challenge.cw_switchedlayers_k57_blocks_end_after_any_holds : PySem.Challenge.rw_switchedlayers_k57_blocks_end_after_any.Holds := by
  w_on; o_law
  refine My.Top.top (by kernel_rfl) (by first | assumption | decide +kernel) ?hw ?hc
  case hw => w_witness2
  k_fill
  refine M3.walk3T (l := PySem.Challenge.rw_switchedlayers_k57_blocks_end_after_any) (n := 63) (k := 18) (x := "_law_script") (m := My.mf_law) ["_law_left_by_error", "law"] rfl (by decide) (by kernel_rfl) ⟨rfl, by decide, by decide⟩ (fun w h Y => PySem.W.kIn_of Y) (by decide +kernel) ?F My.law_true
  case F =>
    intro w mg fa h KX G hmg0
    have hmg : mg ("law" : PySem.Str) = some (.ref fa) := by
      have e : (HeadRun.topDef My.Top.R.prog My.Top.at_).name = ("law" : PySem.Str) := by kernel_rfl
      rw [← e]
      exact hmg0
    refine' My.all_mk KX G hmg ?n_Entering ?n_Block ?n_Switchboard ?cg_Entering ?ch_Entering ?cp_Entering ?cs_Entering ?cm_Entering ?ck_Entering ?cg_Block ?ch_Block ?cp_Block ?cs_Block ?cm_Block ?ck_Block ?cg_Switchboard ?ch_Switchboard ?cp_Switchboard ?cs_Switchboard ?cm_Switchboard ?ck_Switchboard ?na_Switchboard_now ?na_Block_board ?na_Block_way ?na_Block_layer ?na_Block_last ?na_Entering_before ?na_Entering_outer ?in_Switchboard ?in_Block ?in_Entering ?mt_Switchboard_Switchboard_within_0 ?gf13 ?tk13 ?fi13 ?mt_Switchboard_Switchboard_within_1 ?gf16 ?tk16 ?fi16 ?we_Block ?wx_Block ?pa_Switchboard_active ?pg_Switchboard_active ?pt_Switchboard_active ?pc_Switchboard_active ?a0 ?l0 ?c0 ?k0 ?a1 ?l1 ?c1 ?k1 ?a2 ?l2 ?c2 ?k2 ?l3 ?c3 ?k3 ?fn3 ?qm3 ?qN_3 ?qO_3 ?qe3 ?qx_Switchboard ?qy_Switchboard ?qS_Switchboard ?a4 ?l4 ?c4 ?k4 ?a5 ?l5 ?c5 ?k5 ?l6 ?c6 ?k6 ?l7 ?c7 ?k7 ?fn7 ?a8 ?l8 ?c8 ?k8 ?l9 ?c9 ?k9 ?fn9 ?a10 ?l10 ?c10 ?k10 ?l11 ?c11 ?k11 ?fn11 ?l12 ?c12 ?k12 ?fn12 ?l13 ?c13 ?k13 ?fn13 ?a14 ?l14 ?c14 ?k14 ?a15 ?l15 ?c15 ?k15 ?ce15 ?lc15 ?vP15 ?nt15 ?l16 ?c16 ?k16 ?fn16 ?a17 ?l17 ?c17 ?k17 ?a18 ?l18 ?c18 ?k18 ?ce18 ?lc18 ?vP18 ?nt18 ?ne18_15 ?z_int ?z_len ?z_range ?z_tuple ?zb_KeyError ?zb_ZeroDivisionError ?zq_super ?zq_any ?qO_top
    (case n_Entering => k_is)
    (case n_Block => k_is)
    (case n_Switchboard => k_is)
    (case cg_Entering => k_is)
    (case ch_Entering => k_is)
    (case cp_Entering => k_is)
    (case cs_Entering => k_is)
    (case cm_Entering => k_is)
    (case ck_Entering => k_is)
    (case cg_Block => k_is)
    (case ch_Block => k_is)
    (case cp_Block => k_is)
    (case cs_Block => k_is)
    (case cm_Block => k_is)
    (case ck_Block => k_is)
    (case cg_Switchboard => k_is)
    (case ch_Switchboard => k_is)
    (case cp_Switchboard => k_is)
    (case cs_Switchboard => k_is)
    (case cm_Switchboard => k_is)
    (case ck_Switchboard => k_is)
    (case na_Switchboard_now => k_is)
    (case na_Block_board => k_is)
    (case na_Block_way => k_is)
    (case na_Block_layer => k_is)
    (case na_Block_last => k_is)
    (case na_Entering_before => k_is)
    (case na_Entering_outer => k_is)
    (case in_Switchboard => k_is)
    (case in_Block => k_is)
    (case in_Entering => k_is)
    (case mt_Switchboard_Switchboard_within_0 => k_is)
    (case gf13 => k_is)
    (case tk13 => k_is)
    (case fi13 => k_is)
    (case mt_Switchboard_Switchboard_within_1 => k_is)
    (case gf16 => k_is)
    (case tk16 => k_is)
    (case fi16 => k_is)
    (case we_Block => k_is)
    (case wx_Block => k_is)
    (case pa_Switchboard_active => k_is)
    (case pg_Switchboard_active => k_is)
    (case pt_Switchboard_active => k_is)
    (case pc_Switchboard_active => k_is)
    (case a0 => k_is)
    (case l0 => k_is)
    (case c0 => k_is)
    (case k0 => k_is)
    (case a1 => k_is)
    (case l1 => k_is)
    (case c1 => k_is)
    (case k1 => k_is)
    (case a2 => k_is)
    (case l2 => k_is)
    (case c2 => k_is)
    (case k2 => k_is)
    (case l3 => k_is)
    (case c3 => k_is)
    (case k3 => k_is)
    (case fn3 => k_is)
    (case qm3 => k_is)
    (case qN_3 => rfl)
    (case qO_3 => decide +kernel)
    (case qe3 => k_is)
    (case qx_Switchboard => k_is)
    (case qy_Switchboard => k_is)
    (case qS_Switchboard => ks_is)
    (case a4 => k_is)
    (case l4 => k_is)
    (case c4 => k_is)
    (case k4 => k_is)
    (case a5 => k_is)
    (case l5 => k_is)
    (case c5 => k_is)
    (case k5 => k_is)
    (case l6 => k_is)
    (case c6 => k_is)
    (case k6 => k_is)
    (case l7 => k_is)
    (case c7 => k_is)
    (case k7 => k_is)
    (case fn7 => k_is)
    (case a8 => k_is)
    (case l8 => k_is)
    (case c8 => k_is)
    (case k8 => k_is)
    (case l9 => k_is)
    (case c9 => k_is)
    (case k9 => k_is)
    (case fn9 => k_is)
    (case a10 => k_is)
    (case l10 => k_is)
    (case c10 => k_is)
    (case k10 => k_is)
    (case l11 => k_is)
    (case c11 => k_is)
    (case k11 => k_is)
    (case fn11 => k_is)
    (case l12 => k_is)
    (case c12 => k_is)
    (case k12 => k_is)
    (case fn12 => k_is)
    (case l13 => k_is)
    (case c13 => k_is)
    (case k13 => k_is)
    (case fn13 => k_is)
    (case a14 => k_is)
    (case l14 => k_is)
    (case c14 => k_is)
    (case k14 => k_is)
    (case a15 => k_is)
    (case l15 => k_is)
    (case c15 => k_is)
    (case k15 => k_is)
    (case ce15 => rfl)
    (case lc15 => k_is)
    (case vP15 => rfl)
    (case nt15 => kernel_rfl)
    (case l16 => k_is)
    (case c16 => k_is)
    (case k16 => k_is)
    (case fn16 => k_is)
    (case a17 => k_is)
    (case l17 => k_is)
    (case c17 => k_is)
    (case k17 => k_is)
    (case a18 => k_is)
    (case l18 => k_is)
    (case c18 => k_is)
    (case k18 => k_is)
    (case ce18 => rfl)
    (case lc18 => k_is)
    (case vP18 => rfl)
    (case nt18 => kernel_rfl)
    (case ne18_15 => decide +kernel)
    (case z_int => k_is)
    (case z_len => k_is)
    (case z_range => k_is)
    (case z_tuple => k_is)
    (case zb_KeyError => k_is)
    (case zb_ZeroDivisionError => k_is)
    (case zq_super => k_is)
    (case zq_any => k_is)
    (case qO_top => decide +kernel)
