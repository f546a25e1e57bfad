import PyProof.Rows.All
import Wide.All
import OpenK.AllK
import Wide.FinOn
import HandS.ForMost
import HandS.TupAny
import HandS.List
import HandS.Exc
import HandS.ExcOwn
import KE.KeyNested
import KE.KDictKeyed
import HandS.Nested
import HandS.Wide
import HandS.Flow
import HandS.Conv
import HandS.Deep
import HandS.IsInst
import HandS.CallSlots
import HandS.Iter
import HandS.WordsExc
import KE.KIntText
import HandS.Text
import HandS.Dict
import HandS.Small
import KE.DataFind
import HandS.ClsMeth
import HandS.Property
import HandS.MakeKwOnly
import HandS.TryOnly
import HandS.ExcIs
import HandS.ExcField
import KE.KExcIs
import HandS.DictComp
import HandS.Defaults
import PyProof.SumAny
import HandS.Strs
import HandS.Ends
import KE.KDictDisplayH
import PyProof.DictTable
import HandS.Style
import HandS.ExcInit
import HandS.ExcInitHot
import HandS.RaiseFrom
import HandS.SuiteRaise
import KE.KSuper
import KE.KExcSuper
import HandS.TupMul
import HandS.MethStar
import HandS.Star
import KE.KUnpackStar
import HandS.HotCalls
import HandS.Finally
import KE.KWithOwn
import HandS.EndTab
import KE.KExcLine
import KE.KNestM
import PySem.Challenge.RW_switchedlayers_k09_answers_one_by_one
set_option Elab.async false
set_option linter.all false
set_option maxRecDepth 100000
/-! tuples that are made here, with what is known of their object: it has no dict -/
namespace M3
open PySem PySem.Spec PyProof.Rows L2
/-- what stands at a new tuple -/
def NewT (xs : List V) (H : Hp) (Q : VK) : Prop := ∀ (p : Addr) (o : Obj), H p = none → o.dict = none → Q (.ref p) (upd H p (.frz o (.tup xs)))
section
variable {X : Cx} {pos : Pos} {es : List Expr} {t : TA}
theorem laidT {pins : List (Addr × Obj)} {σ : L2.St} {H : Hp} {s : Shared} {h' : Heap} {k : Nat} {Q : VK} {xs : List V} {us : List Value} {n : Nat} (I : Inv X pins σ H { s with heap := h' }) (r : Vals xs us) (z : xs.length ≤ sizeLine) (q : NewT xs H Q) :
    EP X pins σ Q (.ref h'.objs.size) { s with heap := h'.push { cls := .type "tuple", data := .seq us.toArray n }, toks := k } := by
  have hf : H h'.objs.size = none := I.hok.fresh (Nat.le_refl _)
  refine ⟨.ref h'.objs.size, _, I.laid (t' := k) (o := .frz { cls := .type "tuple", data := .seq us.toArray n } (.tup xs)) (fun b u e => Heap.get?_push_of_some _ e) (Nat.le_refl _) ?_, rfl, q _ _ hf rfl⟩
  exact ⟨Heap.get?_push_size _ rfl, z, us, r, ⟨_, Heap.get?_push_size _ rfl, rfl, _, rfl⟩⟩
theorem pe_tupZ {x1} (h : PA X es t) : PE X (.Tuple es x1 pos) (fun σ H Q => t σ H fun xs H1 => xs.length ≤ sizeLine ∧ NewT xs H1 Q) :=
  ⟨fun pins now σ H Q inv wish => wpAny_Tuple_spliced <| thn (h.run pos pins now σ H _ inv wish) fun _ later ⟨_, _, J, r, z, q⟩ => ⟨r.length ▸ z, laidT (s := later) J r z q⟩⟩
def rCatZ (K : PySem.W.Frag) : R2 := fun x y H Q => ∃ a b xs ys, x = .ref a ∧ y = .ref b ∧ SqT K H a xs ∧ SqT K H b ys ∧ xs.length + ys.length ≤ sizeLine ∧
  (xs = [] → Q (.ref b) H) ∧ (xs ≠ [] → ys = [] → Q (.ref a) H) ∧ (xs ≠ [] → ys ≠ [] → NewT (xs ++ ys) H Q)
theorem op_catZ : OpR X (binaryOp .Add) (rCatZ X.K) := by
  rintro pins now σ H _ _ v u Q inv rx ry ⟨a, b, xs, ys, rfl, rfl, ta, tb, z, left, keep, new⟩
  obtain rfl : v = .ref a := rx
  obtain rfl : u = .ref b := ry
  obtain ⟨as, va, pa, -⟩ := inv.tuple ta
  obtain ⟨bs, vb, pb, -⟩ := inv.tuple tb
  rcases eq_or_ne xs [] with e | e
  · subst e
    cases va
    exact cat_tup0 pa pb ⟨V.ref b, H, inv, rfl, left rfl⟩
  · have room : as.length + bs.length ≤ sizeLine := va.length ▸ vb.length ▸ z
    exact HT.cat_tup pa pb (mt va.nil_iff.mp e) (fun q => ⟨V.ref a, H, inv, rfl, keep e (vb.nil_iff.mp q)⟩) (fun q => laidT (s := now) inv (va.append vb) (by simpa using z) (new e (mt vb.nil_iff.mpr q))) room
where
  eq_or_ne (l m : List V) : l = m ∨ l ≠ m := Classical.em _
def rSlZ (K : PySem.W.Frag) : V → Option Int → Option Int → Hp → VK → Prop := fun x lo hi H Q => ∃ a xs, x = .ref a ∧ SqT K H a xs ∧
  (HT.sIx xs.length 0 lo = 0 ∧ HT.sIx xs.length xs.length hi = xs.length → Q (.ref a) H) ∧ (¬ (HT.sIx xs.length 0 lo = 0 ∧ HT.sIx xs.length xs.length hi = xs.length) → NewT (cutV xs lo hi) H Q)
theorem sl_tupZ : SlR X (rSlZ X.K) := by
  rintro pins now σ H _ v vl vu lo hi sl Q inv rx cut plo phi ⟨a, xs, rfl, at_, whole, part⟩
  obtain rfl : v = .ref a := rx
  obtain ⟨its, vals, tup, z⟩ := inv.tuple at_
  have same : its.toArray.size = xs.length := (List.size_toArray ..).trans vals.length.symm
  refine ⟨"tuple", _, PyProof.Rows.slot_tuple_getitem.lookup, tup.typeIs, ?_⟩
  rcases Classical.em (HT.sIx xs.length 0 lo = 0 ∧ HT.sIx xs.length xs.length hi = xs.length) with all | less
  · exact getItem_tuple_whole tup cut plo phi (same.symm ▸ all) ⟨V.ref a, H, inv, rfl, whole all⟩
  · refine HT.getItem_tuple_cut tup cut plo phi (same.symm ▸ less) ?_ (same.symm ▸ z)
    rw [same]
    exact laidT (s := now) inv ((vals.drop _).take _) (Nat.le_trans (cutV_length ..) z) (part less)
theorem call_tupleZ : CallR X (.type "tuple") (fun xs H Q => ∃ p ys, xs = [.ref p] ∧ ((SqL X.K H p ys ∧ NewT ys H Q) ∨ (SqT X.K H p ys ∧ Q (.ref p) H))) := by
  rintro pins now σ H _ us Q inv vals ⟨p, ys, rfl, h⟩
  obtain rfl := Vals.ref1 vals
  cases h with
  | inl h =>
    obtain ⟨its, w, lst, z⟩ := inv.list h.1
    have len := w.length
    have room := line63
    exact call_tuple_list lst.isList (fun later kept => laidT (s := now) (inv.kept (t' := now.toks) kept) w z h.2) (by simp only [List.size_toArray]; omega)
  | inr h =>
    obtain ⟨its, w, tup, z⟩ := inv.tuple h.1
    exact call_tuple_same tup ⟨V.ref p, H, inv, rfl, h.2⟩
end
/-- a tuple that is known to have no dict -/
def FTup (F : Hp) (p : Addr) (vs : List V) : Prop := ∃ o, F p = some (.frz o (.tup vs)) ∧ o.dict = none
theorem FTup.sq {K : PySem.W.Frag} {F : Hp} {p : Addr} {vs : List V} (h : FTup F p vs) : SqT K F p vs := by obtain ⟨o, e, _⟩ := h; exact .inl (.inr ⟨o, e⟩)
theorem FTup.mono {F F' : Hp} {p : Addr} {vs : List V} (s : Same F F') (h : FTup F p vs) : FTup F' p vs := by obtain ⟨o, e, d⟩ := h; exact ⟨o, s _ _ e, d⟩
end M3


namespace M3
open PySem PySem.Spec PyProof.Rows L2

/-! data -/
inductive D where
  | non | bl (b : Bool) | int (i : Int) | str (x : Str) | ty (n : String)
  | tup (xs : List D) | ctup (xs : List D) | lst (xs : List D) | ro (xs : List D) | dict (ks : List Key) (vs : List D) | dd (ks : List D) (vs : List D) | ref (k : Nat) | fn (c : String) (ks : List Nat)

/-- what a slot or an expression holds: data; a list of one's own (it may grow); a caught exception -/
inductive W where
  | val (d : D) | bor (xs : List D) | bod (ks : List Key) (vs : List D) | bdd (ks : List D) (vs : List D) | exn (c : String) (x : D) | len (xs : List D)
/-- a thing of one's own -/
def W.own : W → Bool
  | .bor _ => true
  | .bod _ _ => true
  | .bdd _ _ => true
  | _ => false

/-- objects that are shared -/
inductive MO where
  | lst (xs : List D) | dic (ks : List Key) (vs : List D) | ddi (ks : List D) (vs : List D)
  | ins (c : String) (fs : List (Str × D))
  | cell (d : D)
  | kc (d : D) | slp (i : Nat) | dead
/-- what the abstract heap tells of -/
def MO.tr : MO → Bool
  | .kc _ => false
  | .slp _ => false
  | .dead => false
  | _ => true

abbrev Store := List MO

inductive Res (α : Type) where
  | ok (a : α) (st : Store)
  | err (c : String) (x : D) (st : Store)
  | bad

abbrev M (α : Type) := Store → Res α

def M.pure {α : Type} (a : α) : M α := fun st => .ok a st
def M.bind {α β : Type} (m : M α) (f : α → M β) : M β := fun st => match m st with
  | .ok a st' => f a st'
  | .err c x st' => .err c x st'
  | .bad => .bad
def M.bad {α : Type} : M α := fun _ => .bad
/-- what may not raise -/
def M.quiet {α : Type} (m : M α) : M α := fun st => match m st with
  | .ok a st' => .ok a st'
  | _ => .bad

def M.of {α : Type} : Option α → M α
  | some a => M.pure a
  | none => M.bad
/-- go on if c -/
def M.chk (c : Prop) [Decidable c] : M Unit := fun st => if c then .ok () st else .bad

abbrev Sl3 := List (Option W)

/-! keys that are tuples -/
mutual
def D.nk : D → Option NestedKey
  | .non => some .none
  | .bl b => some (.num (if b then 1 else 0))
  | .int i => some (.num i)
  | .str x => some (.text x)
  | .tup xs => (D.nks xs).map .tup
  | _ => none
def D.nks : List D → Option (List NestedKey)
  | [] => some []
  | x :: xs => match D.nk x, D.nks xs with
    | some k, some ks => some (k :: ks)
    | _, _ => none
end
/-- a tuple that may be a key -/
def D.tk : D → Option NestedKey
  | .tup xs => match D.nks xs with
    | some ks => if (NestedKey.tup ks).depth ≤ 8 then some (.tup ks) else none
    | none => none
  | _ => none
abbrev DkX := List (NestedKey × Addr × Value)
/-- a dict whose keys are tuples: the key, where it stands, the value -/
def DkO (w : World) (p : Addr) (xs : DkX) : HO := .ext fun h => (p == sysModules) = false ∧ (xs.map (·.1)).Nodup ∧ xs.length ≤ sizeLine ∧ ∃ o es ep, h.get? p = some o ∧ o.ExactDict ∧ o.data = .dict es ep ∧ es.toList = xs.map fun x => ⟨x.1.hash w, .ref x.2.1, x.2.2⟩
/-- a made function: its object, its code object, its name, the cells that it captured -/
structure FV where
  ob : Addr → HO
  c : Addr
  qual : Str
  cl : List (Str × Addr)
structure KW where
  K : PySem.W.Frag
  w : World
  nf : String → FV → Prop
/-- a cell and what it holds -/
def CellO (a : Addr) (v : V) : HO := .ext fun h => ∃ u, RelV v u ∧ h.IsCell a (some u)

/-! what stands for what -/
mutual
inductive Rep (K : KW) (F : Hp) (io : Nat → Option Addr) : D → V → Prop where
  | non : Rep K F io .non .non
  | bl {b} : Rep K F io (.bl b) (.bl b)
  | int {i} : Rep K F io (.int i) (.int i)
  | str {x} : Rep K F io (.str x) (.str x)
  | ty {n} : Rep K F io (.ty n) (.ty n)
  | tup {xs vs p} : FTup F p vs → RepL K F io xs vs → Rep K F io (.tup xs) (.ref p)
  | ctup {xs vs p} : SqT K.K F p vs → RepL K F io xs vs → Rep K F io (.ctup xs) (.ref p)
  | lst {xs vs p} : F p = some (.lst vs) → RepL K F io xs vs → Rep K F io (.lst xs) (.ref p)
  | ro {xs vs p} : SqL K.K F p vs → RepL K F io xs vs → Rep K F io (.ro xs) (.ref p)
  | dict {ks us p od} {kvs : List (Key × V)} : F p = some (.frz od (.dK kvs)) → kvs.map (·.1) = ks → RepL K F io us (kvs.map (·.2)) → Rep K F io (.dict ks us) (.ref p)
  | dd {ks us p od} {xs : DkX} {vs : List V} : F p = some (.frz od (DkO K.w p xs)) → RepL K F io ks (xs.map fun x => .ref x.2.1) → ks.map D.tk = xs.map (fun x => some x.1) → Vals vs (xs.map (·.2.2)) → RepL K F io us vs → Rep K F io (.dd ks us) (.ref p)
  | ref {k a} : io k = some a → Rep K F io (.ref k) (.ref a)
  | fn {c ks p} {Fn : FV} : F p = some (Fn.ob p) → K.nf c Fn → F Fn.c = some (LamX.CodeO Fn.c Fn.qual) → ks.map io = Fn.cl.map (fun y => some y.2) → (Fn.cl.map (·.2)).Nodup → Rep K F io (.fn c ks) (.ref p)
inductive RepL (K : KW) (F : Hp) (io : Nat → Option Addr) : List D → List V → Prop where
  | nil : RepL K F io [] []
  | cons {x xs v vs} : Rep K F io x v → RepL K F io xs vs → RepL K F io (x :: xs) (v :: vs)
end

abbrev Io := Nat → Option Addr
def IoLe (io io' : Io) : Prop := ∀ k a, io k = some a → io' k = some a
theorem IoLe.refl (io : Io) : IoLe io io := fun _ _ h => h
theorem IoLe.trans {a b c : Io} (h : IoLe a b) (h' : IoLe b c) : IoLe a c := fun k x e => h' k x (h k x e)

theorem szL {n : Nat} (h : n ≤ 1000000) : n ≤ sizeLine := Nat.le_trans h (by rw [sizeLine_eq]; decide)
theorem szl {n : Nat} (h : n < 1000000) : n < sizeLine := Nat.lt_of_lt_of_le h (by rw [sizeLine_eq]; decide)
theorem same_sqT {K : PySem.W.Frag} {F F' : Hp} {p : Addr} {vs : List V} (h : Same F F') (s : SqT K F p vs) : SqT K F' p vs := by
  rcases s with (h1 | ⟨o, h1⟩) | h1
  · exact .inl (.inl (h _ _ h1))
  · exact .inl (.inr ⟨o, h _ _ h1⟩)
  · exact .inr h1
theorem same_sqL {K : PySem.W.Frag} {F F' : Hp} {p : Addr} {vs : List V} (h : Same F F') (s : SqL K F p vs) : SqL K F' p vs := h.seq s

theorem io_map {io io' : Io} (hi : IoLe io io') : ∀ {ks : List Nat} {cl : List (Str × Addr)}, ks.map io = cl.map (fun y => some y.2) → ks.map io' = cl.map (fun y => some y.2)
  | [], [], _ => rfl
  | [], _ :: _, h => by cases h
  | _ :: _, [], h => by cases h
  | k :: ks, y :: cl, h => by
    rw [List.map_cons, List.map_cons, List.cons.injEq] at h ⊢
    exact ⟨hi _ _ h.1, io_map hi h.2⟩
section
variable {K : KW} {F F' : Hp} {io io' : Io}
mutual
theorem Rep.mono (hF : Same F F') (hi : IoLe io io') : ∀ {d : D} {v : V}, Rep K F io d v → Rep K F' io' d v
  | _, _, .non => .non
  | _, _, .bl => .bl
  | _, _, .int => .int
  | _, _, .str => .str
  | _, _, .ty => .ty
  | _, _, .tup s r => .tup (FTup.mono hF s) (RepL.mono hF hi r)
  | _, _, .ctup s r => .ctup (same_sqT hF s) (RepL.mono hF hi r)
  | _, _, .dict s e r => .dict (hF _ _ s) e (RepL.mono hF hi r)
  | _, _, .dd s k e v r => .dd (hF _ _ s) (RepL.mono hF hi k) e v (RepL.mono hF hi r)
  | _, _, .lst s r => .lst (hF _ _ s) (RepL.mono hF hi r)
  | _, _, .ro s r => .ro (same_sqL hF s) (RepL.mono hF hi r)
  | _, _, .ref e => .ref (hi _ _ e)
  | _, _, .fn e n q l d => .fn (hF _ _ e) n (hF _ _ q) (io_map hi l) d
theorem RepL.mono (hF : Same F F') (hi : IoLe io io') : ∀ {d : List D} {v : List V}, RepL K F io d v → RepL K F' io' d v
  | _, _, .nil => .nil
  | _, _, .cons r t => .cons (Rep.mono hF hi r) (RepL.mono hF hi t)
end
theorem RepL.length : ∀ {xs : List D} {vs : List V}, RepL K F io xs vs → xs.length = vs.length
  | _, _, .nil => rfl
  | _, _, .cons _ t => congrArg Nat.succ (RepL.length t)
theorem RepL.append : ∀ {xs ys : List D} {vs us : List V}, RepL K F io xs vs → RepL K F io ys us → RepL K F io (xs ++ ys) (vs ++ us)
  | _, _, _, _, .nil, s => s
  | _, _, _, _, .cons r t, s => .cons r (RepL.append t s)
theorem RepL.get : ∀ {xs : List D} {vs : List V} {i : Nat} {d : D}, RepL K F io xs vs → xs[i]? = some d → ∃ v, vs[i]? = some v ∧ Rep K F io d v
  | _, _, _, _, .nil, e => by simp at e
  | _, _, 0, _, .cons r _, e => by simp at e; subst e; exact ⟨_, rfl, r⟩
  | _, _, i + 1, _, .cons _ t, e => by
    obtain ⟨v, h1, h2⟩ := RepL.get (i := i) t (by simpa using e)
    exact ⟨v, by simpa using h1, h2⟩
theorem RepL.get' : ∀ {xs : List D} {vs : List V} {i : Nat} {v : V}, RepL K F io xs vs → vs[i]? = some v → ∃ d, xs[i]? = some d ∧ Rep K F io d v
  | _, _, _, _, .nil, e => by simp at e
  | _, _, 0, _, .cons r _, e => by simp at e; subst e; exact ⟨_, rfl, r⟩
  | _, _, i + 1, _, .cons _ t, e => by
    obtain ⟨v, h1, h2⟩ := RepL.get' (i := i) t (by simpa using e)
    exact ⟨v, by simpa using h1, h2⟩
theorem RepL.take : ∀ {xs : List D} {vs : List V} (n : Nat), RepL K F io xs vs → RepL K F io (xs.take n) (vs.take n)
  | _, _, 0, _ => .nil
  | _, _, _ + 1, .nil => .nil
  | _, _, n + 1, .cons r t => .cons r (RepL.take n t)
theorem RepL.drop : ∀ {xs : List D} {vs : List V} (n : Nat), RepL K F io xs vs → RepL K F io (xs.drop n) (vs.drop n)
  | _, _, 0, r => r
  | _, _, _ + 1, .nil => .nil
  | _, _, n + 1, .cons _ t => RepL.drop n t
theorem RepL.set {d : D} {v : V} (r : Rep K F io d v) : ∀ {xs : List D} {vs : List V} (i : Nat), RepL K F io xs vs → RepL K F io (xs.set i d) (vs.set i v)
  | _, _, _, .nil => .nil
  | _, _, 0, .cons _ t => .cons r t
  | _, _, i + 1, .cons q t => .cons q (RepL.set r i t)
theorem RepL.reverse : ∀ {xs : List D} {vs : List V}, RepL K F io xs vs → RepL K F io xs.reverse vs.reverse
  | _, _, .nil => .nil
  | _, _, .cons r t => by
    rw [List.reverse_cons, List.reverse_cons]
    exact (RepL.reverse t).append (.cons r .nil)
end

/-! ### the state -/
/-- what is fixed through a law: own classes by name, the field of an own exception class -/
structure G3 where
  K : PySem.W.Frag
  w : World
  cls : String → Option Addr
  fld : String → Option Str
  nf : String → FV → Prop
  tabs : List NdefX.NTab
  base : Heap
  own : Nat → Option Addr
abbrev G3.R (G : G3) : KW := ⟨G.K, G.w, G.nf⟩
/-- addresses of shared objects; what never changes; the heap -/
structure S3 where
  io : Io
  F : Hp
  H : Hp
structure Le (B : Addr → Prop) (s s' : S3) : Prop where
  io : IoLe s.io s'.io
  fr : Same s.F s'.F
  hid : ∀ a, B a → s'.H a = s.H a
theorem Le.refl {B : Addr → Prop} (s : S3) : Le B s s := ⟨IoLe.refl _, Same.refl _, fun _ _ => rfl⟩
theorem Le.trans {B : Addr → Prop} {a b c : S3} (x : Le B a b) (y : Le B b c) : Le B a c := ⟨x.io.trans y.io, x.fr.trans y.fr, fun p h => (y.hid p h).trans (x.hid p h)⟩
theorem Le.less {B B0 : Addr → Prop} (h : ∀ a, B0 a → B a) {s s' : S3} (x : Le B s s') : Le B0 s s' := ⟨x.io, x.fr, fun a q => x.hid a (h a q)⟩

inductive FsR (K : KW) (F : Hp) (io : Io) : List (Str × D) → List (Str × V) → Prop where
  | nil : FsR K F io [] []
  | cons {f d v fs gs} : Rep K F io d v → FsR K F io fs gs → FsR K F io ((f, d) :: fs) ((f, v) :: gs)
theorem FsR.mono {K : KW} {F F' : Hp} {io io' : Io} (hF : Same F F') (hi : IoLe io io') : ∀ {fs gs}, FsR K F io fs gs → FsR K F' io' fs gs
  | _, _, .nil => .nil
  | _, _, .cons r t => .cons (r.mono hF hi) (FsR.mono hF hi t)
theorem FsR.look {K : KW} {F : Hp} {io : Io} {f : Str} : ∀ {fs gs}, FsR K F io fs gs → (∀ d, fs.lookup f = some d → ∃ v, gs.lookup f = some v ∧ Rep K F io d v) ∧ (fs.lookup f = none → gs.lookup f = none)
  | _, _, .nil => ⟨fun d h => by simp at h, fun _ => rfl⟩
  | _, _, .cons (f := g) r t => by
    have ih := FsR.look (f := f) t
    rw [List.lookup_cons, List.lookup_cons]
    cases h : f == g with
    | true => exact ⟨fun d e => ⟨_, rfl, by cases e; exact r⟩, fun e => by cases e⟩
    | false => exact ih
theorem FsR.length {K : KW} {F : Hp} {io : Io} : ∀ {fs gs}, FsR K F io fs gs → fs.length = gs.length
  | _, _, .nil => rfl
  | _, _, .cons _ t => congrArg Nat.succ (FsR.length t)

/-- a dict with tuple keys: its keys and values as data -/
structure DkR (K : KW) (F : Hp) (io : Io) (ks us : List D) (xs : DkX) : Prop where
  keys : RepL K F io ks (xs.map fun x => .ref x.2.1)
  tk : ks.map D.tk = xs.map (fun x => some x.1)
  vals : ∃ vs, Vals vs (xs.map (·.2.2)) ∧ RepL K F io us vs
theorem DkR.mono {K : KW} {F F' : Hp} {io io' : Io} (hF : Same F F') (hi : IoLe io io') {ks us : List D} {xs : DkX} (h : DkR K F io ks us xs) : DkR K F' io' ks us xs :=
  ⟨h.keys.mono hF hi, h.tk, let ⟨vs, v, r⟩ := h.vals; ⟨vs, v, r.mono hF hi⟩⟩
def ObjR (G : G3) (s : S3) (a : Addr) : MO → Prop
  | .lst xs => ∃ vs, s.H a = some (.lst vs) ∧ RepL G.R s.F s.io xs vs
  | .dic ks us => ∃ kvs : List (Key × V), s.H a = some (.dK kvs) ∧ kvs.map (·.1) = ks ∧ RepL G.R s.F s.io us (kvs.map (·.2))
  | .ddi ks us => ∃ xs, s.H a = some (DkO G.w a xs) ∧ DkR G.R s.F s.io ks us xs
  | .ins c fs => ∃ C dx gs, G.cls c = some C ∧ s.H a = some (.ins C dx gs) ∧ FsR G.R s.F s.io fs gs
  | .cell d => ∃ v, s.H a = some (CellO a v) ∧ Rep G.R s.F s.io d v
  | _ => False
/-- cells that the abstract heap does not tell of: known ones, the running frame's own, those of frames that are gone -/
def UntR (G : G3) (s : S3) (a : Addr) : MO → Prop
  | .kc d => ∃ v u, L2.RelV v u ∧ G.base.IsCell a (some u) ∧ Rep G.R s.F s.io d v
  | .slp i => G.own i = some a
  | .dead => True
  | _ => False

/-- not a code object's table -/
def NoTbl (o : HO) : Prop := ∀ ps, o ≠ .tbl ps
theorem code_wit (c : Addr) (q : Str) : ∃ h : Heap, (∃ (oc : Obj) (vs : Array Value) (t : Tok), h.get? c = some oc ∧ oc.data = .fields vs ∧ vs[1]? = some (.str q t)) ∧ ∀ a o, h.get? a = some o → ∃ vs, o.data = .fields vs := by
  refine ⟨{ objs := Array.replicate (c + 1) { cls := .none, data := .fields #[.none, .str q 0] } }, ⟨{ cls := .none, data := .fields #[.none, .str q 0] }, _, 0, ?_, rfl, rfl⟩, fun a o e => ?_⟩
  · unfold Heap.get?
    simp
  · unfold Heap.get? at e
    simp only [Array.getElem?_replicate] at e
    split at e
    · cases e
    · split at e
      · cases e; exact ⟨_, rfl⟩
      · cases e
theorem code_ext {c : Addr} {q : Str} {φ : Heap → Prop} (e : HO.ext φ = LamX.CodeO c q) (k : ∀ h, φ h → ∃ a o, h.get? a = some o ∧ ∀ vs, o.data ≠ .fields vs) : False := by
  obtain ⟨h, h1, h2⟩ := code_wit c q
  unfold LamX.CodeO at e
  injection e with e
  have : φ h := by rw [e]; exact h1
  obtain ⟨a, o, e1, e2⟩ := k h this
  obtain ⟨vs, e3⟩ := h2 a o e1
  exact e2 vs e3
theorem dkO_code {w : World} {p : Addr} {xs : DkX} {c : Addr} {q : Str} (e : DkO w p xs = LamX.CodeO c q) : False :=
  code_ext e fun h ⟨_, _, _, o, es, ep, e1, _, e2, _⟩ => ⟨p, o, e1, fun vs z => by rw [e2] at z; cases z⟩
theorem cellO_code {a : Addr} {v : V} {c : Addr} {q : Str} (e : CellO a v = LamX.CodeO c q) : False :=
  code_ext e fun h ⟨_, _, o, e1, e2⟩ => ⟨a, o, e1, fun vs z => by rw [e2] at z; cases z⟩
/-- a thing that one owns -/
structure OwnH (o : HO) : Prop where
  tbl : NoTbl o
  code : ∀ c q, o ≠ LamX.CodeO c q
/-- a table of code objects: those that it tells never change, each has the name of its place -/
def TabR (s : S3) (p : NdefX.NTab) : Prop := ∃ ps : Array Value, s.H p.1 = some (.tbl ps) ∧ TriplesOk ps.toList ∧ ∀ (pos : Pos) (cv : Value), codeAmong pos ps.toList = some cv → ∃ c, cv = .ref c ∧ s.F c = some (LamX.CodeO c (p.2 pos.line pos.col))
theorem TabR.mono {s s' : S3} {p : NdefX.NTab} (hf : Same s.F s'.F) (hh : ∀ ps, s.H p.1 = some (.tbl ps) → s'.H p.1 = some (.tbl ps)) (x : TabR s p) : TabR s' p :=
  let ⟨ps, e, t, r⟩ := x
  ⟨ps, hh ps e, t, fun pos cv q => let ⟨c, e1, e2⟩ := r pos cv q; ⟨c, e1, hf _ _ e2⟩⟩
structure Wd (G : G3) (B : Addr → Prop) (st : Store) (s : S3) : Prop where
  sub : Same s.F s.H
  hid : ∀ a, B a → s.F a = none ∧ ∃ o, s.H a = some o ∧ OwnH o
  ftb : ∀ a o, s.F a = some o → NoTbl o
  dom : ∀ k a, s.io k = some a → k < st.length
  inj : ∀ j k a oj ok, s.io j = some a → s.io k = some a → st[j]? = some oj → oj.tr = true → st[k]? = some ok → ok.tr = true → j = k
  obj : ∀ k o, st[k]? = some o → o.tr = true → ∃ a, s.io k = some a ∧ ¬ B a ∧ s.F a = none ∧ ObjR G s a o
  unt : ∀ k o, st[k]? = some o → o.tr = false → ∃ a, s.io k = some a ∧ UntR G s a o
  tabs : ∀ p ∈ G.tabs, TabR s p
theorem Wd.freshF {G : G3} {B : Addr → Prop} {st : Store} {s : S3} (w : Wd G B st s) {p : Addr} (h : s.H p = none) : s.F p = none := by
  cases q : s.F p with
  | none => rfl
  | some o => rw [w.sub p o q] at h; cases h
theorem Wd.freshB {G : G3} {B : Addr → Prop} {st : Store} {s : S3} (w : Wd G B st s) {p : Addr} (h : s.H p = none) : ¬ B p := fun b => by
  obtain ⟨_, o, e, _⟩ := w.hid p b
  rw [e] at h; cases h
theorem ObjR.there {G : G3} {s : S3} {a : Addr} {o : MO} (x : ObjR G s a o) : ∃ u, s.H a = some u := by
  cases o with
  | lst xs => obtain ⟨vs, q, _⟩ := x; exact ⟨_, q⟩
  | dic ks us => obtain ⟨vs, q, _⟩ := x; exact ⟨_, q⟩
  | ddi ks us => obtain ⟨vs, q, _⟩ := x; exact ⟨_, q⟩
  | ins c fs => obtain ⟨_, _, _, _, q, _⟩ := x; exact ⟨_, q⟩
  | cell d => obtain ⟨_, q, _⟩ := x; exact ⟨_, q⟩
  | _ => exact False.elim x
theorem Wd.tabM {G : G3} {B : Addr → Prop} {st : Store} {s s' : S3} (w : Wd G B st s) (hf : Same s.F s'.F) (hh : ∀ P ps, s.H P = some (.tbl ps) → s'.H P = some (.tbl ps)) : ∀ p ∈ G.tabs, TabR s' p := fun p hp =>
  (w.tabs p hp).mono hf (hh p.1)
theorem upd_tbl {H : Hp} {p : Addr} {o : HO} (h : ∀ ps, H p ≠ some (.tbl ps)) : ∀ P ps, H P = some (.tbl ps) → upd H p o P = some (.tbl ps) := fun P ps e => by
  rw [upd_ne (fun z => by subst z; exact h ps e)]; exact e
theorem ObjR.ntbl {G : G3} {s : S3} {a : Addr} {o : MO} (x : ObjR G s a o) : ∀ ps, s.H a ≠ some (.tbl ps) := fun ps z => by
  cases o with
  | lst xs => obtain ⟨vs, q, _⟩ := x; rw [z] at q; cases q
  | dic ks us => obtain ⟨vs, q, _⟩ := x; rw [z] at q; cases q
  | ddi ks us => obtain ⟨vs, q, _⟩ := x; rw [z] at q; cases q
  | ins c fs => obtain ⟨_, _, _, _, q, _⟩ := x; rw [z] at q; cases q
  | cell d => obtain ⟨_, q, _⟩ := x; rw [z] at q; cases q
  | _ => exact False.elim x
theorem Wd.ntbl {G : G3} {B : Addr → Prop} {st : Store} {s : S3} (w : Wd G B st s) {p : Addr} (b : B p) : ∀ ps, s.H p ≠ some (.tbl ps) := fun ps z => by
  obtain ⟨_, o, e, n⟩ := w.hid p b
  rw [z] at e; cases e
  exact n.tbl ps rfl
theorem ntbl_none {H : Hp} {p : Addr} (h : H p = none) : ∀ ps, H p ≠ some (.tbl ps) := fun ps z => by rw [h] at z; cases z
theorem ObjR.tr {G : G3} {s : S3} {a : Addr} {o : MO} (x : ObjR G s a o) : o.tr = true := by
  cases o <;> first | rfl | exact False.elim x
theorem Wd.freshI {G : G3} {B : Addr → Prop} {st : Store} {s : S3} (w : Wd G B st s) {p : Addr} (h : s.H p = none) {k : Nat} {o : MO} (eo : st[k]? = some o) (t : o.tr = true) : s.io k ≠ some p := fun e => by
  obtain ⟨a, e', _, _, x⟩ := w.obj k o eo t
  rw [e] at e'; cases e'
  obtain ⟨u, q⟩ := x.there
  rw [h] at q; cases q
theorem UntR.mono {G : G3} {s s' : S3} {a : Addr} {o : MO} (hi : IoLe s.io s'.io) (hf : Same s.F s'.F) (x : UntR G s a o) : UntR G s' a o := by
  cases o with
  | kc d => obtain ⟨v, u, r, b, q⟩ := x; exact ⟨v, u, r, b, q.mono hf hi⟩
  | slp i => exact x
  | dead => exact x
  | _ => exact False.elim x
theorem Wd.untM {G : G3} {B : Addr → Prop} {st : Store} {s s' : S3} (w : Wd G B st s) (hi : IoLe s.io s'.io) (hf : Same s.F s'.F) : ∀ k o, st[k]? = some o → o.tr = false → ∃ a, s'.io k = some a ∧ UntR G s' a o := fun k o e t =>
  let ⟨a, e1, x⟩ := w.unt k o e t
  ⟨a, hi k a e1, x.mono hi hf⟩
theorem ObjR.mono {G : G3} {s s' : S3} {a : Addr} {o : MO} (hi : IoLe s.io s'.io) (hf : Same s.F s'.F) (hh : s'.H a = s.H a) (x : ObjR G s a o) : ObjR G s' a o := by
  cases o with
  | lst xs => obtain ⟨vs, e, r⟩ := x; exact ⟨vs, hh.trans e, r.mono hf hi⟩
  | dic ks us => obtain ⟨vs, e, e2, r⟩ := x; exact ⟨vs, hh.trans e, e2, r.mono hf hi⟩
  | ddi ks us => obtain ⟨vs, e, r⟩ := x; exact ⟨vs, hh.trans e, r.mono hf hi⟩
  | ins c fs => obtain ⟨C, dx, gs, e0, e, r⟩ := x; exact ⟨C, dx, gs, e0, hh.trans e, r.mono hf hi⟩
  | cell d => obtain ⟨v, e, r⟩ := x; exact ⟨v, hh.trans e, r.mono hf hi⟩
  | _ => exact False.elim x

/-- a new thing that never changes -/
def S3.froz (s : S3) (p : Addr) (o : HO) : S3 := ⟨s.io, upd s.F p o, upd s.H p o⟩
theorem same_upd {H : Hp} {p : Addr} {o : HO} (h : H p = none) : Same H (upd H p o) := fun b u e => by
  rw [upd_ne (ne_of_none e h)]; exact e
theorem Wd.froz {G : G3} {B : Addr → Prop} {st : Store} {s : S3} (w : Wd G B st s) {p : Addr} (h : s.H p = none) (o : HO) (nt : NoTbl o := by intro _ q; cases q) : Wd G B st (s.froz p o) ∧ Le B s (s.froz p o) := by
  have hF := w.freshF h
  have nB : ∀ a, B a → a ≠ p := fun a b e => w.freshB h (e ▸ b)
  refine ⟨⟨fun b u e => ?_, fun a b => ?_, fun a u e => ?_, w.dom, w.inj, fun k u e t => ?_, w.untM (IoLe.refl _) (same_upd hF), w.tabM (same_upd hF) (upd_tbl (ntbl_none h))⟩, IoLe.refl _, same_upd hF, fun a b => upd_ne (nB a b)⟩
  · show upd s.H p o b = some u
    have e : upd s.F p o b = some u := e
    by_cases hb : b = p
    · subst hb; rw [upd_same] at e ⊢; exact e
    · rw [upd_ne hb] at e ⊢; exact w.sub b u e
  · obtain ⟨h1, u, h2, h3⟩ := w.hid a b
    exact ⟨by show upd s.F p o a = none; rw [upd_ne (nB a b)]; exact h1, u, by show upd s.H p o a = some u; rw [upd_ne (nB a b)]; exact h2, h3⟩
  · have e : upd s.F p o a = some u := e
    by_cases hb : a = p
    · subst hb; rw [upd_same] at e; cases e; exact nt
    · rw [upd_ne hb] at e; exact w.ftb a u e
  · obtain ⟨a, e1, b1, f1, o1⟩ := w.obj k u e t
    have na : a ≠ p := fun z => w.freshI h e t (z ▸ e1)
    exact ⟨a, e1, b1, by show upd s.F p o a = none; rw [upd_ne na]; exact f1, ObjR.mono (s := s) (s' := s.froz p o) (IoLe.refl _) (same_upd hF) (upd_ne na) o1⟩

theorem Wd.newT {G : G3} {B : Addr → Prop} {st : Store} {s : S3} {xs : List D} {vs : List V} {Q : VK} (w : Wd G B st s) (r : RepL G.R s.F s.io xs vs)
    (k : ∀ (s' : S3) (v : V), Le B s s' → Wd G B st s' → Rep G.R s'.F s'.io (.tup xs) v → Q v s'.H) : NewT vs s.H Q := fun p o hp hd =>
  let ⟨w2, l2⟩ := w.froz hp (.frz o (.tup vs))
  k (s.froz p (.frz o (.tup vs))) (.ref p) l2 w2 (.tup ⟨o, upd_same, hd⟩ (r.mono l2.fr l2.io))

/-- an exception's class and dict -/
def ExR (G : G3) (s : S3) (c : String) (x : D) (cv : Value) (dd : Option Addr) : Prop :=
  match G.cls c with
  | none => cv = .type c ∧ dd = none
  | some C => cv = .ref C ∧ (match G.fld c with
    | none => dd = none
    | some f => ∃ d fs v, dd = some d ∧ s.F d = some (.xd fs) ∧ fs.lookup f = some v ∧ Rep G.R s.F s.io x v)

/-- the handled exception: where, its class' name, its field -/
abbrev Hex := Option (Addr × String × D × Option Addr)
/-- the field of an exception whose dict is dd -/
def XFld (G : G3) (s : S3) (c : String) (x : D) (dd : Option Addr) : Prop := ∀ C f, G.cls c = some C → G.fld c = some f → ∃ d fs v, dd = some d ∧ s.F d = some (.xd fs) ∧ fs.lookup f = some v ∧ Rep G.R s.F s.io x v

theorem XFld.mono {G : G3} {s s' : S3} {c : String} {x : D} {dd : Option Addr} (hi : IoLe s.io s'.io) (hf : Same s.F s'.F) (h : XFld G s c x dd) : XFld G s' c x dd := fun C f h1 h2 =>
  let ⟨d, fs, v, q1, q2, q3, q4⟩ := h C f h1 h2
  ⟨d, fs, v, q1, hf _ _ q2, q3, q4.mono hf hi⟩
def RepW (G : G3) (X : Hex) (B : Addr → Prop) (s : S3) : W → V → Prop
  | .val d, v => Rep G.R s.F s.io d v
  | .bor xs, v => ∃ p vs, v = .ref p ∧ B p ∧ s.H p = some (.lst vs) ∧ RepL G.R s.F s.io xs vs
  | .bod ks us, v => ∃ (p : Addr) (kvs : List (Key × V)), v = .ref p ∧ B p ∧ s.H p = some (.dK kvs) ∧ kvs.map (·.1) = ks ∧ RepL G.R s.F s.io us (kvs.map (·.2))
  | .bdd ks us, v => ∃ (p : Addr) (xs : DkX), v = .ref p ∧ B p ∧ s.H p = some (DkO G.w p xs) ∧ DkR G.R s.F s.io ks us xs
  | .exn c x, v => ∃ a dd, X = some (a, c, x, dd) ∧ v = .ref a ∧ XFld G s c x dd
  | .len xs, v => ∃ p vs o, v = .ref p ∧ B p ∧ s.H p = some (.frz o (.lst vs)) ∧ RepL G.R s.F s.io xs vs
theorem RepW.mono {G : G3} {X : Hex} {B : Addr → Prop} {s s' : S3} (l : Le B s s') {w : W} {v : V} (r : RepW G X B s w v) : RepW G X B s' w v := by
  cases w with
  | val d => exact Rep.mono l.fr l.io r
  | bor xs => obtain ⟨p, vs, e, b, h, r⟩ := r; exact ⟨p, vs, e, b, (l.hid p b).trans h, r.mono l.fr l.io⟩
  | bod ks us => obtain ⟨p, vs, e, b, h, e2, r⟩ := r; exact ⟨p, vs, e, b, (l.hid p b).trans h, e2, r.mono l.fr l.io⟩
  | bdd ks us => obtain ⟨p, vs, e, b, h, r⟩ := r; exact ⟨p, vs, e, b, (l.hid p b).trans h, r.mono l.fr l.io⟩
  | exn c x =>
    obtain ⟨a, dd, e1, e2, xf⟩ := r
    exact ⟨a, dd, e1, e2, xf.mono l.io l.fr⟩
  | len xs => obtain ⟨p, vs, o, e, b, h, r⟩ := r; exact ⟨p, vs, o, e, b, (l.hid p b).trans h, r.mono l.fr l.io⟩

/-- the slots -/
structure Slo (G : G3) (X : Hex) (B0 B : Addr → Prop) (s : S3) (u : Sl3) (z : L2.St) : Prop where
  len : u.length = z.length
  ex : ∃ ow : Nat → Addr, (∀ (i : Nat) (w : W), u[i]? = some (some w) → ∃ v, z[i]? = some (some v) ∧ RepW G X B s w v ∧ (w.own = true → v = .ref (ow i) ∧ ¬ B0 (ow i))) ∧
    ∀ (i j : Nat) (w w' : W), w.own = true → w'.own = true → u[i]? = some (some w) → u[j]? = some (some w') → ow i = ow j → i = j
theorem Slo.mono {G : G3} {X : Hex} {B0 B : Addr → Prop} {s s' : S3} {u : Sl3} {z : L2.St} (l : Le B s s') (h : Slo G X B0 B s u z) : Slo G X B0 B s' u z := by
  obtain ⟨hl, ow, h1, h2⟩ := h
  exact ⟨hl, ow, fun i w e => let ⟨v, e1, r, q⟩ := h1 i w e; ⟨v, e1, r.mono l, q⟩, h2⟩
theorem Slo.get {G : G3} {X : Hex} {B0 B : Addr → Prop} {s : S3} {u : Sl3} {z : L2.St} (h : Slo G X B0 B s u z) {i : Nat} {w : W} (e : u[i]? = some (some w)) : ∃ v, z[i]? = some (some v) ∧ RepW G X B s w v := by
  obtain ⟨hl, ow, h1, h2⟩ := h
  obtain ⟨v, e1, r, _⟩ := h1 i w e
  exact ⟨v, e1, r⟩

/-! ### what is wanted behind a part -/
def Post {α β : Type} (G : G3) (B : Addr → Prop) (R : S3 → α → β → Prop) (E : XK) (s : S3) (Q : β → Hp → Prop) : Res α → Prop
  | .ok a st' => ∀ (s' : S3) (b : β), Le B s s' → Wd G B st' s' → R s' a b → Q b s'.H
  | .err c x st' => ∀ (s' : S3) (cv : Value) (dd : Option Addr), Le B s s' → Wd G B st' s' → ExR G s' c x cv dd → E cv dd s'.H
  | .bad => False
theorem Post.mono {α β : Type} {G : G3} {B : Addr → Prop} {R : S3 → α → β → Prop} {E : XK} {s s1 : S3} {Q : β → Hp → Prop} {r : Res α} (l : Le B s s1) (h : Post G B R E s Q r) : Post G B R E s1 Q r := by
  cases r with
  | ok a st' => exact fun s' b l' w r => h s' b (l.trans l') w r
  | err c x st' => exact fun s' cv dd l' w r => h s' cv dd (l.trans l') w r
  | bad => exact h
theorem Post.bind {α β γ δ : Type} {G : G3} {B : Addr → Prop} {R : S3 → α → β → Prop} {R' : S3 → γ → δ → Prop} {E : XK} {s : S3} {Q : δ → Hp → Prop} {Q1 : β → Hp → Prop} {m : M α} {f : α → M γ} {st : Store} (h : Post G B R' E s Q (M.bind m f st))
    (k : ∀ a st' s' b, Le B s s' → Wd G B st' s' → R s' a b → Post G B R' E s' Q (f a st') → Q1 b s'.H) : Post G B R E s Q1 (m st) := by
  unfold M.bind at h
  cases e : m st with
  | ok a st' =>
    rw [e] at h
    exact fun s' b l w r => k a st' s' b l w r (Post.mono l h)
  | err c x st' => rw [e] at h; exact h
  | bad => rw [e] at h; exact h
theorem Post.pure {α β : Type} {G : G3} {B : Addr → Prop} {R : S3 → α → β → Prop} {E : XK} {s : S3} {Q : β → Hp → Prop} {a : α} {b : β} {st : Store} (h : Post G B R E s Q (.ok a st)) (w : Wd G B st s) (r : R s a b) : Q b s.H := h s b (Le.refl _) w r

/-! ### the judgements -/
abbrev EM := Sl3 → M W
abbrev TM := Sl3 → M Bool
abbrev AM := Sl3 → M (List W)
inductive RepWs (G : G3) (X : Hex) (B : Addr → Prop) (s : S3) : List W → List V → Prop where
  | nil : RepWs G X B s [] []
  | cons {w v ws vs} : RepW G X B s w v → RepWs G X B s ws vs → RepWs G X B s (w :: ws) (v :: vs)
theorem RepWs.mono {G : G3} {X : Hex} {B : Addr → Prop} {s s' : S3} (l : Le B s s') : ∀ {ws : List W} {vs : List V}, RepWs G X B s ws vs → RepWs G X B s' ws vs
  | _, _, .nil => .nil
  | _, _, .cons r t => .cons (r.mono l) (RepWs.mono l t)
theorem RepWs.length {G : G3} {X : Hex} {B : Addr → Prop} {s : S3} : ∀ {ws : List W} {vs : List V}, RepWs G X B s ws vs → ws.length = vs.length
  | _, _, .nil => rfl
  | _, _, .cons _ t => congrArg Nat.succ (RepWs.length t)

/-- where a part stands: the context, the law's names, the handled exception, the wish about exceptions -/
structure P3 where
  X : Cx
  G : G3
  hx : Hex
  wx : WX
  hK : X.K = G.K
  hw : X.w = G.w
/-- the readings that the mirrors give -/
def tE (G : G3) (hx : Hex) (wx : WX) (m : EM) : TE := fun z H Q => ∃ (B0 B : Addr → Prop) (s : S3) (st : Store) (u : Sl3), s.H = H ∧ Wd G B st s ∧ Slo G hx B0 B s u z ∧ Post G B (RepW G hx B) (fun c d H => wx c d z H) s Q (m u st)
def tT (G : G3) (hx : Hex) (wx : WX) (m : TM) : TT := fun z H Q => ∃ (B0 B : Addr → Prop) (s : S3) (st : Store) (u : Sl3), s.H = H ∧ Wd G B st s ∧ Slo G hx B0 B s u z ∧ Post G B (fun _ a b => a = b) (fun c d H => wx c d z H) s Q (m u st)
def tA (G : G3) (hx : Hex) (wx : WX) (m : AM) : TA := fun z H Q => ∃ (B0 B : Addr → Prop) (s : S3) (st : Store) (u : Sl3), s.H = H ∧ Wd G B st s ∧ Slo G hx B0 B s u z ∧ Post G B (RepWs G hx B) (fun c d H => wx c d z H) s Q (m u st)
structure ME (P : P3) (e : Expr) (m : EM) : Prop where
  pe : PE P.X e (tE P.G P.hx P.wx m)
structure MT (P : P3) (e : Expr) (m : TM) : Prop where
  pt : PT P.X e (tT P.G P.hx P.wx m)
structure MW (P : P3) (e : Expr) (m : TM) : Prop where
  pw : PW P.X e (tT P.G P.hx P.wx m)
structure MA (P : P3) (es : List Expr) (m : AM) : Prop where
  pa : PA P.X es (tA P.G P.hx P.wx m)
section
variable {P : P3} {e : Expr} {es : List Expr}
theorem ME.mk' {m : EM} {t : TE} (h : PE P.X e t) (k : ∀ (B0 B : Addr → Prop) (s : S3) (st : Store) (u : Sl3) (z : L2.St) (Q : VK), Wd P.G B st s → Slo P.G P.hx B0 B s u z →
    Post P.G B (RepW P.G P.hx B) (fun c d H => P.wx c d z H) s Q (m u st) → t z s.H Q) : ME P e m :=
  ⟨⟨fun pins s0 z H Q I ⟨B0, B, s, st, u, e, wd, sl, p⟩ => by subst e; exact h.run pins s0 z _ Q I (k B0 B s st u z Q wd sl p)⟩⟩
theorem MT.mk' {m : TM} {t : TT} (h : PT P.X e t) (k : ∀ (B0 B : Addr → Prop) (s : S3) (st : Store) (u : Sl3) (z : L2.St) (Q : Bool → Hp → Prop), Wd P.G B st s → Slo P.G P.hx B0 B s u z →
    Post P.G B (fun _ a b => a = b) (fun c d H => P.wx c d z H) s Q (m u st) → t z s.H Q) : MT P e m :=
  ⟨⟨fun pins s0 z H Q I ⟨B0, B, s, st, u, e, wd, sl, p⟩ => by subst e; exact h.run pins s0 z _ Q I (k B0 B s st u z Q wd sl p)⟩⟩
theorem MW.mk' {m : TM} {t : TT} (h : PW P.X e t) (k : ∀ (B0 B : Addr → Prop) (s : S3) (st : Store) (u : Sl3) (z : L2.St) (Q : Bool → Hp → Prop), Wd P.G B st s → Slo P.G P.hx B0 B s u z →
    Post P.G B (fun _ a b => a = b) (fun c d H => P.wx c d z H) s Q (m u st) → t z s.H Q) : MW P e m :=
  ⟨⟨fun whole pins s0 z H Q I ⟨B0, B, s, st, u, e, wd, sl, p⟩ => by subst e; exact h.run whole pins s0 z _ Q I (k B0 B s st u z Q wd sl p)⟩⟩
theorem MA.mk' {m : AM} {t : TA} (h : PA P.X es t) (k : ∀ (B0 B : Addr → Prop) (s : S3) (st : Store) (u : Sl3) (z : L2.St) (Q : List V → Hp → Prop), Wd P.G B st s → Slo P.G P.hx B0 B s u z →
    Post P.G B (RepWs P.G P.hx B) (fun c d H => P.wx c d z H) s Q (m u st) → t z s.H Q) : MA P es m :=
  ⟨⟨fun pos pins s0 z H Q I ⟨B0, B, s, st, u, e, wd, sl, p⟩ => by subst e; exact h.run pos pins s0 z _ Q I (k B0 B s st u z Q wd sl p)⟩⟩
theorem ME.out {m : EM} (h : ME P e m) : ∃ t, PE P.X e t ∧ ∀ (B0 B : Addr → Prop) (s : S3) (st : Store) (u : Sl3) (z : L2.St) (Q : VK), Wd P.G B st s → Slo P.G P.hx B0 B s u z →
    Post P.G B (RepW P.G P.hx B) (fun c d H => P.wx c d z H) s Q (m u st) → t z s.H Q := ⟨_, h.pe, fun B0 B s st u z Q wd sl p => ⟨B0, B, s, st, u, rfl, wd, sl, p⟩⟩
theorem MT.out {m : TM} (h : MT P e m) : ∃ t, PT P.X e t ∧ ∀ (B0 B : Addr → Prop) (s : S3) (st : Store) (u : Sl3) (z : L2.St) (Q : Bool → Hp → Prop), Wd P.G B st s → Slo P.G P.hx B0 B s u z →
    Post P.G B (fun _ a b => a = b) (fun c d H => P.wx c d z H) s Q (m u st) → t z s.H Q := ⟨_, h.pt, fun B0 B s st u z Q wd sl p => ⟨B0, B, s, st, u, rfl, wd, sl, p⟩⟩
theorem MW.out {m : TM} (h : MW P e m) : ∃ t, PW P.X e t ∧ ∀ (B0 B : Addr → Prop) (s : S3) (st : Store) (u : Sl3) (z : L2.St) (Q : Bool → Hp → Prop), Wd P.G B st s → Slo P.G P.hx B0 B s u z →
    Post P.G B (fun _ a b => a = b) (fun c d H => P.wx c d z H) s Q (m u st) → t z s.H Q := ⟨_, h.pw, fun B0 B s st u z Q wd sl p => ⟨B0, B, s, st, u, rfl, wd, sl, p⟩⟩
theorem MA.out {m : AM} (h : MA P es m) : ∃ t, PA P.X es t ∧ ∀ (B0 B : Addr → Prop) (s : S3) (st : Store) (u : Sl3) (z : L2.St) (Q : List V → Hp → Prop), Wd P.G B st s → Slo P.G P.hx B0 B s u z →
    Post P.G B (RepWs P.G P.hx B) (fun c d H => P.wx c d z H) s Q (m u st) → t z s.H Q := ⟨_, h.pa, fun B0 B s st u z Q wd sl p => ⟨B0, B, s, st, u, rfl, wd, sl, p⟩⟩
end

/-! ### a new list, for whoever takes it -/
abbrev FM := Sl3 → M (List D)
def plus (B : Addr → Prop) (p : Addr) : Addr → Prop := fun a => B a ∨ a = p
def PostF (G : G3) (B : Addr → Prop) (E : XK) (s : S3) (Q : VK) : Res (List D) → Prop
  | .ok xs st' => ∀ (s' : S3) (p : Addr) (vs : List V), Le B s s' → Wd G (plus B p) st' s' → ¬ B p → s'.H p = some (.lst vs) → RepL G.R s'.F s'.io xs vs → Q (.ref p) s'.H
  | .err c x st' => ∀ (s' : S3) (cv : Value) (dd : Option Addr), Le B s s' → Wd G B st' s' → ExR G s' c x cv dd → E cv dd s'.H
  | .bad => False
def tF (G : G3) (hx : Hex) (wx : WX) (m : FM) : TE := fun z H Q => ∃ (B0 B : Addr → Prop) (s : S3) (st : Store) (u : Sl3), s.H = H ∧ Wd G B st s ∧ Slo G hx B0 B s u z ∧ PostF G B (fun c d H => wx c d z H) s Q (m u st)
structure MF (P : P3) (e : Expr) (m : FM) : Prop where
  pe : PE P.X e (tF P.G P.hx P.wx m)
theorem MF.mk' {P : P3} {e : Expr} {m : FM} {t : TE} (h : PE P.X e t) (k : ∀ (B0 B : Addr → Prop) (s : S3) (st : Store) (u : Sl3) (z : L2.St) (Q : VK), Wd P.G B st s → Slo P.G P.hx B0 B s u z →
    PostF P.G B (fun c d H => P.wx c d z H) s Q (m u st) → t z s.H Q) : MF P e m :=
  ⟨⟨fun pins s0 z H Q I ⟨B0, B, s, st, u, e, wd, sl, p⟩ => by subst e; exact h.run pins s0 z _ Q I (k B0 B s st u z Q wd sl p)⟩⟩
theorem MF.out {P : P3} {e : Expr} {m : FM} (h : MF P e m) : ∃ t, PE P.X e t ∧ ∀ (B0 B : Addr → Prop) (s : S3) (st : Store) (u : Sl3) (z : L2.St) (Q : VK), Wd P.G B st s → Slo P.G P.hx B0 B s u z →
    PostF P.G B (fun c d H => P.wx c d z H) s Q (m u st) → t z s.H Q := ⟨_, h.pe, fun B0 B s st u z Q wd sl p => ⟨B0, B, s, st, u, rfl, wd, sl, p⟩⟩
section
variable {G : G3} {B : Addr → Prop} {E : XK} {s s1 : S3} {Q : VK}
theorem PostF.mono {r : Res (List D)} (l : Le B s s1) (h : PostF G B E s Q r) : PostF G B E s1 Q r := by
  cases r with
  | ok a st' => exact fun s' p vs l' w nb hp r => h s' p vs (l.trans l') w nb hp r
  | err c x st' => exact fun s' cv dd l' w r => h s' cv dd (l.trans l') w r
  | bad => exact h
theorem PostF.bind {α β : Type} {R : S3 → α → β → Prop} {Q1 : β → Hp → Prop} {m : M α} {f : α → M (List D)} {st : Store} (h : PostF G B E s Q (M.bind m f st))
    (k : ∀ a st' s' b, Le B s s' → Wd G B st' s' → R s' a b → PostF G B E s' Q (f a st') → Q1 b s'.H) : Post G B R E s Q1 (m st) := by
  unfold M.bind at h
  cases e : m st with
  | ok a st' =>
    rw [e] at h
    exact fun s' b l w r => k a st' s' b l w r (PostF.mono l h)
  | err c x st' => rw [e] at h; exact h
  | bad => rw [e] at h; exact h
theorem PostF.of_chk {c : Prop} [Decidable c] {f : M (List D)} {st : Store} (h : PostF G B E s Q (M.bind (M.chk c) (fun _ => f) st)) : c ∧ PostF G B E s Q (f st) := by
  by_cases hc : c
  · refine ⟨hc, ?_⟩
    have e : M.bind (M.chk c) (fun _ => f) st = f st := by unfold M.bind M.chk; rw [if_pos hc]
    rw [e] at h; exact h
  · have e : M.bind (M.chk c) (fun _ => f) st = .bad := by unfold M.bind M.chk; rw [if_neg hc]
    rw [e] at h; exact h.elim
theorem Wd.less {B' : Addr → Prop} {st : Store} (w : Wd G B' st s) (h : ∀ a, B a → B' a) : Wd G B st s :=
  ⟨w.sub, fun a b => w.hid a (h a b), w.ftb, w.dom, w.inj, fun k o e t => let ⟨a, e1, b, f, r⟩ := w.obj k o e t; ⟨a, e1, fun z => b (h a z), f, r⟩, w.unt, w.tabs⟩
/-- a list of one's own is let go: it never changes from here on -/
theorem freeze_le {p : Addr} {ho : HO} {st : Store} (w : Wd G (plus B p) st s) : Le B s ⟨s.io, upd s.F p ho, s.H⟩ :=
  ⟨IoLe.refl _, same_upd (w.hid p (.inr rfl)).1, fun _ _ => rfl⟩
theorem freeze_wd {p : Addr} {ho : HO} {st : Store} (w : Wd G (plus B p) st s) (nb : ¬ B p) (h : s.H p = some ho) : Wd G B st ⟨s.io, upd s.F p ho, s.H⟩ := by
  have hF := (w.hid p (.inr rfl)).1
  have nt : NoTbl ho := by
    obtain ⟨_, o, e, n⟩ := w.hid p (.inr rfl)
    rw [h] at e; cases e; exact n.tbl
  refine ⟨fun b o e => ?_, fun a b => ?_, fun a o e => ?_, w.dom, w.inj, fun k o e t => ?_, w.untM (IoLe.refl _) (same_upd hF), w.tabM (same_upd hF) fun _ _ e => e⟩
  · have e : upd s.F p ho b = some o := e
    by_cases hb : b = p
    · subst hb; rw [upd_same] at e; cases e; exact h
    · rw [upd_ne hb] at e; exact w.sub b o e
  · obtain ⟨h1, h2⟩ := w.hid a (.inl b)
    exact ⟨by show upd s.F p ho a = none; rw [upd_ne (show a ≠ p from fun z => by subst z; exact nb b)]; exact h1, h2⟩
  · have e : upd s.F p ho a = some o := e
    by_cases hb : a = p
    · subst hb; rw [upd_same] at e; cases e; exact nt
    · rw [upd_ne hb] at e; exact w.ftb a o e
  · obtain ⟨a, e1, b1, f1, o1⟩ := w.obj k o e t
    have na : a ≠ p := fun z => b1 (.inr z)
    exact ⟨a, e1, fun z => b1 (.inl z), by show upd s.F p ho a = none; rw [upd_ne na]; exact f1, ObjR.mono (s := s) (s' := ⟨s.io, upd s.F p ho, s.H⟩) (IoLe.refl _) (same_upd hF) rfl o1⟩
/-- a new list is laid -/
theorem own_wd {p : Addr} {ho : HO} {st : Store} (w : Wd G B st s) (hp : s.H p = none) (nt : OwnH ho := by exact ⟨fun _ q => (by cases q), fun _ _ q => (by first | exact dkO_code q | exact cellO_code q | (unfold LamX.CodeO at q; cases q))⟩) : Wd G (plus B p) st ⟨s.io, s.F, upd s.H p ho⟩ ∧ Le B s ⟨s.io, s.F, upd s.H p ho⟩ := by
  have nB : ∀ a, B a → a ≠ p := fun a b e => w.freshB hp (e ▸ b)
  have hF := w.freshF hp
  refine ⟨⟨fun b o e => ?_, fun a b => ?_, w.ftb, w.dom, w.inj, fun k o e t => ?_, w.untM (IoLe.refl _) (Same.refl _), w.tabM (Same.refl _) (upd_tbl (ntbl_none hp))⟩, IoLe.refl _, Same.refl _, fun a b => upd_ne (nB a b)⟩
  · show upd s.H p _ b = some o
    rw [upd_ne (fun z => by subst z; have e : s.F b = some o := e; rw [hF] at e; cases e)]; exact w.sub b o e
  · rcases b with b | b
    · obtain ⟨h1, o, h2, h3⟩ := w.hid a b
      exact ⟨h1, o, by show upd s.H p _ a = some o; rw [upd_ne (nB a b)]; exact h2, h3⟩
    · subst b
      exact ⟨hF, _, upd_same, nt⟩
  · obtain ⟨a, e1, b1, f1, o1⟩ := w.obj k o e t
    have na : a ≠ p := fun z => w.freshI hp e t (z ▸ e1)
    exact ⟨a, e1, fun z => z.elim b1 na, f1, ObjR.mono (s := s) (s' := ⟨s.io, s.F, upd s.H p ho⟩) (IoLe.refl _) (Same.refl _) (upd_ne na) o1⟩
theorem PostF.fresh {p : Addr} {xs : List D} {vs : List V} {st : Store} (h : PostF G B E s Q (.ok xs st)) (w : Wd G B st s) (r : RepL G.R s.F s.io xs vs) (hp : s.H p = none) : Q (.ref p) (upd s.H p (.lst vs)) :=
  let ⟨w2, l2⟩ := own_wd (ho := .lst vs) w hp
  h ⟨s.io, s.F, upd s.H p (.lst vs)⟩ p vs l2 w2 (w.freshB hp) upd_same r
end

/-! ### statements -/
inductive SRes where
  | nx (u : Sl3) (st : Store) | rt (w : W) (st : Store) | bk (u : Sl3) (st : Store) | ct (u : Sl3) (st : Store)
  | err (c : String) (x : D) (u : Sl3) (st : Store) | bad
abbrev SM := Sl3 → Store → SRes

def PostS (G : G3) (hx : Hex) (wx : WX) (B0 : Addr → Prop) (s : S3) (D : Ends) : SRes → Prop
  | .nx u' st' => ∀ (B' : Addr → Prop) (s' : S3) (z' : L2.St), (∀ a, B0 a → B' a) → Le B0 s s' → Wd G B' st' s' → Slo G hx B0 B' s' u' z' → D.nx z' s'.H
  | .bk u' st' => ∀ (B' : Addr → Prop) (s' : S3) (z' : L2.St), (∀ a, B0 a → B' a) → Le B0 s s' → Wd G B' st' s' → Slo G hx B0 B' s' u' z' → D.bk z' s'.H
  | .ct u' st' => ∀ (B' : Addr → Prop) (s' : S3) (z' : L2.St), (∀ a, B0 a → B' a) → Le B0 s s' → Wd G B' st' s' → Slo G hx B0 B' s' u' z' → D.ct z' s'.H
  | .rt w st' => ∀ (B' : Addr → Prop) (s' : S3) (v : V), (∀ a, B0 a → B' a) → Le B0 s s' → Wd G B' st' s' → RepR G B0 B' s' w v → D.rt v s'.H
  | .err c x u' st' => ∀ (B' : Addr → Prop) (s' : S3) (z' : L2.St) (cv : Value) (dd : Option Addr), (∀ a, B0 a → B' a) → Le B0 s s' → Wd G B' st' s' → Slo G hx B0 B' s' u' z' → ExR G s' c x cv dd → wx cv dd z' s'.H
  | .bad => False
where
  /-- what is handed back: data, or a list of one's own (let go) -/
  RepR (G : G3) (B0 B : Addr → Prop) (s : S3) : W → V → Prop
    | .val d, v => Rep G.R s.F s.io d v
    | .bor xs, v => ∃ p vs, v = .ref p ∧ B p ∧ ¬ B0 p ∧ s.H p = some (.lst vs) ∧ RepL G.R s.F s.io xs vs
    | .bod ks us, v => ∃ (p : Addr) (kvs : List (Key × V)), v = .ref p ∧ B p ∧ ¬ B0 p ∧ s.H p = some (.dK kvs) ∧ kvs.map (·.1) = ks ∧ RepL G.R s.F s.io us (kvs.map (·.2))
    | .bdd ks us, v => ∃ (p : Addr) (xs : DkX), v = .ref p ∧ B p ∧ ¬ B0 p ∧ s.H p = some (DkO G.w p xs) ∧ DkR G.R s.F s.io ks us xs
    | .exn _ _, _ => False
    | .len _, _ => False
def tS (G : G3) (hx : Hex) (wx : WX) (m : SM) : TS := fun D z H => ∃ (B0 B : Addr → Prop) (s : S3) (o : Store) (u : Sl3), s.H = H ∧ (∀ a, B0 a → B a) ∧ Wd G B o s ∧ Slo G hx B0 B s u z ∧ PostS G hx wx B0 s D (m u o)
structure MS (P : P3) (st : Stmt) (m : SM) : Prop where
  ps : PS P.X st (tS P.G P.hx P.wx m)
structure MSs (P : P3) (st : List Stmt) (m : SM) : Prop where
  pss : PSs P.X st (tS P.G P.hx P.wx m)
theorem MS.mk' {P : P3} {st : Stmt} {m : SM} {t : TS} (h : PS P.X st t) (k : ∀ (B0 B : Addr → Prop) (s : S3) (o : Store) (u : Sl3) (z : L2.St) (D : Ends), (∀ a, B0 a → B a) → Wd P.G B o s → Slo P.G P.hx B0 B s u z → PostS P.G P.hx P.wx B0 s D (m u o) → t D z s.H) : MS P st m :=
  ⟨⟨fun pins s0 z H D I ⟨B0, B, s, o, u, e, b, wd, sl, p⟩ => by subst e; exact h.run pins s0 z _ D I (k B0 B s o u z D b wd sl p)⟩⟩
theorem MSs.mk' {P : P3} {st : List Stmt} {m : SM} {t : TS} (h : PSs P.X st t) (k : ∀ (B0 B : Addr → Prop) (s : S3) (o : Store) (u : Sl3) (z : L2.St) (D : Ends), (∀ a, B0 a → B a) → Wd P.G B o s → Slo P.G P.hx B0 B s u z → PostS P.G P.hx P.wx B0 s D (m u o) → t D z s.H) : MSs P st m :=
  ⟨⟨fun pins s0 z H D I ⟨B0, B, s, o, u, e, b, wd, sl, p⟩ => by subst e; exact h.run pins s0 z _ D I (k B0 B s o u z D b wd sl p)⟩⟩
theorem MS.out {P : P3} {st : Stmt} {m : SM} (h : MS P st m) : ∃ t, PS P.X st t ∧ ∀ (B0 B : Addr → Prop) (s : S3) (o : Store) (u : Sl3) (z : L2.St) (D : Ends), (∀ a, B0 a → B a) → Wd P.G B o s → Slo P.G P.hx B0 B s u z → PostS P.G P.hx P.wx B0 s D (m u o) → t D z s.H :=
  ⟨_, h.ps, fun B0 B s o u z D b wd sl p => ⟨B0, B, s, o, u, rfl, b, wd, sl, p⟩⟩
theorem MSs.out {P : P3} {st : List Stmt} {m : SM} (h : MSs P st m) : ∃ t, PSs P.X st t ∧ ∀ (B0 B : Addr → Prop) (s : S3) (o : Store) (u : Sl3) (z : L2.St) (D : Ends), (∀ a, B0 a → B a) → Wd P.G B o s → Slo P.G P.hx B0 B s u z → PostS P.G P.hx P.wx B0 s D (m u o) → t D z s.H :=
  ⟨_, h.pss, fun B0 B s o u z D b wd sl p => ⟨B0, B, s, o, u, rfl, b, wd, sl, p⟩⟩
theorem PostS.mono {G : G3} {hx : Hex} {wx : WX} {B0 : Addr → Prop} {s s1 : S3} {D : Ends} {r : SRes} (l : Le B0 s s1) (h : PostS G hx wx B0 s D r) : PostS G hx wx B0 s1 D r := by
  cases r with
  | nx u' st' => exact fun B' s' z' b l' w r => h B' s' z' b (l.trans l') w r
  | bk u' st' => exact fun B' s' z' b l' w r => h B' s' z' b (l.trans l') w r
  | ct u' st' => exact fun B' s' z' b l' w r => h B' s' z' b (l.trans l') w r
  | rt w st' => exact fun B' s' v b l' w r => h B' s' v b (l.trans l') w r
  | err c x u' st' => exact fun B' s' z' cv dd b l' w r => h B' s' z' cv dd b (l.trans l') w r
  | bad => exact h
end M3


namespace M3
open PySem PySem.Spec PyProof.Rows L2

/-! ### parts of data -/
def W.d : W → Option D
  | .val d => some d
  | _ => none
/-- as it is read -/
def W.rd : W → Option D
  | .val d => some d
  | .bor xs => some (.lst xs)
  | .len xs => some (.ro xs)
  | _ => none
def asDs : List W → Option (List D)
  | [] => some []
  | .val d :: ws => (asDs ws).map (d :: ·)
  | _ :: _ => none
section
variable {G : G3} {X : Hex} {B : Addr → Prop} {s : S3}
theorem rd_ok {w : M3.W} {v : V} {d : D} {st : Store} (wd : Wd G B st s) (r : RepW G X B s w v) (e : w.rd = some d) : Rep G.R s.H s.io d v := by
  cases w with
  | val d' => cases e; exact Rep.mono wd.sub (IoLe.refl _) r
  | bor xs => cases e; obtain ⟨p, vs, rfl, b, h, r⟩ := r; exact .lst h (r.mono wd.sub (IoLe.refl _))
  | bod ks us => cases e
  | bdd ks us => cases e
  | exn c x => cases e
  | len xs => cases e; obtain ⟨p, vs, o, rfl, b, h, r⟩ := r; exact .ro (.inl (.inr ⟨o, h⟩)) (r.mono wd.sub (IoLe.refl _))
theorem asDs_ok : ∀ {ws : List W} {vs : List V} {ds : List D}, RepWs G X B s ws vs → asDs ws = some ds → RepL G.R s.F s.io ds vs
  | _, _, _, .nil, e => by cases e; exact .nil
  | w :: ws, _, ds, .cons r t, e => by
    cases w with
    | val d =>
      unfold asDs at e
      cases h : asDs ws with
      | none => rw [h] at e; cases e
      | some ds' => rw [h] at e; cases e; exact .cons r (asDs_ok t h)
    | _ => cases e
end

section
variable {α β γ δ : Type} {G : G3} {B : Addr → Prop} {R : S3 → α → β → Prop} {R' : S3 → γ → δ → Prop} {E : XK} {s : S3} {Q : δ → Hp → Prop}
theorem Post.of_chk {c : Prop} [Decidable c] {f : M γ} {st : Store} (h : Post G B R' E s Q (M.bind (M.chk c) (fun _ => f) st)) : c ∧ Post G B R' E s Q (f st) := by
  by_cases hc : c
  · refine ⟨hc, ?_⟩
    have e : M.bind (M.chk c) (fun _ => f) st = f st := by unfold M.bind M.chk; rw [if_pos hc]
    rw [e] at h; exact h
  · have e : M.bind (M.chk c) (fun _ => f) st = .bad := by unfold M.bind M.chk; rw [if_neg hc]
    rw [e] at h; exact h.elim
theorem Post.of_of {a : Option α} {f : α → M γ} {st : Store} (h : Post G B R' E s Q (M.bind (M.of a) f st)) : ∃ x, a = some x ∧ Post G B R' E s Q (f x st) := by
  cases a with
  | none => exact h.elim
  | some x => exact ⟨x, rfl, h⟩
end

section
variable {G : G3} {B : Addr → Prop} {E : XK} {s : S3} {Q : VK}
theorem PostF.of_of {α : Type} {a : Option α} {f : α → M (List D)} {st : Store} (h : PostF G B E s Q (M.bind (M.of a) f st)) : ∃ x, a = some x ∧ PostF G B E s Q (f x st) := by
  cases a with
  | none => exact h.elim
  | some x => exact ⟨x, rfl, h⟩
end

/-! ### names, constants -/
def eVar (i : Nat) : EM := fun u st => match u[i]? with
  | some (some w) => .ok w st
  | _ => .bad
def eC (d : D) : EM := fun _ => M.pure (.val d)
section
variable {P : P3} {pos p pos' : Pos}
theorem me_var (i : Nat) {x : Str} (hN : P.X.N[i]? = some x := by rfl) (hv : Vis P.X.env.scope x := by first | exact Or.inl rfl | exact Or.inr (Or.inl rfl) | exact Or.inr (Or.inr rfl)) (hd : (x == ("__debug__" : Str)) = false := by decide)
    (hcd : (x == ("__classdict__" : Str)) = false := by decide) : ME P (.Name x pos) (eVar i) := by
  refine ME.mk' (pe_var hN hv hd hcd) fun B0 B s st u z Q wd sl h => ?_
  unfold eVar at h
  cases e : u[i]? with
  | none => rw [e] at h; exact h.elim
  | some o =>
    cases o with
    | none => rw [e] at h; exact h.elim
    | some w =>
      rw [e] at h
      obtain ⟨v, e1, r⟩ := sl.get e
      exact ⟨v, e1, h.pure wd r⟩
theorem me_c {e : Expr} {d : D} {v : V} (h : PE P.X e (tC v)) (r : ∀ F io, Rep P.G.R F io d v) : ME P e (eC d) :=
  ME.mk' h fun B0 B s st u z Q wd sl h => h.pure wd (show Rep P.G.R s.F s.io d v from r _ _)
theorem me_int {i j} : ME P (.Constant (.int i) j pos) (eC (.int i)) := me_c pe_int fun _ _ => .int
theorem me_bl {b j} : ME P (.Constant (.bool b) j pos) (eC (.bl b)) := me_c pe_bl fun _ _ => .bl
theorem me_non {j} : ME P (.Constant .none j pos) (eC .non) := me_c pe_non fun _ _ => .non
theorem me_str {x j} : ME P (.Constant (.str x) j pos) (eC (.str x)) := me_c pe_str fun _ _ => .str
/-- a constant of the module -/
theorem me_glob {x : Str} {d : D} {v : V} {u : Value} (hg : Gl P.X x) (hm : P.X.mg x = some u) (rv : RelV v u) (r : ∀ F io, Rep P.G.R F io d v) (hd : (x == ("__debug__" : Str)) = false := by decide) : ME P (.Name x pos) (eC d) :=
  me_c (pe_glob hg hm rv hd) r
/-- a built-in type as a value -/
theorem me_ty {x : Str} {T : String} (hg : Gl P.X x) (hm : P.X.mg x = none) (hv : bootBuiltins x = some (.type T)) (hn : x ≠ "__name__" := by decide) (hd : (x == ("__debug__" : Str)) = false := by decide) : ME P (.Name x pos) (eC (.ty T)) :=
  me_c (pe_bltn (v := .ty T) hg hm hv rfl hn hd) fun _ _ => .ty

/-! ### arguments, displays -/
def aNil : AM := fun _ => M.pure []
def aCons (m : EM) (ms : AM) : AM := fun u => M.bind (m u) fun w => M.bind (ms u) fun ws => M.pure (w :: ws)
theorem ma_nil : MA P [] aNil := MA.mk' pa_nil fun B0 B s st u z Q wd sl h => h.pure wd .nil
theorem ma_cons {e : Expr} {es : List Expr} {m : EM} {ms : AM} (he : ME P e m) (hs : MA P es ms) (hst : starEach (e :: es) P.X.env = (false, eval e P.X.env) :: starEach es P.X.env := by rfl) : MA P (e :: es) (aCons m ms) := by
  obtain ⟨t, pt, ht⟩ := he.out
  obtain ⟨r, pr, hr⟩ := hs.out
  refine MA.mk' (pa_cons pt pr hst) fun B0 B s st u z Q wd sl h => ht B0 B s st u z _ wd sl (Post.bind h fun w st1 s1 v l1 wd1 r1 h1 => ?_)
  refine hr B0 B s1 st1 u z _ wd1 (sl.mono l1) (Post.bind h1 fun ws st2 s2 vs l2 wd2 r2 h2 => ?_)
  exact h2.pure wd2 (.cons (r1.mono l2) r2)
def eTup (m : AM) : EM := fun u => M.bind (m u) fun ws => M.bind (M.of (asDs ws)) fun ds => M.bind (M.chk (ds.length ≤ 1000000)) fun _ => M.pure (.val (.tup ds))
theorem me_tup {es : List Expr} {m : AM} {x1} (hs : MA P es m) : ME P (.Tuple es x1 pos) (eTup m) := by
  obtain ⟨t, pt, ht⟩ := hs.out
  refine ME.mk' (pe_tupZ pt) fun B0 B s st u z Q wd sl h => ht B0 B s st u z _ wd sl (Post.bind h fun ws st1 s1 vs l1 wd1 r1 h1 => ?_)
  obtain ⟨ds, e, h1⟩ := Post.of_of h1
  have rl := asDs_ok r1 e
  obtain ⟨hz, h1⟩ := Post.of_chk h1
  exact ⟨by rw [← rl.length]; exact szL hz, wd1.newT rl fun s' v l w r => h1 s' v l w r⟩
/-- a new list -/
def fLst (m : AM) : FM := fun u => M.bind (m u) fun ws => M.bind (M.of (asDs ws)) fun ds => M.bind (M.chk (ds.length ≤ 1000000)) fun _ => M.pure ds
theorem mf_lst {es : List Expr} {m : AM} (hs : MA P es m) : MF P (.List es pos) (fLst m) := by
  obtain ⟨t, pt, ht⟩ := hs.out
  refine MF.mk' (pe_lst pt) fun B0 B s st u z Q wd sl h => ht B0 B s st u z _ wd sl (PostF.bind h fun ws st1 s1 vs l1 wd1 r1 h1 => ?_)
  obtain ⟨ds, e, h1⟩ := PostF.of_of h1
  have rl := asDs_ok r1 e
  obtain ⟨hz, h1⟩ := PostF.of_chk h1
  exact ⟨by rw [← rl.length]; exact szL hz, fun p hp => PostF.fresh h1 wd1 rl hp⟩
/-- .. as a value -/
def eF (m : FM) : EM := fun u => M.bind (m u) fun xs => M.pure (.val (.lst xs))
theorem me_f {e : Expr} {m : FM} (h : MF P e m) : ME P e (eF m) := by
  obtain ⟨t, pt, ht⟩ := h.out
  refine ME.mk' pt fun B0 B s st u z Q wd sl h => ht B0 B s st u z _ wd sl ?_
  unfold eF M.bind at h
  cases e : m u st with
  | ok xs st' =>
    rw [e] at h
    exact fun s' p vs l w nb hp r => h ⟨s'.io, upd s'.F p (.lst vs), s'.H⟩ (.ref p) (l.trans (freeze_le w)) (freeze_wd w nb hp) (.lst upd_same (r.mono (freeze_le w).fr (freeze_le w).io))
  | err c x st' => rw [e] at h; exact h
  | bad => rw [e] at h; exact h
end
end M3


namespace M3
open PySem PySem.Spec PyProof.Rows L2

/-! ### operators by values -/
def OpM (P : P3) (f : Value → Value → Sem Value) (g : W → W → Option W) : Prop := ∃ r, OpR P.X f r ∧ ∀ (B : Addr → Prop) (s : S3) (st : Store) (w1 w2 w : W) (v1 v2 : V) (Q : VK), Wd P.G B st s → RepW P.G P.hx B s w1 v1 → RepW P.G P.hx B s w2 v2 →
  g w1 w2 = some w → (∀ (s' : S3) (v : V), Le B s s' → Wd P.G B st s' → RepW P.G P.hx B s' w v → Q v s'.H) → r v1 v2 s.H Q
def eBin (g : W → W → Option W) (a b : EM) : EM := fun u => M.bind (a u) fun x => M.bind (b u) fun y => M.of (g x y)
section
variable {P : P3} {pos : Pos} {a b c : Expr} {ma mb mc : EM} {g g' : W → W → Option W}
theorem op_use {R : R2} (h : OpM P f g) {B0 B : Addr → Prop} {s : S3} {st : Store} {u : Sl3} {z : L2.St} {Q : VK} {ta tb : TE}
    (ha : ∀ (B0 B : Addr → Prop) (s : S3) (st : Store) (u : Sl3) (z : L2.St) (Q : VK), Wd P.G B st s → Slo P.G P.hx B0 B s u z → Post P.G B (RepW P.G P.hx B) (fun c d H => P.wx c d z H) s Q (ma u st) → ta z s.H Q)
    (hb : ∀ (B0 B : Addr → Prop) (s : S3) (st : Store) (u : Sl3) (z : L2.St) (Q : VK), Wd P.G B st s → Slo P.G P.hx B0 B s u z → Post P.G B (RepW P.G P.hx B) (fun c d H => P.wx c d z H) s Q (mb u st) → tb z s.H Q)
    (hr : ∀ (B : Addr → Prop) (s : S3) (st : Store) (w1 w2 w : W) (v1 v2 : V) (Q : VK), Wd P.G B st s → RepW P.G P.hx B s w1 v1 → RepW P.G P.hx B s w2 v2 →
      g w1 w2 = some w → (∀ (s' : S3) (v : V), Le B s s' → Wd P.G B st s' → RepW P.G P.hx B s' w v → Q v s'.H) → R v1 v2 s.H Q)
    (wd : Wd P.G B st s) (sl : Slo P.G P.hx B0 B s u z) (hp : Post P.G B (RepW P.G P.hx B) (fun c d H => P.wx c d z H) s Q (eBin g ma mb u st)) : tOp R ta tb z s.H Q := by
  refine ha B0 B s st u z _ wd sl (Post.bind hp fun w1 st1 s1 v1 l1 wd1 r1 h1 => ?_)
  refine hb B0 B s1 st1 u z _ wd1 (sl.mono l1) (Post.bind h1 fun w2 st2 s2 v2 l2 wd2 r2 h2 => ?_)
  cases e : g w1 w2 with
  | none => rw [e] at h2; exact h2.elim
  | some w => rw [e] at h2; exact hr B s2 st2 w1 w2 w v1 v2 Q wd2 (r1.mono l2) r2 e fun s' v l w' r => h2 s' v l w' r
theorem me_bin {op : Operator} (h : OpM P (binaryOp op) g) (ha : ME P a ma) (hb : ME P b mb) : ME P (.BinOp a op b pos) (eBin g ma mb) := by
  obtain ⟨ta, pa, ha⟩ := ha.out
  obtain ⟨tb, pb, hb⟩ := hb.out
  obtain ⟨r, hr, hq⟩ := id h
  exact ME.mk' (pe_op hr pa pb) fun B0 B s st u z Q wd sl hp => op_use h ha hb hq wd sl hp
theorem me_cmp {op : CmpOp} (h : OpM P (compareOp op) g) (ha : ME P a ma) (hb : ME P b mb) (hm : behindInMarks op b = false) : ME P (.Compare a [op] [b] pos) (eBin g ma mb) := by
  obtain ⟨ta, pa, ha⟩ := ha.out
  obtain ⟨tb, pb, hb⟩ := hb.out
  obtain ⟨r, hr, hq⟩ := id h
  exact ME.mk' (pe_cmpR hr pa pb hm) fun B0 B s st u z Q wd sl hp => op_use h ha hb hq wd sl hp
/-- the value as a bool -/
def W.bool : W → Option Bool
  | .val (.bl b) => some b
  | _ => none
theorem bool_inv {w : M3.W} {k : Bool} (e : w.bool = some k) : w = .val (.bl k) := by
  unfold W.bool at e
  split at e
  · cases e; rfl
  · cases e
def tOf (m : EM) : TM := fun u => M.bind (m u) fun w => M.of w.bool
theorem mt_cmp {op : CmpOp} (h : OpM P (compareOp op) g) (ha : ME P a ma) (hb : ME P b mb) (hm : behindInMarks op b = false) : MT P (.Compare a [op] [b] pos) (tOf (eBin g ma mb)) := by
  obtain ⟨ta, pa, ha⟩ := ha.out
  obtain ⟨tb, pb, hb⟩ := hb.out
  obtain ⟨r, hr, hq⟩ := id h
  refine MT.mk' (pt_cmpR hr pa pb hm) fun B0 B s st u z Q wd sl hp => ?_
  refine op_use h ha hb hq wd sl (Post.bind hp fun w st1 s1 v l1 wd1 r1 h1 => ?_)
  obtain ⟨k, e, h1⟩ : ∃ k, w.bool = some k ∧ Post P.G B (fun _ a b => a = b) (fun c d H => P.wx c d z H) s1 Q (.ok k st1) := by
    cases e : w.bool with
    | none => rw [e] at h1; exact h1.elim
    | some k => rw [e] at h1; exact ⟨k, rfl, h1⟩
  obtain rfl := bool_inv e
  cases r1
  exact ⟨k, rfl, h1.pure wd1 rfl⟩
end

/-! the operators -/
def W.ls : W → Option (List D)
  | .val (.lst xs) => some xs
  | .bor xs => some xs
  | _ => none
def addF : W → W → Option W
  | .val (.int i), .val (.int j) => some (.val (.int (i + j)))
  | .val (.str a), .val (.str b) => if a.length + b.length ≤ 1000000 then some (.val (.str (a ++ b))) else none
  | .val (.tup xs), .val (.tup ys) => if xs.length + ys.length ≤ 1000000 then some (.val (.tup (xs ++ ys))) else none
  | x, y => match x.ls, y.ls with
    | some xs, some ys => if xs.length + ys.length ≤ 1000000 then some (.val (.lst (xs ++ ys))) else none
    | _, _ => none
theorem ls_ok {G : G3} {X : Hex} {B : Addr → Prop} {s : S3} {st : Store} {w : W} {v : V} {xs : List D} (wd : Wd G B st s) (r : RepW G X B s w v) (e : w.ls = some xs) : ∃ p vs, v = .ref p ∧ s.H p = some (.lst vs) ∧ RepL G.R s.F s.io xs vs := by
  cases w with
  | val d =>
    cases d with
    | lst ys => cases e; cases r with | lst h r => exact ⟨_, _, rfl, wd.sub _ _ h, r⟩
    | _ => cases e
  | bor ys => cases e; obtain ⟨p, vs, rfl, b, h, r⟩ := r; exact ⟨p, vs, rfl, h, r⟩
  | _ => cases e
section
variable {P : P3}
theorem om_add : OpM P (binaryOp .Add) addF := by
  refine ⟨_, op_add.or (op_add_str.or (op_catZ.or op_cat)), fun B s st w1 w2 w v1 v2 Q wd r1 r2 e k => ?_⟩
  unfold addF at e
  split at e
  · cases e; cases r1; cases r2; exact .inl ⟨_, _, rfl, rfl, k s _ (Le.refl _) wd .int⟩
  · split at e
    · rename_i hz
      cases e; cases r1; cases r2
      exact .inr (.inl ⟨_, _, rfl, rfl, szL hz, k s _ (Le.refl _) wd .str⟩)
    · cases e
  · split at e
    · rename_i xs ys hz
      cases e
      cases r1 with
      | tup s1 q1 =>
        cases r2 with
        | tup s2 q2 =>
          have hs := wd.sub
          refine .inr (.inr (.inl ⟨_, _, _, _, rfl, rfl, (s1.mono hs).sq, (s2.mono hs).sq, by rw [← q1.length, ← q2.length]; exact szL hz, fun z => ?_, fun z1 z2 => ?_, fun z1 z2 => ?_⟩))
          · subst z
            cases q1
            exact k s _ (Le.refl _) wd (.tup s2 q2)
          · subst z2
            cases q2
            rw [List.append_nil] at k
            exact k s _ (Le.refl _) wd (.tup s1 q1)
          · exact wd.newT (q1.append q2) fun s' v l w r => k s' v l w r
    · cases e
  · split at e
    · rename_i e1 e2
      obtain ⟨p, vs, rfl, hp, rp⟩ := ls_ok wd r1 e1
      obtain ⟨q, us, rfl, hq, rq⟩ := ls_ok wd r2 e2
      split at e
      · rename_i hz
        cases e
        refine Or.inr (Or.inr (Or.inr ⟨p, q, vs, us, rfl, rfl, hp, hq, by rw [← rp.length, ← rq.length]; exact szL hz, fun l hl => ?_⟩))
        obtain ⟨wd2, l2⟩ := wd.froz hl (.lst (vs ++ us))
        exact k _ _ l2 wd2 (.lst upd_same ((rp.append rq).mono l2.fr l2.io))
      · cases e
    · cases e

/-! whole numbers -/
def intF (C : Int → Int → Bool) (f : Int → Int → D) : W → W → Option W
  | .val (.int i), .val (.int j) => if C i j = true then some (.val (f i j)) else none
  | _, _ => none
theorem om_int {f : Value → Value → Sem Value} {C : Int → Int → Prop} {Cb : Int → Int → Bool} {g : Int → Int → V} {gd : Int → Int → D} (h : OpR P.X f (rI C g)) (hC : ∀ i j, Cb i j = true → C i j) (hg : ∀ i j K F io, Rep K F io (gd i j) (g i j)) : OpM P f (intF Cb gd) := by
  refine ⟨_, h, fun B s st w1 w2 w v1 v2 Q wd r1 r2 e k => ?_⟩
  unfold intF at e
  split at e
  · split at e
    · rename_i hc
      cases e; cases r1; cases r2
      exact ⟨_, _, rfl, rfl, hC _ _ hc, k s _ (Le.refl _) wd (hg _ _ _ _ _)⟩
    · cases e
  · cases e
theorem om_int0 {f : Value → Value → Sem Value} {g : Int → Int → V} {gd : Int → Int → D} (h : OpR P.X f (rI0 g)) (hg : ∀ i j K F io, Rep K F io (gd i j) (g i j)) : OpM P f (intF (fun _ _ => true) gd) := by
  refine ⟨_, h, fun B s st w1 w2 w v1 v2 Q wd r1 r2 e k => ?_⟩
  unfold intF at e
  split at e
  · rw [if_pos rfl] at e
    cases e; cases r1; cases r2
    exact ⟨_, _, rfl, rfl, k s _ (Le.refl _) wd (hg _ _ _ _ _)⟩
  · cases e
def subF : W → W → Option W := intF (fun _ _ => true) fun i j => .int (i - j)
def modF : W → W → Option W := intF (fun _ j => decide (0 < j)) fun i j => .int (i % j)
def divF : W → W → Option W := intF (fun _ j => decide (0 < j ∧ j < 1073741824)) fun i j => .int (i / j)
def powF : W → W → Option W := intF (fun i j => decide (0 ≤ j ∧ j ≤ 1000 ∧ i.natAbs < 1000000)) fun i j => .int (i ^ j.toNat)
def ltF : W → W → Option W := intF (fun _ _ => true) fun i j => .bl (decide (i < j))
def leF : W → W → Option W := intF (fun _ _ => true) fun i j => .bl (decide (i ≤ j))
def gtF : W → W → Option W := intF (fun _ _ => true) fun i j => .bl (decide (j < i))
def geF : W → W → Option W := intF (fun _ _ => true) fun i j => .bl (decide (j ≤ i))
theorem om_sub : OpM P (binaryOp .Sub) subF := om_int0 op_sub fun _ _ _ _ _ => .int
theorem om_mod : OpM P (binaryOp .Mod) modF := om_int op_mod (fun i j h => of_decide_eq_true h) fun _ _ _ _ _ => .int
theorem om_div : OpM P (binaryOp .FloorDiv) divF := om_int op_fdiv (fun i j h => of_decide_eq_true (p := 0 < j ∧ j < 1073741824) h) fun _ _ _ _ _ => .int
theorem om_pow : OpM P (binaryOp .Pow) powF := om_int op_pow (fun i j h => by have := of_decide_eq_true (p := 0 ≤ j ∧ j ≤ 1000 ∧ i.natAbs < 1000000) h; exact ⟨this.1, by omega, by omega⟩) fun _ _ _ _ _ => .int
theorem om_lt : OpM P (compareOp .Lt) ltF := om_int0 op_lt fun _ _ _ _ _ => .bl
theorem om_le : OpM P (compareOp .LtE) leF := om_int0 op_le fun _ _ _ _ _ => .bl
theorem om_gt : OpM P (compareOp .Gt) gtF := om_int0 op_gt fun _ _ _ _ _ => .bl
theorem om_ge : OpM P (compareOp .GtE) geF := om_int0 op_ge fun _ _ _ _ _ => .bl

/-- * of great numbers; a text times a number -/
def mulC (i j : Int) : Bool := decide (i.natAbs.log2 + j.natAbs.log2 < 100000000)
def MulS (x : Str) (n : Int) : Bool := decide (0 ≤ n ∧ n ≤ 1000 ∧ x.length ≤ 1000)
def mulF : W → W → Option W
  | .val (.int i), .val (.int j) => if mulC i j = true then some (.val (.int (i * j))) else none
  | .val (.str x), .val (.int j) => if MulS x j = true then some (.val (.str (Txt.mul x j))) else none
  | _, _ => none
/-- as the model counts bits -/
theorem bits_log (x : Int) : Builtin.Int.intBits x ≤ x.natAbs.log2 + 1 := by simp only [Builtin.Int.intBits]; split <;> omega
theorem line_bits : bitsLine = 2 ^ 27 := by decide
theorem mulC_ok {i j : Int} (h : mulC i j = true) : IntMulOk i j := fun big => by
  have few : i.natAbs.log2 + j.natAbs.log2 < 100000000 := of_decide_eq_true h
  have far := of_decide_eq_true (show decide _ = true from ((Bool.and_eq_true _ _).mp big).2)
  have li := bits_log i
  have lj := bits_log j
  simp only [line_bits] at far
  omega
theorem MulS_ok {x : Str} {n : Int} (h : MulS x n = true) : MulOk x n := by
  obtain ⟨h0, h1, h2⟩ := of_decide_eq_true h
  refine ⟨?_, fun hn _ => ?_, fun hn _ => ?_⟩
  · rw [Bool.or_eq_false_iff]
    exact ⟨decide_eq_false (by omega), decide_eq_false (by omega)⟩
  · intro z
    have : (1000 : Int) ≤ (2 ^ 63 - 1) / n := by
      rw [Int.le_ediv_iff_mul_le (by omega)]
      omega
    omega
  · have long : x.length * n.toNat ≤ 1000 * 1000 := Nat.mul_le_mul h2 (by omega)
    have line := szL (n := 1000 * 1000) (by decide)
    unfold Builtin.Str.tooLong
    exact decide_eq_false fun q => by omega
theorem om_mul : OpM P (binaryOp .Mult) mulF := by
  have hI : OpR P.X (binaryOp .Mult) (rI (fun i j => IntMulOk i j) fun i j => .int (i * j)) := opI fun _ _ _ _ _ _ _ hc q => mul_int q hc
  have hS : OpR P.X (binaryOp .Mult) (fun x y H Q => ∃ a n, x = .str a ∧ y = .int n ∧ MulOk a n ∧ Q (.str (Txt.mul a n)) H) := by
    intro pins s z H x y v u Q I rx ry h
    obtain ⟨a, n, rfl, rfl, hm, q⟩ := h
    obtain ⟨t, rfl⟩ := rx
    obtain ⟨t2, rfl⟩ := ry
    exact SB.mul hm fun t' k => ⟨.str (Txt.mul a n), H, I.tok _, ⟨_, rfl⟩, q⟩
  refine ⟨_, hI.or hS, fun B s st w1 w2 w v1 v2 Q wd r1 r2 e k => ?_⟩
  unfold mulF at e
  split at e
  · split at e
    · rename_i hc
      cases e; cases r1; cases r2
      exact .inl ⟨_, _, rfl, rfl, mulC_ok hc, k s _ (Le.refl _) wd .int⟩
    · cases e
  · split at e
    · rename_i hc
      cases e; cases r1; cases r2
      exact .inr ⟨_, _, rfl, rfl, MulS_ok hc, k s _ (Le.refl _) wd .str⟩
    · cases e
  · cases e

/-! == of data at any depth -/
mutual
def D.py : D → Option PyData
  | .non => some .none
  | .bl b => some (.bool b)
  | .int i => some (.int i)
  | .str x => some (.str x)
  | .tup xs => (D.pys xs).map .tuple
  | .lst xs => (D.pys xs).map .list
  | .ro xs => (D.pys xs).map .list
  | .ctup xs => (D.pys xs).map .tuple
  | .ty _ => none
  | .ref _ => none
  | .dict _ _ => none
  | .dd _ _ => none
  | .fn _ _ => none
def D.pys : List D → Option (List PyData)
  | [] => some []
  | d :: ds => match D.py d, D.pys ds with
    | some x, some xs => some (x :: xs)
    | _, _ => none
end
section
variable {K : KW} {F : Hp} {io : Io}
mutual
theorem py_ok : ∀ {d : D} {v : V} {x : PyData}, Rep K F io d v → d.py = some x → Dp K.K F v x
  | _, _, _, .non, e => by rw [D.py] at e; cases e; exact .non
  | _, _, _, .bl, e => by rw [D.py] at e; cases e; exact .bl _
  | _, _, _, .int, e => by rw [D.py] at e; cases e; exact .int _
  | _, _, _, .str, e => by rw [D.py] at e; cases e; exact .str _
  | _, _, _, .ty, e => by rw [D.py] at e; cases e
  | _, _, _, .ref _, e => by rw [D.py] at e; cases e
  | _, _, _, .dict _ _ _, e => by rw [D.py] at e; cases e
  | _, _, _, .dd _ _ _ _ _, e => by rw [D.py] at e; cases e
  | _, _, _, .fn _ _ _ _ _, e => by rw [D.py] at e; cases e
  | .tup xs, _, x, .tup s r, e => by
    rw [D.py] at e
    cases h : D.pys xs with
    | none => rw [h] at e; cases e
    | some ys => rw [h] at e; cases e; exact .tup s.sq (pys_ok r h)
  | .ctup xs, _, x, .ctup s r, e => by
    rw [D.py] at e
    cases h : D.pys xs with
    | none => rw [h] at e; cases e
    | some ys => rw [h] at e; cases e; exact .tup s (pys_ok r h)
  | .lst xs, _, x, .lst s r, e => by
    rw [D.py] at e
    cases h : D.pys xs with
    | none => rw [h] at e; cases e
    | some ys => rw [h] at e; cases e; exact .lst (.inl (.inl s)) (pys_ok r h)
  | .ro xs, _, x, .ro s r, e => by
    rw [D.py] at e
    cases h : D.pys xs with
    | none => rw [h] at e; cases e
    | some ys => rw [h] at e; cases e; exact .lst s (pys_ok r h)
theorem pys_ok : ∀ {ds : List D} {vs : List V} {xs : List PyData}, RepL K F io ds vs → D.pys ds = some xs → DpAll K.K F vs xs
  | _, _, _, .nil, e => by rw [D.pys] at e; cases e; exact .nil
  | d :: ds, _, xs, .cons r t, e => by
    rw [D.pys] at e
    cases h : D.py d with
    | none => rw [h] at e; cases e
    | some x =>
      cases h2 : D.pys ds with
      | none => rw [h, h2] at e; cases e
      | some ys => rw [h, h2] at e; cases e; exact .cons (py_ok r h) (pys_ok t h2)
end
end
/-- what == says: none if it is not asked of such data here -/
def D.eqv? (a b : D) : Option Bool := match a.py, b.py with
  | some x, some y => if SeqAt.shaped x = true ∧ SeqAt.shaped y = true then some (PyData.eqv x y) else none
  | _, _ => none
def eqF (neg : Bool) (x y : W) : Option W := match x.rd, y.rd with
  | some a, some b => (a.eqv? b).map fun k => .val (.bl (if neg then !k else k))
  | _, _ => none
theorem eqv_of {a b : D} {k : Bool} (h : a.eqv? b = some k) : ∃ x y, a.py = some x ∧ b.py = some y ∧ SeqAt.shaped x = true ∧ SeqAt.shaped y = true ∧ k = PyData.eqv x y := by
  unfold D.eqv? at h
  split at h
  · rename_i x y e1 e2
    split at h
    · rename_i hs
      cases h
      exact ⟨x, y, e1, e2, hs.1, hs.2, rfl⟩
    · cases h
  · cases h
theorem eqF_ok {B : Addr → Prop} {s : S3} {st : Store} {w1 w2 w : W} {v1 v2 : V} {neg : Bool} (wd : Wd P.G B st s) (r1 : RepW P.G P.hx B s w1 v1) (r2 : RepW P.G P.hx B s w2 v2) (e : eqF neg w1 w2 = some w) :
    ∃ x y, Dp P.X.K s.H v1 x ∧ Dp P.X.K s.H v2 y ∧ SeqAt.shaped x = true ∧ SeqAt.shaped y = true ∧ w = .val (.bl (if neg then !PyData.eqv x y else PyData.eqv x y)) := by
  unfold eqF at e
  split at e
  · rename_i a b e1 e2
    cases h : a.eqv? b with
    | none => rw [h] at e; cases e
    | some k =>
      rw [h] at e
      cases e
      obtain ⟨x, y, p1, p2, q1, q2, rfl⟩ := eqv_of h
      rw [P.hK]
      exact ⟨x, y, py_ok (rd_ok wd r1 e1) p1, py_ok (rd_ok wd r2 e2) p2, q1, q2, rfl⟩
  · cases e
theorem om_eq (hu : P.X.A.units + 64 < cLine) : OpM P (compareOp .Eq) (eqF false) := by
  refine ⟨_, op_eqD hu, fun B s st w1 w2 w v1 v2 Q wd r1 r2 e k => ?_⟩
  obtain ⟨x, y, h1, h2, s1, s2, rfl⟩ := eqF_ok wd r1 r2 e
  exact ⟨x, y, h1, h2, s1, s2, k s _ (Le.refl _) wd .bl⟩
theorem om_ne (hu : P.X.A.units + 64 < cLine) : OpM P (compareOp .NotEq) (eqF true) := by
  refine ⟨_, op_neD hu, fun B s st w1 w2 w v1 v2 Q wd r1 r2 e k => ?_⟩
  obtain ⟨x, y, h1, h2, s1, s2, rfl⟩ := eqF_ok wd r1 r2 e
  exact ⟨x, y, h1, h2, s1, s2, k s _ (Le.refl _) wd .bl⟩
/-! is None -/
def isNF (neg : Bool) : W → W → Option W
  | .val d, .val .non => some (.val (.bl (match d with | .non => !neg | _ => neg)))
  | .bor _, .val .non => some (.val (.bl neg))
  | .exn _ _, .val .non => some (.val (.bl neg))
  | _, _ => none
theorem isNF_ok {B : Addr → Prop} {s : S3} {w1 w2 w : W} {v1 v2 : V} {neg : Bool} (r1 : RepW P.G P.hx B s w1 v1) (r2 : RepW P.G P.hx B s w2 v2) (e : isNF neg w1 w2 = some w) : v2 = .non ∧ w = .val (.bl (if neg then !decide (v1 = .non) else decide (v1 = .non))) := by
  unfold isNF at e
  split at e
  · cases e
    cases r2
    refine ⟨rfl, ?_⟩
    rename_i d
    cases r1 <;> cases neg <;> simp
  · cases e
    cases r2
    refine ⟨rfl, ?_⟩
    obtain ⟨p, vs, rfl, _⟩ := r1
    cases neg <;> simp
  · cases e
    cases r2
    refine ⟨rfl, ?_⟩
    obtain ⟨a, _, _, rfl, _⟩ := r1
    cases neg <;> simp
  · cases e
theorem om_is : OpM P (compareOp .Is) (isNF false) := by
  refine ⟨_, op_isN, fun B s st w1 w2 w v1 v2 Q wd r1 r2 e k => ?_⟩
  obtain ⟨h1, rfl⟩ := isNF_ok r1 r2 e
  exact ⟨h1, k s _ (Le.refl _) wd .bl⟩
theorem om_isnot : OpM P (compareOp .IsNot) (isNF true) := by
  refine ⟨_, op_notN, fun B s st w1 w2 w v1 v2 Q wd r1 r2 e k => ?_⟩
  obtain ⟨h1, rfl⟩ := isNF_ok r1 r2 e
  exact ⟨h1, k s _ (Le.refl _) wd .bl⟩
end
end M3


namespace M3
open PySem PySem.Spec PyProof.Rows L2

/-! ### truth -/
def D.tru : D → Option Bool
  | .non => some false
  | .bl b => some b
  | .int i => some (i != 0)
  | .str y => if y.length ≤ 1000000 then some (y.length != 0) else none
  | .tup xs => some (!xs.isEmpty)
  | .ctup xs => some (!xs.isEmpty)
  | .lst xs => some (!xs.isEmpty)
  | .ro xs => some (!xs.isEmpty)
  | _ => none
def W.tru (w : W) : Option Bool := w.rd.bind D.tru
theorem isEmpty_repL {K : KW} {F : Hp} {io : Io} {xs : List D} {vs : List V} (r : RepL K F io xs vs) : xs.isEmpty = vs.isEmpty := by cases r <;> rfl
theorem tru_rep {K : KW} {F : Hp} {io : Io} {d : D} {v : V} {k : Bool} (r : Rep K F io d v) (e : d.tru = some k) : TruV K.K v F k := by
  cases r with
  | non => cases e; rfl
  | bl => cases e; rfl
  | int => cases e; rfl
  | @str x =>
    have e : (if x.length ≤ 1000000 then some (x.length != 0) else none) = some k := e
    split at e
    · rename_i hl
      cases e
      refine ⟨szL hl, ?_⟩
      cases hx : x.length with
      | zero => rfl
      | succ n => rfl
    · cases e
  | ty => cases e
  | tup s q => cases e; exact .inr (.inl ⟨_, s.sq, by rw [isEmpty_repL q]⟩)
  | ctup s q => cases e; exact .inr (.inl ⟨_, s, by rw [isEmpty_repL q]⟩)
  | lst s q => cases e; exact .inl ⟨_, .inl (.inl s), by rw [isEmpty_repL q]⟩
  | ro s q => cases e; exact .inl ⟨_, s, by rw [isEmpty_repL q]⟩
  | _ => cases e
theorem tru_ok3 {P : P3} {B : Addr → Prop} {s : S3} {st : Store} {w : W} {v : V} {k : Bool} (wd : Wd P.G B st s) (r : RepW P.G P.hx B s w v) (e : w.tru = some k) : TruV P.X.K v s.H k := by
  unfold W.tru at e
  cases h : w.rd with
  | none => rw [h] at e; cases e
  | some d => rw [h] at e; rw [P.hK]; exact tru_rep (rd_ok wd r h) e
def tTru (m : EM) : TM := fun u => M.bind (m u) fun w => M.of w.tru
section
variable {P : P3} {pos : Pos} {a b c : Expr} {rest : List Expr} {ma mb mc : EM}
theorem of_eq {α : Type} {o : Option α} {st : Store} {G : G3} {B : Addr → Prop} {β : Type} {R : S3 → α → β → Prop} {E : XK} {s : S3} {Q : β → Hp → Prop} (h : Post G B R E s Q (M.of o st)) : ∃ x, o = some x ∧ Post G B R E s Q (.ok x st) := by
  cases o with
  | none => exact h.elim
  | some x => exact ⟨x, rfl, h⟩
theorem mt_tru (ha : ME P a ma) (he : ∀ whole, isTrue a P.X.env whole = (do let v ← whole; standAt a.pos; holding [v] (truthy v)) := by intro _; rfl) : MT P a (tTru ma) := by
  obtain ⟨ta, pa, ha⟩ := ha.out
  refine MT.mk' (pt_truth pa he) fun B0 B s st u z Q wd sl hp => ha B0 B s st u z _ wd sl (Post.bind hp fun w st1 s1 v l1 wd1 r1 h1 => ?_)
  obtain ⟨k, e, h1⟩ := of_eq h1
  exact ⟨k, tru_ok3 wd1 r1 e, h1.pure wd1 rfl⟩
/-! and, or, not as values -/
def eAnd (a b : EM) : EM := fun u => M.bind (a u) fun w => M.bind (M.of w.tru) fun k => if k = true then b u else M.pure w
def eOr (a b : EM) : EM := fun u => M.bind (a u) fun w => M.bind (M.of w.tru) fun k => if k = true then M.pure w else b u
def eNot (a : EM) : EM := fun u => M.bind (a u) fun w => M.bind (M.of w.tru) fun k => M.pure (.val (.bl (!k)))
theorem me_one {op} (ha : ME P a ma) : ME P (.BoolOp op [a] pos) ma := ⟨pe_one ha.pe⟩
theorem me_and (ha : ME P a ma) (hb : ME P (.BoolOp .And (b :: rest) pos) mb) : ME P (.BoolOp .And (a :: b :: rest) pos) (eAnd ma mb) := by
  obtain ⟨ta, pa, ha⟩ := ha.out
  obtain ⟨tb, pb, hb⟩ := hb.out
  refine ME.mk' (pe_andT pa pb) fun B0 B s st u z Q wd sl hp => ha B0 B s st u z _ wd sl (Post.bind hp fun w st1 s1 v l1 wd1 r1 h1 => ?_)
  obtain ⟨k, e, h1⟩ := Post.of_of h1
  refine ⟨k, tru_ok3 wd1 r1 e, ?_⟩
  cases k with
  | true => exact hb B0 B s1 st1 u z Q wd1 (sl.mono l1) h1
  | false => exact h1.pure wd1 r1
theorem me_or (ha : ME P a ma) (hb : ME P (.BoolOp .Or (b :: rest) pos) mb) : ME P (.BoolOp .Or (a :: b :: rest) pos) (eOr ma mb) := by
  obtain ⟨ta, pa, ha⟩ := ha.out
  obtain ⟨tb, pb, hb⟩ := hb.out
  refine ME.mk' (pe_orT pa pb) fun B0 B s st u z Q wd sl hp => ha B0 B s st u z _ wd sl (Post.bind hp fun w st1 s1 v l1 wd1 r1 h1 => ?_)
  obtain ⟨k, e, h1⟩ := Post.of_of h1
  refine ⟨k, tru_ok3 wd1 r1 e, ?_⟩
  cases k with
  | true => exact h1.pure wd1 r1
  | false => exact hb B0 B s1 st1 u z Q wd1 (sl.mono l1) h1
theorem me_not (ha : ME P a ma) : ME P (.UnaryOp .Not a pos) (eNot ma) := by
  obtain ⟨ta, pa, ha⟩ := ha.out
  refine ME.mk' (pe_notT pa) fun B0 B s st u z Q wd sl hp => ha B0 B s st u z _ wd sl (Post.bind hp fun w st1 s1 v l1 wd1 r1 h1 => ?_)
  obtain ⟨k, e, h1⟩ := Post.of_of h1
  exact ⟨k, tru_ok3 wd1 r1 e, h1.pure wd1 .bl⟩
/-! and, or, not as tests -/
def tAnd3 (a b : TM) : TM := fun u => M.bind (a u) fun k => if k = true then b u else M.pure false
def tOr3 (a b : TM) : TM := fun u => M.bind (a u) fun k => if k = true then M.pure true else b u
def tNot3 (a : TM) : TM := fun u => M.bind (a u) fun k => M.pure (!k)
variable {na nb : TM}
theorem mw_and1 (ha : MT P a na) : MW P (.BoolOp .And [a] pos) na := ⟨pw_and1 ha.pt⟩
theorem mw_or1 (ha : MT P a na) : MW P (.BoolOp .Or [a] pos) na := ⟨pw_or1 ha.pt⟩
theorem mw_and (ha : MT P a na) (hb : MW P (.BoolOp .And (b :: rest) pos) nb) : MW P (.BoolOp .And (a :: b :: rest) pos) (tAnd3 na nb) := by
  obtain ⟨ta, pa, ha⟩ := ha.out
  obtain ⟨tb, pb, hb⟩ := hb.out
  refine MW.mk' (pw_and pa pb) fun B0 B s st u z Q wd sl hp => ha B0 B s st u z _ wd sl (Post.bind hp fun k st1 s1 k' l1 wd1 r1 h1 => ?_)
  subst r1
  cases k with
  | true => exact hb B0 B s1 st1 u z Q wd1 (sl.mono l1) h1
  | false => exact h1.pure wd1 rfl
theorem mw_or (ha : MT P a na) (hb : MW P (.BoolOp .Or (b :: rest) pos) nb) : MW P (.BoolOp .Or (a :: b :: rest) pos) (tOr3 na nb) := by
  obtain ⟨ta, pa, ha⟩ := ha.out
  obtain ⟨tb, pb, hb⟩ := hb.out
  refine MW.mk' (pw_or pa pb) fun B0 B s st u z Q wd sl hp => ha B0 B s st u z _ wd sl (Post.bind hp fun k st1 s1 k' l1 wd1 r1 h1 => ?_)
  subst r1
  cases k with
  | true => exact h1.pure wd1 rfl
  | false => exact hb B0 B s1 st1 u z Q wd1 (sl.mono l1) h1
theorem mt_w (h : MW P a na) : MT P a na := ⟨h.pw.pt⟩
theorem mt_not (ha : MT P a na) : MT P (.UnaryOp .Not a pos) (tNot3 na) := by
  obtain ⟨ta, pa, ha⟩ := ha.out
  refine MT.mk' (pt_not pa) fun B0 B s st u z Q wd sl hp => ha B0 B s st u z _ wd sl (Post.bind hp fun k st1 s1 k' l1 wd1 r1 h1 => ?_)
  subst r1
  exact h1.pure wd1 rfl
/-! a op b op c -/
def eChain (g g' : W → W → Option W) (a b c : EM) : EM := fun u => M.bind (a u) fun x => M.bind (b u) fun y => M.bind (M.of (g x y)) fun k => M.bind (M.of k.bool) fun k => if k = true then M.bind (c u) fun w => M.of (g' y w) else M.pure (.val (.bl false))
theorem bool_ok {G : G3} {X : Hex} {B : Addr → Prop} {s : S3} {w : W} {v : V} {k : Bool} (r : RepW G X B s w v) (e : w.bool = some k) : v = .bl k := by
  obtain rfl := bool_inv e
  cases r
  rfl
theorem me_chain {op op' : CmpOp} {g g' : W → W → Option W} (h : OpM P (compareOp op) g) (h' : OpM P (compareOp op') g') (ha : ME P a ma) (hb : ME P b mb) (hc : ME P c mc)
    (hm : lastMarks [op, op'] [b, c] = false := by with_unfolding_all rfl) : ME P (.Compare a [op, op'] [b, c] pos) (eChain g g' ma mb mc) := by
  obtain ⟨ta, pa, ha⟩ := ha.out
  obtain ⟨tb, pb, hb⟩ := hb.out
  obtain ⟨tc, pc, hc⟩ := hc.out
  obtain ⟨r, hr, hq⟩ := h
  obtain ⟨r', hr', hq'⟩ := h'
  refine ME.mk' (pe_chain hr hr' pa pb pc hm) fun B0 B s st u z Q wd sl hp => ha B0 B s st u z _ wd sl (Post.bind hp fun w1 st1 s1 v1 l1 wd1 r1 h1 => ?_)
  refine hb B0 B s1 st1 u z _ wd1 (sl.mono l1) (Post.bind h1 fun w2 st2 s2 v2 l2 wd2 r2 h2 => ?_)
  obtain ⟨w, e, h2⟩ := Post.of_of h2
  refine hq B s2 st2 w1 w2 w v1 v2 _ wd2 (r1.mono l2) r2 e fun s3 v l3 wd3 r3 => ?_
  obtain ⟨k, e2, h3⟩ := Post.of_of h2
  refine ⟨k, bool_ok r3 e2, ?_⟩
  cases k with
  | true =>
    rw [if_pos rfl]
    refine hc B0 B s3 st2 u z _ wd3 (sl.mono ((l1.trans l2).trans l3)) (Post.bind (Post.mono l3 h3) fun w4 st4 s4 v4 l4 wd4 r4 h4 => ?_)
    obtain ⟨w5, e5, h4⟩ := of_eq h4
    exact hq' B s4 st4 w2 w4 w5 v2 v4 Q wd4 ((r2.mono l3).mono l4) r4 e5 fun s5 v5 l5 wd5 r5 => h4 s5 v5 l5 wd5 r5
  | false =>
    rw [if_neg Bool.false_ne_true]
    exact (Post.mono l3 h3).pure wd3 .bl
/-! if as an expression -/
def eIf (t : TM) (a b : EM) : EM := fun u => M.bind (t u) fun k => if k = true then a u else b u
theorem me_if (hc : MT P c na) (ha : ME P a ma) (hb : ME P b mb) : ME P (.IfExp c a b pos) (eIf na ma mb) := by
  obtain ⟨tc, pc, hc⟩ := hc.out
  obtain ⟨ta, pa, ha⟩ := ha.out
  obtain ⟨tb, pb, hb⟩ := hb.out
  refine ME.mk' (pe_ifExp pc pa pb) fun B0 B s st u z Q wd sl hp => hc B0 B s st u z _ wd sl (Post.bind hp fun k st1 s1 k' l1 wd1 r1 h1 => ?_)
  subst r1
  cases k with
  | true => exact ha B0 B s1 st1 u z Q wd1 (sl.mono l1) h1
  | false => exact hb B0 B s1 st1 u z Q wd1 (sl.mono l1) h1
end

/-! ### subscripts -/
def D.items : D → Option (List D)
  | .tup xs => some xs
  | .ctup xs => some xs
  | .lst xs => some xs
  | .ro xs => some xs
  | _ => none
def ixF (x y : W) : Option W := match x, y with
  | .val (.str z), .val (.int i) => if z.length ≤ 1000000 then (atI z.cps.toList i).map fun c => .val (.str ⟨#[c]⟩) else none
  | x, .val (.int i) => (x.rd.bind D.items).bind fun xs => (atI xs i).map .val
  | _, _ => none
theorem atI_rep {K : KW} {F : Hp} {io : Io} {xs : List D} {vs : List V} {i : Int} {d : D} (r : RepL K F io xs vs) (e : atI xs i = some d) : ∃ v, atI vs i = some v ∧ Rep K F io d v := by
  unfold atI at e ⊢
  rw [r.length] at e
  cases h : ixN vs.length i with
  | none => rw [h] at e; cases e
  | some j => rw [h] at e; exact r.get e
section
variable {P : P3} {pos : Pos} {a b : Expr} {ma mb : EM}
/-- the items of a list or tuple that is read: as they stand in the whole heap, each as data that never changes -/
theorem items_ok {B : Addr → Prop} {s : S3} {st : Store} {w : W} {v : V} {d : D} {xs : List D} (wd : Wd P.G B st s) (r : RepW P.G P.hx B s w v) (e : w.rd = some d) (e2 : d.items = some xs) :
    ∃ p vs, v = .ref p ∧ (SqL P.X.K s.H p vs ∨ SqT P.X.K s.H p vs) ∧ RepL P.G.R s.F s.io xs vs := by
  rw [P.hK]
  cases w with
  | val d' =>
    cases e
    cases r with
    | tup h q => cases e2; exact ⟨_, _, rfl, .inr (h.mono wd.sub).sq, q⟩
    | ctup h q => cases e2; exact ⟨_, _, rfl, .inr (same_sqT wd.sub h), q⟩
    | lst h q => cases e2; exact ⟨_, _, rfl, .inl (.inl (.inl (wd.sub _ _ h))), q⟩
    | ro h q => cases e2; exact ⟨_, _, rfl, .inl (same_sqL wd.sub h), q⟩
    | _ => cases e2
  | bor ys => cases e; cases e2; obtain ⟨p, vs, rfl, b, h, r⟩ := r; exact ⟨p, vs, rfl, .inl (.inl (.inl h)), r⟩
  | bod ks us => cases e
  | bdd ks us => cases e
  | exn c x => cases e
  | len ys => cases e; cases e2; obtain ⟨p, vs, o, rfl, b, h, r⟩ := r; exact ⟨p, vs, rfl, .inl (.inl (.inr ⟨o, h⟩)), r⟩
theorem me_ix (ha : ME P a ma) (hb : ME P b mb) (hs : PlainIx b := by first | exact fun _ _ => rfl | (intro _ _; rfl)) : ME P (.Subscript a b pos) (eBin ixF ma mb) := by
  obtain ⟨ta, pa, ha⟩ := ha.out
  obtain ⟨tb, pb, hb⟩ := hb.out
  refine ME.mk' (pe_ix ix_seq pa pb hs) fun B0 B s st u z Q wd sl hp => ha B0 B s st u z _ wd sl (Post.bind hp fun w1 st1 s1 v1 l1 wd1 r1 h1 => ?_)
  refine hb B0 B s1 st1 u z _ wd1 (sl.mono l1) (Post.bind h1 fun w2 st2 s2 v2 l2 wd2 r2 h2 => ?_)
  obtain ⟨w, e, h2⟩ := of_eq h2
  have r1 := r1.mono l2
  unfold ixF at e
  split at e
  · split at e
    · rename_i hz
      cases r1; cases r2
      rename_i zs i
      cases h : atI zs.cps.toList i with
      | none => rw [h] at e; cases e
      | some c => rw [h] at e; cases e; exact .inr (.inr ⟨zs, i, c, rfl, rfl, szL hz, h, h2.pure wd2 .str⟩)
    · cases e
  · rename_i i _
    cases r2
    cases h3 : w1.rd with
    | none => rw [h3] at e; cases e
    | some d =>
      rw [h3] at e
      cases h4 : d.items with
      | none => rw [Option.bind_some, h4] at e; cases e
      | some xs =>
        rw [Option.bind_some, h4, Option.bind_some] at e
        cases h5 : atI xs i with
        | none => rw [h5] at e; cases e
        | some d' =>
          rw [h5] at e
          cases e
          obtain ⟨p, vs, rfl, hq, rl⟩ := items_ok wd2 r1 h3 h4
          obtain ⟨v, e6, rv⟩ := atI_rep rl h5
          rcases hq with hq | hq
          · exact .inl ⟨p, vs, i, v, rfl, rfl, hq, e6, h2.pure wd2 rv⟩
          · exact .inr (.inl ⟨p, vs, i, v, rfl, rfl, hq, e6, h2.pure wd2 rv⟩)
  · cases e
end
end M3


namespace M3
open PySem PySem.Spec PyProof.Rows L2

/-! ### slots are written -/
section
variable {G : G3} {X : Hex} {B0 B : Addr → Prop} {s : S3} {u : Sl3} {z : L2.St}
theorem get_set {α : Type} {l : List (Option α)} {i j : Nat} {w w' : α} (h : (l.set i (some w))[j]? = some (some w')) : (i = j ∧ w' = w) ∨ (i ≠ j ∧ l[j]? = some (some w')) := by
  by_cases e : i = j
  · subst e
    by_cases hl : i < l.length
    · rw [List.getElem?_set_self hl] at h; cases h; exact .inl ⟨rfl, rfl⟩
    · rw [List.getElem?_eq_none (by simpa using hl)] at h; cases h
  · rw [List.getElem?_set_ne e] at h; exact .inr ⟨e, h⟩
theorem Slo.set {d : D} {v : V} (h : Slo G X B0 B s u z) (r : Rep G.R s.F s.io d v) (i : Nat) : Slo G X B0 B s (u.set i (some (.val d))) (z.set i (some v)) := by
  obtain ⟨hl, ow, h1, h2⟩ := h
  refine ⟨by simpa using hl, ow, fun j w e => ?_, fun j k w w' o1 o2 e1 e2 e => ?_⟩
  · rcases get_set e with ⟨rfl, rfl⟩ | ⟨ne, e⟩
    · have hi : i < u.length := by
        rcases Nat.lt_or_ge i u.length with q | q
        · exact q
        · rw [List.getElem?_eq_none (by simpa using q)] at e; cases e
      exact ⟨v, by rw [List.getElem?_set_self (by omega)], r, fun q => by cases q⟩
    · obtain ⟨v', e1, r', q⟩ := h1 j w e
      exact ⟨v', by rw [List.getElem?_set_ne ne]; exact e1, r', q⟩
  · rcases get_set e1 with ⟨_, q⟩ | ⟨_, e1⟩
    · subst q; cases o1
    · rcases get_set e2 with ⟨_, q⟩ | ⟨_, e2⟩
      · subst q; cases o2
      · exact h2 j k w w' o1 o2 e1 e2 e
theorem Slo.del (h : Slo G X B0 B s u z) (i : Nat) (o : Option V) : Slo G X B0 B s (u.set i none) (z.set i o) := by
  obtain ⟨hl, ow, h1, h2⟩ := h
  have old : ∀ {j : Nat} {w : M3.W}, (u.set i none)[j]? = some (some w) → i ≠ j ∧ u[j]? = some (some w) := fun {j w} e => by
    by_cases q : i = j
    · subst q
      by_cases hl : i < u.length
      · rw [List.getElem?_set_self hl] at e; cases e
      · rw [List.getElem?_eq_none (by simpa using hl)] at e; cases e
    · rw [List.getElem?_set_ne q] at e; exact ⟨q, e⟩
  refine ⟨by simpa using hl, ow, fun j w e => ?_, fun j k w w' o1 o2 e1 e2 e => h2 j k w w' o1 o2 (old e1).2 (old e2).2 e⟩
  obtain ⟨ne, e⟩ := old e
  obtain ⟨v', e1, r', q⟩ := h1 j w e
  exact ⟨v', by rw [List.getElem?_set_ne ne]; exact e1, r', q⟩
theorem RepW.wider {B' : Addr → Prop} (hb : ∀ a, B a → B' a) {w : M3.W} {v : V} (r : RepW G X B s w v) : RepW G X B' s w v := by
  cases w with
  | val d => exact r
  | bor xs => obtain ⟨p, vs, e, b, h, r⟩ := r; exact ⟨p, vs, e, hb p b, h, r⟩
  | bod ks us => obtain ⟨p, vs, e, b, h, r⟩ := r; exact ⟨p, vs, e, hb p b, h, r⟩
  | bdd ks us => obtain ⟨p, vs, e, b, h, r⟩ := r; exact ⟨p, vs, e, hb p b, h, r⟩
  | exn c x => exact r
  | len xs => obtain ⟨p, vs, o, e, b, h, r⟩ := r; exact ⟨p, vs, o, e, hb p b, h, r⟩
theorem own_ref {w : M3.W} {v : V} (o : w.own = true) (r : RepW G X B s w v) : ∃ p, v = .ref p ∧ B p := by
  cases w with
  | val d => cases o
  | bor xs => obtain ⟨p, vs, e, b, h, r⟩ := r; exact ⟨p, e, b⟩
  | bod ks us => obtain ⟨p, vs, e, b, h, r⟩ := r; exact ⟨p, e, b⟩
  | bdd ks us => obtain ⟨p, vs, e, b, h, r⟩ := r; exact ⟨p, e, b⟩
  | exn c x => cases o
  | len xs => cases o
/-- slot i takes a thing of one's own -/
theorem Slo.ownW {p : Addr} {w0 : M3.W} (h : Slo G X B0 B s u z) (nb : ¬ B p) (nb0 : ¬ B0 p) (r : RepW G X (plus B p) s w0 (.ref p)) (i : Nat) :
    Slo G X B0 (plus B p) s (u.set i (some w0)) (z.set i (some (.ref p))) := by
  obtain ⟨hl, ow, h1, h2⟩ := h
  have at_ : ∀ {j : Nat} {w : M3.W}, w.own = true → u[j]? = some (some w) → ow j ≠ p := fun {j w} o e q => by
    obtain ⟨v, e1, r, q'⟩ := h1 j _ e
    obtain ⟨p', e2, b⟩ := own_ref o r
    obtain ⟨e3, _⟩ := q' o
    rw [e2] at e3; cases e3
    exact nb (q ▸ b)
  refine ⟨by simpa using hl, fun j => if j = i then p else ow j, fun j w e => ?_, fun j k w w' o1 o2 e1 e2 e => ?_⟩
  · rcases get_set e with ⟨rfl, rfl⟩ | ⟨ne, e⟩
    · have hi : i < u.length := by
        rcases Nat.lt_or_ge i u.length with q | q
        · exact q
        · rw [List.getElem?_eq_none (by simpa using q)] at e; cases e
      exact ⟨.ref p, by rw [List.getElem?_set_self (by omega)], r, fun q => ⟨by simp, by simpa using nb0⟩⟩
    · obtain ⟨v', e1, r', q⟩ := h1 j w e
      exact ⟨v', by rw [List.getElem?_set_ne ne]; exact e1, r'.wider fun a b => .inl b, fun q' => by simp only [Ne.symm ne, if_false]; exact q q'⟩
  · rcases get_set e1 with ⟨rfl, q⟩ | ⟨n1, e1⟩
    · rcases get_set e2 with ⟨rfl, q⟩ | ⟨n2, e2⟩
      · rfl
      · simp only [if_true, Ne.symm n2, if_false] at e
        exact absurd e.symm (at_ o2 e2)
    · rcases get_set e2 with ⟨rfl, q⟩ | ⟨n2, e2⟩
      · simp only [if_true, Ne.symm n1, if_false] at e
        exact absurd e (at_ o1 e1)
      · simp only [Ne.symm n1, Ne.symm n2, if_false] at e
        exact h2 j k w w' o1 o2 e1 e2 e
/-- slot i takes a list of one's own -/
theorem Slo.own {p : Addr} {xs : List D} {vs : List V} (h : Slo G X B0 B s u z) (nb : ¬ B p) (nb0 : ¬ B0 p) (hp : s.H p = some (.lst vs)) (r : RepL G.R s.F s.io xs vs) (i : Nat) :
    Slo G X B0 (plus B p) s (u.set i (some (.bor xs))) (z.set i (some (.ref p))) := h.ownW (w0 := .bor xs) nb nb0 ⟨p, vs, rfl, .inr rfl, hp, r⟩ i
end

/-! ### statements -/
def sNext : SM := fun u st => .nx u st
def sSeq (a b : SM) : SM := fun u st => match a u st with
  | .nx u' st' => b u' st'
  | r => r
def sBreak : SM := fun u st => .bk u st
def sCont : SM := fun u st => .ct u st
def sDrop (m : EM) : SM := fun u st => match m u st with
  | .ok _ st' => .nx u st'
  | .err c x st' => .err c x u st'
  | .bad => .bad
def sRet (m : EM) : SM := fun u st => match m u st with
  | .ok w st' => .rt w st'
  | .err c x st' => .err c x u st'
  | .bad => .bad
def sRetN : SM := fun _ st => .rt (.val .non) st
def sSet (i : Nat) (m : EM) : SM := fun u st => match m u st with
  | .ok (.val d) st' => .nx (u.set i (some (.val d))) st'
  | .ok _ _ => .bad
  | .err c x st' => .err c x u st'
  | .bad => .bad
def sOwn (i : Nat) (m : FM) : SM := fun u st => match m u st with
  | .ok xs st' => .nx (u.set i (some (.bor xs))) st'
  | .err c x st' => .err c x u st'
  | .bad => .bad
def sIf (c : TM) (a b : SM) : SM := fun u st => match c u st with
  | .ok true st' => a u st'
  | .ok false st' => b u st'
  | .err c x st' => .err c x u st'
  | .bad => .bad
section
variable {P : P3} {pos : Pos} {e : Expr} {m : EM}
theorem Slo.mono' {G : G3} {X : Hex} {B0 B : Addr → Prop} {s s' : S3} {u : Sl3} {z : L2.St} (h : Slo G X B0 B s u z) (l : Le B s s') : Slo G X B0 B s' u z := Slo.mono l h
theorem mss_nil : MSs P [] sNext := MSs.mk' pss_nil fun B0 B s o u z D b wd sl h => h B s z b (Le.refl _) wd sl
theorem ms_pass : MS P (.Pass pos) sNext := MS.mk' ps_pass fun B0 B s o u z D b wd sl h => h B s z b (Le.refl _) wd sl
theorem ms_break : MS P (.Break pos) sBreak := MS.mk' ps_break fun B0 B s o u z D b wd sl h => h B s z b (Le.refl _) wd sl
theorem ms_cont : MS P (.Continue pos) sCont := MS.mk' ps_continue fun B0 B s o u z D b wd sl h => h B s z b (Le.refl _) wd sl
theorem seq_post {G : G3} {hx : Hex} {wx : WX} {B0 : Addr → Prop} {s : S3} {D : Ends} {a b : SM} {u : Sl3} {o : Store} (h : PostS G hx wx B0 s D (sSeq a b u o)) :
    PostS G hx wx B0 s { D with nx := fun z H => ∃ (B : Addr → Prop) (s' : S3) (o' : Store) (u' : Sl3), s'.H = H ∧ (∀ a, B0 a → B a) ∧ Le B0 s s' ∧ Wd G B o' s' ∧ Slo G hx B0 B s' u' z ∧ PostS G hx wx B0 s' D (b u' o') } (a u o) := by
  unfold sSeq at h
  cases e : a u o with
  | nx u' o' => rw [e] at h; exact fun B' s' z' hb l w sl => ⟨B', s', o', u', rfl, hb, l, w, sl, PostS.mono l h⟩
  | rt w o' => rw [e] at h; exact h
  | bk u' o' => rw [e] at h; exact h
  | ct u' o' => rw [e] at h; exact h
  | err c x u' o' => rw [e] at h; exact h
  | bad => rw [e] at h; exact h
theorem mss_cons {st : Stmt} {rest : List Stmt} {a b : SM} (h1 : MS P st a) (h2 : MSs P rest b) : MSs P (st :: rest) (sSeq a b) := by
  obtain ⟨ta, pa, ha⟩ := h1.out
  obtain ⟨tb, pb, hb⟩ := h2.out
  refine MSs.mk' (pss_cons pa pb) fun B0 B s o u z D b0 wd sl h => ?_
  have q := ha B0 B s o u z _ b0 wd sl (seq_post h)
  show ta { D with nx := tb D } z s.H
  refine ha B0 B s o u z { D with nx := tb D } b0 wd sl ?_
  have h' := seq_post h
  cases e : a u o with
  | nx u' o' =>
    rw [e] at h'
    intro B' s' z' hb' l w sl'
    obtain ⟨B2, s2, o2, u2, e2, b2, l2, w2, sl2, p2⟩ := h' B' s' z' hb' l w sl'
    rw [← e2]
    exact hb B0 B2 s2 o2 u2 z' D b2 w2 sl2 p2
  | rt w o' => rw [e] at h'; exact h'
  | bk u' o' => rw [e] at h'; exact h'
  | ct u' o' => rw [e] at h'; exact h'
  | err c x u' o' => rw [e] at h'; exact h'
  | bad => rw [e] at h'; exact h'
theorem mss_one {st : Stmt} {a : SM} (h1 : MS P st a) : MSs P [st] a := by
  obtain ⟨ta, pa, ha⟩ := h1.out
  exact MSs.mk' (pss_one pa) fun B0 B s o u z D b0 wd sl h => ha B0 B s o u z D b0 wd sl h
theorem ms_drop (he : ME P e m) (hs : swapsWith e none pos.line P.X.env = pure false := by rfl) : MS P (.Expr e pos) (sDrop m) := by
  obtain ⟨t, pt, ht⟩ := he.out
  refine MS.mk' (ps_expr pt hs) fun B0 B s o u z D b0 wd sl h => ht B0 B s o u z _ wd sl ?_
  unfold sDrop at h
  cases e : m u o with
  | ok w st' => rw [e] at h; exact fun s' v l w r => h B s' z b0 (l.less b0) w (sl.mono' l)
  | err c x st' => rw [e] at h; exact fun s' cv dd l w q => h B s' z cv dd b0 (l.less b0) w (sl.mono' l) q
  | bad => rw [e] at h; exact h
theorem RepW.ret {G : G3} {X : Hex} {B0 B : Addr → Prop} {s : S3} {d : D} {v : V} (r : RepW G X B s (.val d) v) : PostS.RepR G B0 B s (.val d) v := r
/-- return e (e's value is data) -/
def sRetV (m : EM) : SM := fun u st => match m u st with
  | .ok (.val d) st' => .rt (.val d) st'
  | .ok _ _ => .bad
  | .err c x st' => .err c x u st'
  | .bad => .bad
theorem ms_ret (he : ME P e m) : MS P (.Return (some e) pos) (sRetV m) := by
  obtain ⟨t, pt, ht⟩ := he.out
  refine MS.mk' (ps_ret pt) fun B0 B s o u z D b0 wd sl h => ht B0 B s o u z _ wd sl ?_
  unfold sRetV at h
  cases e : m u o with
  | ok w st' =>
    rw [e] at h
    cases w with
    | val d => exact fun s' v l w r => h B s' v b0 (l.less b0) w r
    | _ => exact h.elim
  | err c x st' => rw [e] at h; exact fun s' cv dd l w q => h B s' z cv dd b0 (l.less b0) w (sl.mono' l) q
  | bad => rw [e] at h; exact h
/-- return x, x a list of one's own -/
def sRetO (i : Nat) : SM := fun u st => match u[i]? with
  | some (some (.bor xs)) => .rt (.bor xs) st
  | _ => .bad
theorem ms_retO (i : Nat) {x : Str} {p : Pos} (hN : P.X.N[i]? = some x := by rfl) (hv : Vis P.X.env.scope x := by first | exact Or.inl rfl | exact Or.inr (Or.inl rfl) | exact Or.inr (Or.inr rfl)) (hd : (x == ("__debug__" : Str)) = false := by decide)
    (hcd : (x == ("__classdict__" : Str)) = false := by decide) : MS P (.Return (some (.Name x p)) pos) (sRetO i) := by
  refine MS.mk' (ps_ret (pe_var hN hv hd hcd)) fun B0 B s o u z D b0 wd sl h => ?_
  unfold sRetO at h
  split at h
  · rename_i xs e
    obtain ⟨hl, ow, h1, h2⟩ := sl
    obtain ⟨v, e1, ⟨p', vs, e2, b, hp, r⟩, q⟩ := h1 i _ e
    obtain ⟨e3, nb⟩ := q rfl
    subst e2
    cases e3
    exact ⟨_, e1, h B s _ b0 (Le.refl _) wd ⟨_, vs, rfl, b, nb, hp, r⟩⟩
  · exact h.elim
theorem ms_retN : MS P (.Return none pos) sRetN := MS.mk' ps_retN fun B0 B s o u z D b0 wd sl h => h B s .non b0 (Le.refl _) wd .non
theorem ms_set (i : Nat) {x : Str} {p : Pos} (hN : P.X.N.Nodup) (he : ME P e m) (hi : P.X.N[i]? = some x := by rfl) (hx : Loc P.X.env.scope x := by first | exact Or.inl rfl | exact Or.inr rfl) (hs : swapsWith e (some (.Name x p)) pos.line P.X.env = pure false := by rfl)
    (hf : P.X.fn x = true ∨ P.X.env.scope.names.lookup x = some .local := by first | exact .inl rfl | exact .inr rfl | assumption) : MS P (.Assign [.Name x p] e pos) (sSet i m) := by
  obtain ⟨t, pt, ht⟩ := he.out
  refine MS.mk' (ps_set hN hi hx pt hs hf) fun B0 B s o u z D b0 wd sl h => ht B0 B s o u z _ wd sl ?_
  unfold sSet at h
  cases e : m u o with
  | ok w st' =>
    rw [e] at h
    cases w with
    | val d => exact fun s' v l w r => h B s' _ b0 (l.less b0) w ((sl.mono' l).set r i)
    | _ => exact h.elim
  | err c x st' => rw [e] at h; exact fun s' cv dd l w q => h B s' z cv dd b0 (l.less b0) w (sl.mono' l) q
  | bad => rw [e] at h; exact h
theorem ms_own (i : Nat) {x : Str} {p : Pos} {m : FM} (hN : P.X.N.Nodup) (he : MF P e m) (hi : P.X.N[i]? = some x := by rfl) (hx : Loc P.X.env.scope x := by first | exact Or.inl rfl | exact Or.inr rfl) (hs : swapsWith e (some (.Name x p)) pos.line P.X.env = pure false := by rfl)
    (hf : P.X.fn x = true ∨ P.X.env.scope.names.lookup x = some .local := by first | exact .inl rfl | exact .inr rfl | assumption) : MS P (.Assign [.Name x p] e pos) (sOwn i m) := by
  obtain ⟨t, pt, ht⟩ := he.out
  refine MS.mk' (ps_set hN hi hx pt hs hf) fun B0 B s o u z D b0 wd sl h => ht B0 B s o u z _ wd sl ?_
  unfold sOwn at h
  cases e : m u o with
  | ok xs st' =>
    rw [e] at h
    exact fun s' p vs l w nb hp r => h (plus B p) s' _ (fun a q => .inl (b0 a q)) (l.less b0) w ((sl.mono' l).own nb (fun q => nb (b0 p q)) hp r i)
  | err c x st' => rw [e] at h; exact fun s' cv dd l w q => h B s' z cv dd b0 (l.less b0) w (sl.mono' l) q
  | bad => rw [e] at h; exact h
theorem ms_if {c : Expr} {a b : List Stmt} {mc : TM} {ma mb : SM} (hc : MT P c mc) (ha : MSs P a ma) (hb : MSs P b mb) : MS P (.If c a b pos) (sIf mc ma mb) := by
  obtain ⟨tc, pc, hc⟩ := hc.out
  obtain ⟨ta, pa, ha⟩ := ha.out
  obtain ⟨tb, pb, hb⟩ := hb.out
  refine MS.mk' (ps_if pc pa pb) fun B0 B s o u z D b0 wd sl h => hc B0 B s o u z _ wd sl ?_
  unfold sIf at h
  cases e : mc u o with
  | ok k st' =>
    rw [e] at h
    intro s' k' l w r
    subst r
    cases k with
    | true => exact ha B0 B s' st' u z D b0 w (sl.mono' l) (PostS.mono (l.less b0) h)
    | false => exact hb B0 B s' st' u z D b0 w (sl.mono' l) (PostS.mono (l.less b0) h)
  | err c x st' => rw [e] at h; exact fun s' cv dd l w q => h B s' z cv dd b0 (l.less b0) w (sl.mono' l) q
  | bad => rw [e] at h; exact h
end
end M3


namespace M3
open PySem PySem.Spec PyProof.Rows L2

/-! ### targets -/
abbrev GM := D → Sl3 → Option Sl3
abbrev GMs := List D → Sl3 → Option Sl3
/-- z' is z but for the slots gs -/
structure But (gs : List Nat) (z z' : L2.St) : Prop where
  len : z'.length = z.length
  out : ∀ j, j ∉ gs → z'[j]? = z[j]?
theorem But.refl {gs : List Nat} (z : L2.St) : But gs z z := ⟨rfl, fun _ _ => rfl⟩
theorem But.trans {gs gs' : List Nat} {a b c : L2.St} (h : But gs a b) (h' : But gs' b c) : But (gs ++ gs') a c :=
  ⟨h'.len.trans h.len, fun j hj => (h'.out j fun m => hj (List.mem_append_right _ m)).trans (h.out j fun m => hj (List.mem_append_left _ m))⟩
theorem wipe_in {z : L2.St} {i : Nat} : ∀ {vs : List Nat}, i ∈ vs → i < z.length → (wipe z vs)[i]? = some none
  | v :: vs, h, hl => by
    unfold wipe
    by_cases e : v = i
    · subst e; rw [List.getElem?_set_self (by rw [wipe_length]; exact hl)]
    · rw [List.getElem?_set_ne e]
      rcases List.mem_cons.mp h with q | q
      · exact absurd q.symm e
      · exact wipe_in q hl
theorem But.wipe {gs vs : List Nat} {z z' : L2.St} (h : But gs z z') (hs : ∀ i ∈ gs, i ∈ vs) : L2.wipe z' vs = L2.wipe z vs := by
  apply List.ext_getElem?
  intro i
  by_cases hi : i ∈ vs
  · by_cases hl : i < z.length
    · rw [wipe_in hi (by rw [h.len]; exact hl), wipe_in hi hl]
    · rw [List.getElem?_eq_none (by rw [wipe_length, h.len]; omega), List.getElem?_eq_none (by rw [wipe_length]; omega)]
  · rw [wipe_out hi, wipe_out hi]
    exact h.out i fun m => hi (hs i m)
def tG (G : G3) (hx : Hex) (g : GM) (gs : List Nat) : TG := fun v z H Q => ∃ (B0 B : Addr → Prop) (s : S3) (st : Store) (u : Sl3) (d : D) (u' : Sl3), s.H = H ∧ Wd G B st s ∧ Slo G hx B0 B s u z ∧ Rep G.R s.F s.io d v ∧ g d u = some u' ∧
  ∀ z', Slo G hx B0 B s u' z' → But gs z z' → Q z' H
def tGs (G : G3) (hx : Hex) (g : GMs) (gs : List Nat) : TGs := fun vs z H Q => ∃ (B0 B : Addr → Prop) (s : S3) (st : Store) (u : Sl3) (ds : List D) (u' : Sl3), s.H = H ∧ Wd G B st s ∧ Slo G hx B0 B s u z ∧ RepL G.R s.F s.io ds vs ∧ g ds u = some u' ∧
  ∀ z', Slo G hx B0 B s u' z' → But gs z z' → Q z' H
structure MG (P : P3) (tg : Expr) (g : GM) (gs : List Nat) : Prop where
  pg : PG P.X tg (tG P.G P.hx g gs)
structure MGs (P : P3) (tg : List Expr) (g : GMs) (gs : List Nat) : Prop where
  pgs : PGs P.X tg (tGs P.G P.hx g gs)
def gName3 (i : Nat) : GM := fun d u => some (u.set i (some (.val d)))
def gNil3 : GMs := fun ds u => match ds with
  | [] => some u
  | _ => none
def gCons3 (g : GM) (gs : GMs) : GMs := fun ds u => match ds with
  | d :: ds => (g d u).bind (gs ds)
  | [] => none
def gTup3 (n : Nat) (gs : GMs) : GM := fun d u => match d with
  | .tup ds => if ds.length = n then gs ds u else none
  | _ => none
section
variable {P : P3} {pos : Pos}
theorem mg_name (i : Nat) {x : Str} (hN : P.X.N.Nodup) (hi : P.X.N[i]? = some x := by rfl) (hx : Loc P.X.env.scope x := by first | exact Or.inl rfl | exact Or.inr rfl)
    (hf : P.X.fn x = true ∨ P.X.env.scope.names.lookup x = some .local := by first | exact .inl rfl | exact .inr rfl | assumption) : MG P (.Name x pos) (gName3 i) [i] := by
  refine ⟨⟨fun pins s0 z H v w Q I r ⟨B0, B, s, st, u, d, u', e, wd, sl, rd, eg, k⟩ => ?_⟩⟩
  cases eg
  refine (pg_name hN hi hx hf).run pins s0 z H v w Q I r (k _ (sl.set rd i) ⟨by simp, fun j hj => ?_⟩)
  rw [List.getElem?_set_ne (fun q => hj (by simp [q]))]
theorem mgs_nil : MGs P [] gNil3 [] := by
  refine ⟨⟨fun pins s0 z H vs us Q I r ⟨B0, B, s, st, u, ds, u', e, wd, sl, rd, eg, k⟩ => ?_⟩⟩
  cases rd with
  | nil => cases eg; exact pgs_nil.run pins s0 z H [] us Q I r ⟨rfl, k z sl (But.refl z)⟩
  | cons _ _ => cases eg
theorem mgs_cons {e : Expr} {es : List Expr} {g : GM} {gs : GMs} {is js : List Nat} (h1 : MG P e g is) (h2 : MGs P es gs js)
    (hs : (assignEach (e :: es) P.X.env).map (·.2) = assign e P.X.env :: (assignEach es P.X.env).map (·.2) := by rfl) : MGs P (e :: es) (gCons3 g gs) (is ++ js) := by
  refine ⟨⟨fun pins s0 z H vs us Q I r ⟨B0, B, s, st, u, ds, u', e, wd, sl, rd, eg, k⟩ => ?_⟩⟩
  cases rd with
  | nil => cases eg
  | @cons d ds v vs rd rds =>
    have eg : (g d u).bind (gs ds) = some u' := eg
    cases e1 : g d u with
    | none => rw [e1] at eg; cases eg
    | some u1 =>
      rw [e1] at eg
      refine (pgs_cons h1.pg h2.pgs hs).run pins s0 z H _ us Q I r ⟨v, vs, rfl, B0, B, s, st, u, d, u1, e, wd, sl, rd, e1, fun z1 sl1 b1 => ?_⟩
      exact ⟨B0, B, s, st, u1, ds, u', e, wd, sl1, rds, eg, fun z2 sl2 b2 => k z2 sl2 (b1.trans b2)⟩
theorem mg_tup {es : List Expr} {k : Nat} {gs : GMs} {is : List Nat} {n : Nat} (hc : P.X.calm = true) (h : MGs P es gs is)
    (hn : (assignEach es P.X.env).length = n := by rfl) (hst : (assignEach es P.X.env).findIdx? (·.1) = none := by rfl) : MG P (.Tuple es k pos) (gTup3 n gs) is := by
  refine ⟨⟨fun pins s0 z H v w Q I r ⟨B0, B, s, st, u, d, u', e, wd, sl, rd, eg, k⟩ => ?_⟩⟩
  subst e
  unfold gTup3 at eg
  split at eg
  · rename_i ds
    split at eg
    · rename_i hl
      cases rd with
      | tup hq rl =>
        refine (pg_tup hc h.pgs hn hst).run pins s0 z s.H _ w Q I r ⟨_, _, rfl, (hq.mono wd.sub).sq, by rw [← rl.length]; exact hl, ?_⟩
        exact ⟨B0, B, s, st, u, _, u', rfl, wd, sl, rl, eg, k⟩
    · cases eg
  · cases eg
end

/-! ### what a loop walks -/
structure Itm (G : G3) (s : S3) (ds : List D) (J : It) : Prop where
  go : ∀ (s' : S3), IoLe s.io s'.io → Same s.F s'.F → Same s'.F s'.H → ∀ i, i < ds.length → J.go i s'.H
  yld : ∀ (s' : S3), IoLe s.io s'.io → Same s.F s'.F → Same s'.F s'.H → ∀ i x H', i < ds.length → J.yld i s'.H x H' → H' = s'.H ∧ ∃ d, ds[i]? = some d ∧ Rep G.R s'.F s'.io d x
  stop : ∀ (s' : S3), IoLe s.io s'.io → Same s.F s'.F → Same s'.F s'.H → ∀ i, ds.length ≤ i → J.stop i s'.H
def tI (G : G3) (hx : Hex) (wx : WX) (m : FM) : TI := fun z H R => ∃ (B0 B : Addr → Prop) (s : S3) (st : Store) (u : Sl3), s.H = H ∧ Wd G B st s ∧ Slo G hx B0 B s u z ∧ Post G B (fun s ds J => Itm G s ds J) (fun c d H => wx c d z H) s R (m u st)
structure MI (P : P3) (tg iter : Expr) (m : FM) : Prop where
  pi : PI P.X tg iter (tI P.G P.hx P.wx m)
theorem MI.mk' {P : P3} {tg iter : Expr} {m : FM} {t : TI} (h : PI P.X tg iter t) (k : ∀ (B0 B : Addr → Prop) (s : S3) (st : Store) (u : Sl3) (z : L2.St) (R : It → Hp → Prop), Wd P.G B st s → Slo P.G P.hx B0 B s u z →
    Post P.G B (fun s ds J => Itm P.G s ds J) (fun c d H => P.wx c d z H) s R (m u st) → t z s.H R) : MI P tg iter m :=
  ⟨⟨fun pins s0 z H R I ⟨B0, B, s, st, u, e, wd, sl, p⟩ => by subst e; exact h.run pins s0 z _ R I (k B0 B s st u z R wd sl p)⟩⟩
theorem MI.out {P : P3} {tg iter : Expr} {m : FM} (h : MI P tg iter m) : ∃ t, PI P.X tg iter t ∧ ∀ (B0 B : Addr → Prop) (s : S3) (st : Store) (u : Sl3) (z : L2.St) (R : It → Hp → Prop), Wd P.G B st s → Slo P.G P.hx B0 B s u z →
    Post P.G B (fun s ds J => Itm P.G s ds J) (fun c d H => P.wx c d z H) s R (m u st) → t z s.H R := ⟨_, h.pi, fun B0 B s st u z R wd sl p => ⟨B0, B, s, st, u, rfl, wd, sl, p⟩⟩
/-- over a list or a tuple -/
def D.walk : D → Option (List D)
  | .str x => some (x.cps.toList.map fun c => .str ⟨#[c]⟩)
  | d => d.items
def iSeq (m : EM) : FM := fun u => M.bind (m u) fun w => match w with
  | .val d => M.of d.walk
  | _ => M.bad
def iSeqT (K : PySem.W.Frag) (tl : TE) : TI := fun z H R => tl z H fun x H1 => (∃ y, x = .str y ∧ R (Its y) H1) ∨ ∃ a, x = .ref a ∧ ((∃ xs, SqL K H1 a xs) ∧ R (Itl K a) H1 ∨ (∃ xs, SqT K H1 a xs) ∧ R (Itt K a) H1)
section
variable {P : P3} {pos p : Pos} {tg l : Expr} {m : EM}
theorem pi_seq3 {X : Cx} {tl : TE} (hl : PE X l tl) : PI X tg l (iSeqT X.K tl) := by
  constructor
  intro pins s z H R I h
  refine thn (hl.run pins s z H _ I h) ?_
  rintro v s1 ⟨x, H1, I1, r1, ⟨y, rfl, q⟩ | ⟨a, rfl, q⟩⟩
  · obtain ⟨t, rfl⟩ := r1
    cases ha : y.cps.all (· < 128)
    · exact wpAny_pyIter_wide ha (pi_one (tk := s1.toks) I1 _ (turn_str _ y t "str_iterator" (.inr rfl)) ⟨_, Heap.get?_push_size _ rfl, rfl, rfl⟩ q)
    · exact wpAny_pyIter_ascii ha (pi_one (tk := s1.toks) I1 _ (turn_str _ y t "str_ascii_iterator" (.inl rfl)) ⟨_, Heap.get?_push_size _ rfl, rfl, rfl⟩ q)
  obtain rfl : v = Value.ref a := r1
  have nfp : ∀ b ∈ [s1.heap.objs.size], FpOk X pins H1 b := fun b hb => by
    rw [List.mem_singleton.mp hb]
    exact I1.fpOk (Nat.le_refl _) I1.fresh
  rcases q with ⟨⟨xs, hq⟩, q⟩ | ⟨⟨xs, hq⟩, q⟩
  · obtain ⟨its, _, pl, _⟩ := I1.list hq
    exact wpAny_pyIter_list pl.isList ⟨_, [s1.heap.objs.size], _, _, H1, rfl, I1.kept (t' := s1.toks) (fun b o e => Heap.get?_push_of_some _ e), turn_list a _, ⟨_, Heap.get?_push_size _ rfl, rfl, rfl⟩, nfp, q⟩
  · obtain ⟨its, _, pl, _⟩ := I1.tuple hq
    exact wpAny_pyIter_tuple (show s1.heap.IsTuple a its.toArray from pl) ⟨_, [s1.heap.objs.size], _, _, H1, rfl, I1.kept (t' := s1.toks) (fun b o e => Heap.get?_push_of_some _ e), turn_tuple a _, ⟨_, Heap.get?_push_size _ rfl, rfl, rfl⟩, nfp, q⟩
theorem itm_list {G : G3} {s : S3} {xs : List D} {vs : List V} {a : Addr} (h : SqL G.K s.F a vs) (r : RepL G.R s.F s.io xs vs) : Itm G s xs (Itl G.K a) := by
  have up : ∀ (s' : S3), Same s.F s'.F → Same s'.F s'.H → SqL G.K s'.H a vs := fun s' h1 h2 => same_sqL h2 (same_sqL h1 h)
  refine ⟨fun s' h1 h2 h3 i hi => ?_, fun s' h1 h2 h3 i x H' hi y => ?_, fun s' h1 h2 h3 i hi => ⟨vs, up s' h2 h3, by rw [← r.length]; exact hi⟩⟩
  · obtain ⟨v, e, _⟩ := r.get (List.getElem?_eq_getElem hi)
    exact ⟨vs, v, up s' h2 h3, e⟩
  · obtain ⟨e, y⟩ := y
    obtain ⟨d, e2, rd⟩ := r.get' (y vs (up s' h2 h3))
    exact ⟨e, d, e2, rd.mono h2 h1⟩
theorem itm_tup {G : G3} {s : S3} {xs : List D} {vs : List V} {a : Addr} (h : SqT G.K s.F a vs) (r : RepL G.R s.F s.io xs vs) : Itm G s xs (Itt G.K a) := by
  have up : ∀ (s' : S3), Same s.F s'.F → Same s'.F s'.H → SqT G.K s'.H a vs := fun s' h1 h2 => same_sqT h2 (same_sqT h1 h)
  refine ⟨fun s' h1 h2 h3 i hi => ?_, fun s' h1 h2 h3 i x H' hi y => ?_, fun s' h1 h2 h3 i hi => ⟨vs, up s' h2 h3, by rw [← r.length]; exact hi⟩⟩
  · obtain ⟨v, e, _⟩ := r.get (List.getElem?_eq_getElem hi)
    exact ⟨vs, v, up s' h2 h3, e⟩
  · obtain ⟨e, y⟩ := y
    obtain ⟨d, e2, rd⟩ := r.get' (y vs (up s' h2 h3))
    exact ⟨e, d, e2, rd.mono h2 h1⟩
theorem itm_str {G : G3} {s : S3} (y : Str) : Itm G s (y.cps.toList.map fun c => .str ⟨#[c]⟩) (Its y) := by
  have hl : (y.cps.toList.map fun c => D.str ⟨#[c]⟩).length = y.cps.size := by simp
  refine ⟨fun s' h1 h2 h3 i hi => by rw [hl] at hi; exact hi, fun s' h1 h2 h3 i x H' hi y' => ?_, fun s' h1 h2 h3 i hi => by rw [hl] at hi; exact hi⟩
  obtain ⟨e, c, ec, rfl⟩ := y'
  exact ⟨e, .str ⟨#[c]⟩, by rw [List.getElem?_map, Array.getElem?_toList, ec]; rfl, .str⟩
theorem mi_seq (h : ME P l m) : MI P tg l (iSeq m) := by
  obtain ⟨t, pt, ht⟩ := h.out
  refine MI.mk' (pi_seq3 pt) fun B0 B s st u z R wd sl hp => ht B0 B s st u z _ wd sl (Post.bind hp fun w st1 s1 v l1 wd1 r1 h1 => ?_)
  cases w with
  | val d =>
    obtain ⟨xs, e, h1⟩ := of_eq h1
    rw [P.hK]
    cases r1 with
    | str => cases e; exact .inl ⟨_, rfl, h1.pure wd1 (itm_str _)⟩
    | tup hq rl => cases e; exact .inr ⟨_, rfl, .inr ⟨⟨_, (hq.mono wd1.sub).sq⟩, h1.pure wd1 (itm_tup hq.sq rl)⟩⟩
    | lst hq rl => cases e; exact .inr ⟨_, rfl, .inl ⟨⟨_, .inl (.inl (wd1.sub _ _ hq))⟩, h1.pure wd1 (itm_list (.inl (.inl hq)) rl)⟩⟩
    | ctup hq rl => cases e; exact .inr ⟨_, rfl, .inr ⟨⟨_, same_sqT wd1.sub hq⟩, h1.pure wd1 (itm_tup hq rl)⟩⟩
    | ro hq rl => cases e; exact .inr ⟨_, rfl, .inl ⟨⟨_, same_sqL wd1.sub hq⟩, h1.pure wd1 (itm_list hq rl)⟩⟩
    | _ => cases e
  | _ => exact h1.elim
/-- over range -/
def rangeD (lo : Int) (n : Nat) : List D := (List.range n).map fun (i : Nat) => D.int (lo + (i : Int))
def rng1 (ws : List W) : Option (List D) := match ws with
  | [.val (.int j)] => if -1000000 ≤ j ∧ j ≤ 1000000 then some (rangeD 0 j.toNat) else none
  | _ => none
def rng2 (ws : List W) : Option (List D) := match ws with
  | [.val (.int i), .val (.int j)] => if -1000000 ≤ i ∧ i ≤ 1000000 ∧ -1000000 ≤ j ∧ j ≤ 1000000 then some (rangeD i (j - i).toNat) else none
  | _ => none
def iRange1 (m : AM) : FM := fun u => M.bind (m u) fun ws => M.of (rng1 ws)
def iRange2 (m : AM) : FM := fun u => M.bind (m u) fun ws => M.of (rng2 ws)
theorem itm_range {G : G3} {s : S3} (lo : Int) (n : Nat) : Itm G s (rangeD lo n) (Itr lo n) := by
  have hl : (rangeD lo n).length = n := by simp [rangeD]
  refine ⟨fun s' h1 h2 h3 i hi => by rw [hl] at hi; exact hi, fun s' h1 h2 h3 i x H' hi y => ?_, fun s' h1 h2 h3 i hi => by rw [hl] at hi; exact hi⟩
  obtain ⟨e, rfl⟩ := y
  rw [hl] at hi
  exact ⟨e, _, by simp [rangeD, hi], .int⟩
theorem mi_range1 {a : Expr} {ma : AM} (hg : Gl P.X "range") (hm : P.X.mg "range" = none) (ha : MA P [a] ma) (hs : starEach [a] P.X.env = [(false, eval a P.X.env)] := by rfl) : MI P tg (.Call (.Name "range" p) [a] [] pos) (iRange1 ma) := by
  obtain ⟨t, pt, ht⟩ := ha.out
  refine MI.mk' (pi_range1 hg hm pt hs) fun B0 B s st u z R wd sl hp => ht B0 B s st u z _ wd sl (Post.bind hp fun ws st1 s1 v l1 wd1 r1 h1 => ?_)
  obtain ⟨xs, e, h1⟩ := of_eq h1
  unfold rng1 at e
  split at e
  · rename_i j
    cases r1 with
    | cons r rr =>
      cases rr
      cases r
      split at e
      · rename_i hc
        cases e
        exact ⟨j, rfl, by omega, by omega, h1.pure wd1 (itm_range 0 _)⟩
      · cases e
  · cases e
theorem mi_range2 {a b : Expr} {ma : AM} (hg : Gl P.X "range") (hm : P.X.mg "range" = none) (ha : MA P [a, b] ma) (hs : starEach [a, b] P.X.env = [(false, eval a P.X.env), (false, eval b P.X.env)] := by rfl) (hs2 : starEach [b] P.X.env = [(false, eval b P.X.env)] := by rfl) :
    MI P tg (.Call (.Name "range" p) [a, b] [] pos) (iRange2 ma) := by
  obtain ⟨t, pt, ht⟩ := ha.out
  refine MI.mk' (pi_range2 hg hm pt hs hs2) fun B0 B s st u z R wd sl hp => ht B0 B s st u z _ wd sl (Post.bind hp fun ws st1 s1 v l1 wd1 r1 h1 => ?_)
  obtain ⟨xs, e, h1⟩ := of_eq h1
  unfold rng2 at e
  split at e
  · rename_i i j
    cases r1 with
    | cons r rr =>
      cases rr with
      | cons r2 rr =>
        cases rr
        cases r
        cases r2
        split at e
        · rename_i hc
          cases e
          exact ⟨i, j, rfl, ⟨by omega, by omega, by omega, by omega⟩, h1.pure wd1 (itm_range i _)⟩
        · cases e
  · cases e
end

/-! ### for, while -/
def forL (g : GM) (b : SM) : List D → SM
  | [], u, st => .nx u st
  | d :: ds, u, st => match g d u with
    | none => .bad
    | some u1 => match b u1 st with
      | .nx u2 st2 => forL g b ds u2 st2
      | .ct u2 st2 => forL g b ds u2 st2
      | .bk u2 st2 => .nx u2 st2
      | r => r
def sFor (m : FM) (g : GM) (b : SM) : SM := fun u st => match m u st with
  | .ok ds st' => forL g b ds u st'
  | .err c x st' => .err c x u st'
  | .bad => .bad
def whileL (c : TM) (b : SM) : Nat → SM
  | 0, _, _ => .bad
  | n + 1, u, st => match c u st with
    | .ok true st1 => match b u st1 with
      | .nx u2 st2 => whileL c b n u2 st2
      | .ct u2 st2 => whileL c b n u2 st2
      | .bk u2 st2 => .nx u2 st2
      | r => r
    | .ok false st1 => .nx u st1
    | .err c x st1 => .err c x u st1
    | .bad => .bad
section
variable {P : P3} {pos : Pos}
theorem ms_for {tg iter : Expr} {body : List Stmt} {mi : FM} {g : GM} {gs : List Nat} {mb : SM} (hp : PassesOwn (model P.X.prog P.X.w) P.X.A P.X.env P.X.xe) (hc : P.X.calm = true) (hi : MI P tg iter mi) (hg : MG P tg g gs) (hb : MSs P body mb)
    (hs : ∀ x, foldedSetIterable iter P.X.env x = pure x := by intro _; rfl) : MS P (.For tg iter body [] pos) (sFor mi g mb) := by
  obtain ⟨ti, pi, hti⟩ := hi.out
  obtain ⟨tb, pb, htb⟩ := hb.out
  refine MS.mk' (ps_for hp hc pi hg.pg pb hs) fun B0 B s o u z D b0 wd sl h => hti B0 B s o u z _ wd sl ?_
  unfold sFor at h
  cases e : mi u o with
  | bad => rw [e] at h; exact h
  | err c x st' => rw [e] at h; exact fun s' cv dd l w q => h B s' z cv dd b0 (l.less b0) w (sl.mono' l) q
  | ok ds st' =>
    rw [e] at h
    intro s1 J l1 w1 im
    have h := PostS.mono (l1.less b0) h
    refine ⟨fun i n z' H' => n = ds.length - i ∧ i ≤ ds.length ∧ ∃ (B' : Addr → Prop) (s' : S3) (o' : Store) (u' : Sl3), s'.H = H' ∧ (∀ a, B0 a → B' a) ∧ Le B0 s1 s' ∧ Wd P.G B' o' s' ∧ Slo P.G P.hx B0 B' s' u' z' ∧ PostS P.G P.hx P.wx B0 s' D (forL g mb (ds.drop i) u' o'),
      ⟨_, rfl, Nat.zero_le _, B, s1, st', u, rfl, b0, Le.refl _, w1, sl.mono' l1, h⟩, ?_⟩
    rintro i n z' H' ⟨rfl, hi, B', s', o', u', rfl, b0', l', w', sl', p⟩
    rcases Nat.lt_or_ge i ds.length with hlt | hge
    · right
      refine ⟨im.go s' l'.io l'.fr w'.sub i hlt, fun z2 H2 => i + 1 ≤ ds.length ∧ ∃ (B' : Addr → Prop) (s' : S3) (o' : Store) (u' : Sl3), s'.H = H2 ∧ (∀ a, B0 a → B' a) ∧ Le B0 s1 s' ∧ Wd P.G B' o' s' ∧ Slo P.G P.hx B0 B' s' u' z2 ∧ PostS P.G P.hx P.wx B0 s' D (forL g mb (ds.drop (i + 1)) u' o'),
        fun z2 H2 q => ⟨_, by omega, rfl, q.1, q.2⟩, fun x H2 y => ?_⟩
      obtain ⟨rfl, d, ed, rd⟩ := im.yld s' l'.io l'.fr w'.sub i x _ hlt y
      rw [List.drop_eq_getElem_cons hlt] at p
      have ed' : ds[i] = d := by rw [List.getElem?_eq_getElem hlt] at ed; cases ed; rfl
      rw [ed'] at p
      unfold forL at p
      cases eg : g d u' with
      | none => rw [eg] at p; exact p.elim
      | some u1 =>
        rw [eg] at p
        refine ⟨B0, B', s', o', u', d, u1, rfl, w', sl', rd, eg, fun z2 sl2 _ => ?_⟩
        refine htb B0 B' s' o' u1 z2 _ b0' w' sl2 ?_
        dsimp only at p
        cases eb : mb u1 o' with
        | nx u2 st2 => rw [eb] at p; exact fun B2 s2 z3 hb2 l2 w2 sl3 => ⟨hlt, B2, s2, st2, u2, rfl, hb2, l'.trans l2, w2, sl3, PostS.mono l2 p⟩
        | ct u2 st2 => rw [eb] at p; exact fun B2 s2 z3 hb2 l2 w2 sl3 => ⟨hlt, B2, s2, st2, u2, rfl, hb2, l'.trans l2, w2, sl3, PostS.mono l2 p⟩
        | bk u2 st2 => rw [eb] at p; exact p
        | rt w st2 => rw [eb] at p; exact p
        | err c x u2 st2 => rw [eb] at p; exact p
        | bad => rw [eb] at p; exact p
    · left
      have e0 : ds.drop i = [] := List.drop_eq_nil_of_le hge
      rw [e0] at p
      exact ⟨im.stop s' l'.io l'.fr w'.sub i hge, p B' s' z' b0' (Le.refl _) w' sl'⟩
theorem ms_while (n : Nat) {c : Expr} {body : List Stmt} {mc : TM} {mb : SM} (hp : PassesOwn (model P.X.prog P.X.w) P.X.A P.X.env P.X.xe) (hc : MT P c mc) (hb : MSs P body mb) : MS P (.While c body [] pos) (whileL mc mb n) := by
  obtain ⟨tc, pc, htc⟩ := hc.out
  obtain ⟨tb, pb, htb⟩ := hb.out
  refine MS.mk' (ps_while hp pc pb) fun B0 B s o u z D b0 wd sl h => ?_
  refine ⟨fun m z' H' => ∃ (B' : Addr → Prop) (s' : S3) (o' : Store) (u' : Sl3), s'.H = H' ∧ (∀ a, B0 a → B' a) ∧ Wd P.G B' o' s' ∧ Slo P.G P.hx B0 B' s' u' z' ∧ PostS P.G P.hx P.wx B0 s' D (whileL mc mb m u' o'), ⟨n, B, s, o, u, rfl, b0, wd, sl, h⟩, ?_⟩
  rintro m z' H' ⟨B', s', o', u', rfl, b0', w', sl', p⟩
  refine htc B0 B' s' o' u' z' _ w' sl' ?_
  cases m with
  | zero => exact p.elim
  | succ m =>
    unfold whileL at p
    cases ec : mc u' o' with
    | bad => rw [ec] at p; exact p
    | err c x st' => rw [ec] at p; exact fun s2 cv dd l w q => p B' s2 z' cv dd b0' (l.less b0') w (sl'.mono' l) q
    | ok k st' =>
      rw [ec] at p
      intro s2 k' l2 w2 r
      subst r
      cases k with
      | false => exact p B' s2 z' b0' (l2.less b0') w2 (sl'.mono' l2)
      | true =>
        have p := PostS.mono (l2.less b0') p
        rw [if_pos rfl]
        refine ⟨fun z3 H3 => ∃ (B' : Addr → Prop) (s' : S3) (o' : Store) (u' : Sl3), s'.H = H3 ∧ (∀ a, B0 a → B' a) ∧ Wd P.G B' o' s' ∧ Slo P.G P.hx B0 B' s' u' z3 ∧ PostS P.G P.hx P.wx B0 s' D (whileL mc mb m u' o'), fun z3 H3 q => ⟨m, Nat.lt_succ_self _, q⟩, ?_⟩
        refine htb B0 B' s2 st' u' z' _ b0' w2 (sl'.mono' l2) ?_
        dsimp only at p
        cases eb : mb u' st' with
        | nx u3 st3 => rw [eb] at p; exact fun B3 s3 z3 hb3 l3 w3 sl3 => ⟨B3, s3, st3, u3, rfl, hb3, w3, sl3, PostS.mono l3 p⟩
        | ct u3 st3 => rw [eb] at p; exact fun B3 s3 z3 hb3 l3 w3 sl3 => ⟨B3, s3, st3, u3, rfl, hb3, w3, sl3, PostS.mono l3 p⟩
        | bk u3 st3 => rw [eb] at p; exact p
        | rt w st3 => rw [eb] at p; exact p
        | err c x u3 st3 => rw [eb] at p; exact p
        | bad => rw [eb] at p; exact p
end
end M3


namespace M3
open PySem PySem.Spec PyProof.Rows L2

/-! ### list comprehensions -/
def wipe3 (u : Sl3) : List Nat → Sl3
  | [] => u
  | v :: vs => (wipe3 u vs).set v none
theorem Slo.wipe {G : G3} {X : Hex} {B0 B : Addr → Prop} {s : S3} {u : Sl3} {z : L2.St} (h : Slo G X B0 B s u z) : ∀ vs : List Nat, Slo G X B0 B s (wipe3 u vs) (L2.wipe z vs)
  | [] => h
  | v :: vs => (Slo.wipe h vs).del v none
/-- no exception leaves a comprehension -/
abbrev noW : WX := fun _ _ _ _ => False
abbrev P3.blk (P : P3) (s : Shared) (H : Hp) (scope : Scope) (C : Addr) (cl : List (Str × Addr)) (fp : List Addr) : P3 := ⟨P.X.blk s H scope (compEnvC scope cl C P.X.env) fp, P.G, P.hx, noW, P.hK, P.hw⟩
structure MIfs (P : P3) (ifs : List Expr) (m : TM) : Prop where
  pts : PTs P.X ifs (tT P.G P.hx P.wx m)
def tYes3 : TM := fun _ => M.pure true
theorem mifs_nil {P : P3} : MIfs P [] tYes3 :=
  ⟨⟨fun pins s0 z H Q I ⟨B0, B, s, st, u, e, wd, sl, p⟩ => by subst e; exact pts_nil.run pins s0 z _ Q I (p.pure wd rfl)⟩⟩
theorem mifs_one {P : P3} {c : Expr} {m : TM} (h : MT P c m) : MIfs P [c] m := ⟨pts_one h.pt⟩
/-- turn by turn; u0: the slots without the block's own -/
def lcL (g : GM) (c : TM) (e : EM) (u0 : Sl3) : List D → List D → M (List D)
  | [], acc => M.pure acc
  | d :: ds, acc => M.bind (M.of (g d u0)) fun u1 => M.bind (M.quiet (c u1)) fun k =>
    if k = true then M.bind (M.quiet (e u1)) fun w => M.bind (M.of w.d) fun x => M.bind (M.chk (acc.length < 1000000)) fun _ => lcL g c e u0 ds (acc ++ [x])
    else lcL g c e u0 ds acc
def fLc (mi : FM) (g : GM) (c : TM) (e : EM) (own : List Nat) : FM := fun u => M.bind (mi u) fun ds => lcL g c e (wipe3 u own) ds []
section
variable {P : P3} {pos : Pos}
theorem of_quiet {α : Type} {m : M α} {f : α → M (List D)} {st : Store} {G : G3} {B : Addr → Prop} {E : XK} {s : S3} {Q : VK} (h : PostF G B E s Q (M.bind (M.quiet m) f st)) : ∃ a st', m st = .ok a st' ∧ PostF G B E s Q (f a st') := by
  unfold M.bind M.quiet at h
  cases e : m st with
  | ok a st' => rw [e] at h; exact ⟨a, st', rfl, h⟩
  | err c x st' => rw [e] at h; exact h.elim
  | bad => rw [e] at h; exact h.elim
theorem plus_le {B : Addr → Prop} {p : Addr} {s s' : S3} (l : Le (plus B p) s s') : Le B s s' := l.less fun a b => .inl b
/-- the list that is being made grows by one -/
theorem grow_wd {G : G3} {B : Addr → Prop} {st : Store} {s : S3} {p : Addr} {vs : List V} {xs : List D} {d : D} {v : V} (w : Wd G (plus B p) st s) (nb : ¬ B p) (h : s.H p = some (.lst vs)) (o : HO) (nt : OwnH o := by exact ⟨fun _ q => (by cases q), fun _ _ q => (by first | exact dkO_code q | exact cellO_code q | (unfold LamX.CodeO at q; cases q))⟩) :
    Wd G (plus B p) st ⟨s.io, s.F, upd s.H p o⟩ ∧ Le B s ⟨s.io, s.F, upd s.H p o⟩ := by
  have hF := (w.hid p (.inr rfl)).1
  refine ⟨⟨fun b u e => ?_, fun a b => ?_, w.ftb, w.dom, w.inj, fun k u e t => ?_, w.untM (IoLe.refl _) (Same.refl _), w.tabM (Same.refl _) (upd_tbl (w.ntbl (.inr rfl)))⟩, IoLe.refl _, Same.refl _, fun a b => upd_ne fun z => by subst z; exact nb b⟩
  · show upd s.H p o b = some u
    rw [upd_ne (fun z => by subst z; have e : s.F b = some u := e; rw [hF] at e; cases e)]
    exact w.sub b u e
  · by_cases q : a = p
    · subst q; exact ⟨hF, o, upd_same, nt⟩
    · obtain ⟨h1, u, h2, h3⟩ := w.hid a b
      exact ⟨h1, u, by show upd s.H p o a = some u; rw [upd_ne q]; exact h2, h3⟩
  · obtain ⟨a, e1, b1, f1, o1⟩ := w.obj k u e t
    have na : a ≠ p := fun z => b1 (.inr z)
    exact ⟨a, e1, b1, f1, ObjR.mono (s := s) (s' := ⟨s.io, s.F, upd s.H p o⟩) (IoLe.refl _) (Same.refl _) (upd_ne na) o1⟩
theorem Slo.more {G : G3} {X : Hex} {B0 B B' : Addr → Prop} {s : S3} {u : Sl3} {z : L2.St} (h : Slo G X B0 B s u z) (hb : ∀ a, B a → B' a) : Slo G X B0 B' s u z := by
  obtain ⟨hl, ow, h1, h2⟩ := h
  exact ⟨hl, ow, fun i w e => let ⟨v, e1, r, q⟩ := h1 i w e; ⟨v, e1, r.wider hb, q⟩, h2⟩
theorem lc_ok {tgt iter elt : Expr} {ifs : List Expr} {mi : FM} {g : GM} {gs : List Nat} {c : TM} {e : EM} {own : List Nat} {ti : TI} (hgs : ∀ i ∈ gs, i ∈ own)
    (hti : ∀ (B0 B : Addr → Prop) (s : S3) (st : Store) (u : Sl3) (z : L2.St) (R : It → Hp → Prop), Wd P.G B st s → Slo P.G P.hx B0 B s u z → Post P.G B (fun s ds J => Itm P.G s ds J) (fun c d H => P.wx c d z H) s R (mi u st) → ti z s.H R)
    {B0 B : Addr → Prop} {s : S3} {st : Store} {u : Sl3} {z : L2.St} {Q : VK} (wd : Wd P.G B st s) (sl : Slo P.G P.hx B0 B s u z) (h : PostF P.G B (fun c d H => P.wx c d z H) s Q (fLc mi g c e own u st)) :
    tLc ti (tG P.G P.hx g gs) (tT P.G P.hx noW c) (tE P.G P.hx noW e) own z s.H Q := by
  refine hti B0 B s st u z _ wd sl (PostF.bind h fun ds st1 s1 J l1 wd1 im h1 => ?_)
  intro p hp
  obtain ⟨wd2, l2⟩ := own_wd (ho := .lst []) wd1 hp
  have nb : ¬ B p := wd1.freshB hp
  refine ⟨fun i n H' => n = ds.length - i ∧ i ≤ ds.length ∧ ∃ (s' : S3) (st' : Store) (acc : List D) (vs : List V), s'.H = H' ∧ Le B s1 s' ∧ Wd P.G (plus B p) st' s' ∧ s'.H p = some (.lst vs) ∧ RepL P.G.R s'.F s'.io acc vs ∧
      PostF P.G B (fun c d H => P.wx c d z H) s' Q (lcL g c e (wipe3 u own) (ds.drop i) acc st'),
    ⟨_, rfl, Nat.zero_le _, _, st1, [], [], rfl, l2, wd2, upd_same, .nil, PostF.mono l2 h1⟩, ?_⟩
  rintro i n H' ⟨rfl, hi, s', st', acc, vs, rfl, l', w', hq, rl, pf⟩
  rcases Nat.lt_or_ge i ds.length with hlt | hge
  · right
    refine ⟨im.go s' l'.io l'.fr w'.sub i hlt, fun H2 => i + 1 ≤ ds.length ∧ ∃ (s' : S3) (st' : Store) (acc : List D) (vs : List V), s'.H = H2 ∧ Le B s1 s' ∧ Wd P.G (plus B p) st' s' ∧ s'.H p = some (.lst vs) ∧ RepL P.G.R s'.F s'.io acc vs ∧
      PostF P.G B (fun c d H => P.wx c d z H) s' Q (lcL g c e (wipe3 u own) (ds.drop (i + 1)) acc st'), fun H2 q => ⟨_, by omega, rfl, q.1, q.2⟩, fun x H2 y => ?_⟩
    obtain ⟨rfl, d, ed, rd⟩ := im.yld s' l'.io l'.fr w'.sub i x _ hlt y
    rw [List.drop_eq_getElem_cons hlt] at pf
    have ed' : ds[i] = d := by rw [List.getElem?_eq_getElem hlt] at ed; cases ed; rfl
    rw [ed'] at pf
    unfold lcL at pf
    obtain ⟨u1, eg, pf⟩ := PostF.of_of pf
    have slw : Slo P.G P.hx B0 (plus B p) s' (wipe3 u own) (L2.wipe z own) := ((sl.mono' (l1.trans l')).more fun a b => .inl b).wipe own
    refine ⟨B0, plus B p, s', st', wipe3 u own, d, u1, rfl, w', slw, rd, eg, fun z2 sl2 b2 => ⟨?_, ?_⟩⟩
    · rw [b2.wipe hgs, wipe_wipe]
    · obtain ⟨k, st3, ek, pf⟩ := of_quiet pf
      refine ⟨B0, plus B p, s', st', u1, rfl, w', sl2, ?_⟩
      rw [ek]
      intro s3 k' l3 w3 rk
      subst rk
      have hq3 : s3.H p = some (.lst vs) := (l3.hid p (.inr rfl)).trans hq
      have rl3 := rl.mono l3.fr l3.io
      have pf := PostF.mono (plus_le l3) pf
      cases k with
      | false => exact ⟨hlt, s3, st3, acc, vs, rfl, l'.trans (plus_le l3), w3, hq3, rl3, pf⟩
      | true =>
        rw [if_pos rfl] at pf
        obtain ⟨w, st4, ew, pf⟩ := of_quiet pf
        rw [if_pos rfl]
        refine ⟨B0, plus B p, s3, st3, u1, rfl, w3, sl2.mono' l3, ?_⟩
        rw [ew]
        intro s4 v4 l4 w4 r4
        obtain ⟨x4, ex, pf⟩ := PostF.of_of pf
        obtain ⟨hz, pf⟩ := PostF.of_chk pf
        have hq4 : s4.H p = some (.lst vs) := (l4.hid p (.inr rfl)).trans hq3
        have rl4 := rl3.mono l4.fr l4.io
        have rx : Rep P.G.R s4.F s4.io x4 v4 := by
          cases w with
          | val d => cases ex; exact r4
          | _ => cases ex
        obtain ⟨w5, l5⟩ := grow_wd (xs := []) (d := .non) (v := .non) w4 nb hq4 (.lst (vs ++ [v4]))
        exact ⟨vs, hq4, by rw [← rl4.length]; exact szl hz, hlt, _, st4, acc ++ [x4], vs ++ [v4], rfl, ((l'.trans (plus_le l3)).trans (plus_le l4)).trans l5, w5, upd_same, rl4.append (.cons rx .nil), PostF.mono ((plus_le l4).trans l5) pf⟩
  · left
    have e0 : ds.drop i = [] := List.drop_eq_nil_of_le hge
    rw [e0] at pf
    exact ⟨im.stop s' l'.io l'.fr w'.sub i hge, pf s' p vs (Le.refl _) w' nb hq rl⟩
where
  wipe_wipe {z : L2.St} {vs : List Nat} : L2.wipe (L2.wipe z vs) vs = L2.wipe z vs := by
    apply List.ext_getElem?
    intro i
    by_cases hi : i ∈ vs
    · by_cases hl : i < z.length
      · rw [wipe_in hi (by rw [wipe_length]; exact hl), wipe_in hi hl]
      · rw [List.getElem?_eq_none (by rw [wipe_length, wipe_length]; omega), List.getElem?_eq_none (by rw [wipe_length]; omega)]
    · rw [wipe_out hi]
theorem mf_lc {elt tg iter : Expr} {ifs : List Expr} {scope : Scope} {own : List (Str × Nat)} {mi : FM} {g : GM} {gs : List Nat} {c : TM} {m : EM} (hc : P.X.calm = true) (hN : P.X.N.Nodup) (hi : MI P tg iter mi) (ok : BlkOk P.X.N P.X.env.scope scope own)
    (hg : ∀ (s : Shared) (H : Hp) (C : Addr) (cl : List (Str × Addr)) (fp : List Addr), MG (P.blk s H scope C cl fp) tg g gs) (ht : ∀ (s : Shared) (H : Hp) (C : Addr) (cl : List (Str × Addr)) (fp : List Addr), MIfs (P.blk s H scope C cl fp) ifs c)
    (he : ∀ (s : Shared) (H : Hp) (C : Addr) (cl : List (Str × Addr)) (fp : List Addr), ME (P.blk s H scope C cl fp) elt m) (hgs : ∀ i ∈ gs, i ∈ own.map (·.2) := by decide) (hs : ∀ x, foldedSetIterable iter P.X.env x = pure x := by intro _; rfl) :
    MF P (.ListComp elt [⟨tg, iter, ifs, 0⟩] scope pos) (fLc mi g c m (own.map (·.2))) := by
  obtain ⟨ti, pi, hti⟩ := hi.out
  refine MF.mk' (pe_lc (own := own) (g := tG P.G P.hx g gs) (tt := tT P.G P.hx noW c) (te := tE P.G P.hx noW m) hc hN pi ok (fun s H C cl fp => (hg s H C cl fp).pg) (fun s H C cl fp => (ht s H C cl fp).pts) (fun s H C cl fp => (he s H C cl fp).pe) hs) fun B0 B s st u z Q wd sl h => ?_
  exact lc_ok (tgt := tg) (iter := iter) (elt := elt) (ifs := ifs) hgs hti wd sl h
/-- x = [..] on one line -/
theorem ms_setLc {i : Nat} {y : Str} {py spos : Pos} {elt tg iter : Expr} {ifs : List Expr} {scope : Scope} {own : List (Str × Nat)} {mi : FM} {g : GM} {gs : List Nat} {c : TM} {m : EM} (hc : P.X.calm = true) (hN : P.X.N.Nodup) (hi : MI P tg iter mi) (ok : BlkOk P.X.N P.X.env.scope scope own)
    (hg : ∀ (s : Shared) (H : Hp) (C : Addr) (cl : List (Str × Addr)) (fp : List Addr), MG (P.blk s H scope C cl fp) tg g gs) (ht : ∀ (s : Shared) (H : Hp) (C : Addr) (cl : List (Str × Addr)) (fp : List Addr), MIfs (P.blk s H scope C cl fp) ifs c)
    (he : ∀ (s : Shared) (H : Hp) (C : Addr) (cl : List (Str × Addr)) (fp : List Addr), ME (P.blk s H scope C cl fp) elt m)
    (hsw : swapsWith (.ListComp elt [⟨tg, iter, ifs, 0⟩] scope pos) (some (.Name y py)) spos.line P.X.env = pure true) (hy : P.X.N[i]? = some y := by rfl) (hyl : P.X.env.scope.names.lookup y = some .local := by rfl)
    (hgs : ∀ i ∈ gs, i ∈ own.map (·.2) := by decide) (hs : ∀ x, foldedSetIterable iter P.X.env x = pure x := by intro _; rfl) :
    MS P (.Assign [.Name y py] (.ListComp elt [⟨tg, iter, ifs, 0⟩] scope pos) spos) (sSet i (eF (fLc mi g c m (own.map (·.2))))) := by
  obtain ⟨ti, pi, hti⟩ := hi.out
  refine MS.mk' (ps_setLc (own := own) (g := tG P.G P.hx g gs) (tt := tT P.G P.hx noW c) (te := tE P.G P.hx noW m) hc hN hy hyl hsw pi ok (fun s H C cl fp => (hg s H C cl fp).pg) (fun s H C cl fp => (ht s H C cl fp).pts) (fun s H C cl fp => (he s H C cl fp).pe) hs) fun B0 B s o u z D b0 wd sl h => ?_
  refine lc_ok (tgt := tg) (iter := iter) (elt := elt) (ifs := ifs) hgs hti wd sl ?_
  unfold sSet eF M.bind at h
  cases e : fLc mi g c m (own.map (·.2)) u o with
  | ok xs st' =>
    rw [e] at h
    dsimp only [M.pure] at h
    exact fun s' p vs l w nb hp r => h B ⟨s'.io, upd s'.F p (.lst vs), s'.H⟩ _ b0 ((l.trans (freeze_le w)).less b0) (freeze_wd w nb hp) ((sl.mono' (l.trans (freeze_le w))).set (.lst upd_same (r.mono (freeze_le w).fr (freeze_le w).io)) i)
  | err c x st' => rw [e] at h; exact fun s' cv dd l w q => h B s' z cv dd b0 (l.less b0) w (sl.mono' l) q
  | bad => rw [e] at h; exact h
end
end M3


namespace M3
open PySem PySem.Spec PyProof.Rows L2

/-! ### a def and its mirror -/
def mfn (N : Nat) (mb : SM) : List D → M D := fun ds st => match mb (ds.map (fun d => some (.val d)) ++ List.replicate (N - ds.length) none) st with
  | .nx _ st' => .ok .non st'
  | .rt (.val d) st' => .ok d st'
  | .rt (.bor xs) st' => .ok (.lst xs) st'
  | .err c x _ st' => .err c x st'
  | _ => .bad
/-- the promise: it hands back what the mirror says -/
def spM (G : G3) (n : Nat) (m : List D → M D) : Sp := fun vs H Q E => vs.length = n ∧ ∃ (B : Addr → Prop) (s : S3) (st : Store) (ds : List D), s.H = H ∧ Wd G B st s ∧ RepL G.R s.F s.io ds vs ∧
  Post G B (fun s d v => Rep G.R s.F s.io d v) E s Q (m ds st)
theorem slo_start {G : G3} {X : Hex} {B0 B : Addr → Prop} {s : S3} {N : List Str} {ds : List D} {vs : List V} (r : RepL G.R s.F s.io ds vs) :
    Slo G X B0 B s (ds.map (fun d => some (.val d)) ++ List.replicate (N.length - ds.length) none) (L2.start N vs) := by
  have hl := r.length
  have none_ : ∀ {i : Nat} {w : M3.W}, (ds.map (fun d => some (M3.W.val d)) ++ List.replicate (N.length - ds.length) none)[i]? = some (some w) → ∃ d, ds[i]? = some d ∧ w = .val d := fun {i w} e => by
    by_cases hi : i < ds.length
    · rw [List.getElem?_append_left (by simpa using hi), List.getElem?_map] at e
      cases h : ds[i]? with
      | none => rw [h] at e; cases e
      | some d => rw [h] at e; cases e; exact ⟨d, rfl, rfl⟩
    · rw [List.getElem?_append_right (by simpa using hi), List.getElem?_replicate] at e
      split at e <;> cases e
  refine ⟨by unfold L2.start; simp [hl], fun _ => 0, fun i w e => ?_, fun i j w w' o1 o2 e1 e2 _ => ?_⟩
  · obtain ⟨d, e1, rfl⟩ := none_ e
    obtain ⟨v, e2, rv⟩ := r.get e1
    refine ⟨v, ?_, rv, fun q => by cases q⟩
    unfold L2.start
    have hi : i < vs.length := (List.getElem?_eq_some_iff.mp e2).1
    rw [List.getElem?_append_left (by simpa using hi), List.getElem?_map, e2]
    rfl
  · obtain ⟨d, _, q⟩ := none_ e1
    subst q; cases o1
section
variable {P : Program} {w : World} {K : PySem.W.Frag} {mg : Str → Option Value} {base : Heap}
theorem fn_ok {G : G3} (hK : K = G.K) (hw : w = G.w) {x qual : Str} {st : Stmt} {f : Addr} {fd : FuncData} {N ps : List Str} {k : Nat} {mb : SM} (F : Fun K x qual st f fd) (S : FnScope N ps (defScope st))
    (h : ∀ (cdv : Value) (A : Around) (outer : List Env) (s : Shared) (H : Hp) (E : XK), Room k (A.deeper (envOfC qual (defScope st) s.heap.objs.size f cdv)) →
      MSs ⟨cxOf (L2.CX P w) P w K mg base N qual (defScope st) f cdv A outer s H E, G, none, fun cls d _ H => E cls d H, hK, hw⟩ (defBody st) mb) :
    FnOk P w K mg base (L2.CX P w) (k + 1) f fd ps (spM G ps.length (mfn N.length mb)) := by
  refine F.okX S (fun vs H Q E h => h.1) fun cdv A outer s0 H vs Q E hr ⟨hl, B, s, o, ds, e, wd, rl, hp⟩ => ?_
  subst e
  obtain ⟨t, pt, ht⟩ := (h cdv A outer s0 s.H E hr).out
  refine ⟨t, pt, ht B B s o _ _ _ (fun _ b => b) wd (slo_start (N := N) rl) ?_⟩
  unfold mfn at hp
  have hlen : ds.map (fun d => some (M3.W.val d)) ++ List.replicate (N.length - ds.length) none = ds.map (fun d => some (M3.W.val d)) ++ List.replicate (N.length - ds.length) none := rfl
  cases em : mb (ds.map (fun d => some (.val d)) ++ List.replicate (N.length - ds.length) none) o with
  | nx u' st' => rw [em] at hp; exact fun B' s' z' b l w sl => hp s' .non l (w.less b) .non
  | rt w st' =>
    rw [em] at hp
    cases w with
    | val d => exact fun B' s' v b l w r => hp s' v l (w.less b) r
    | bor xs =>
      rintro B' s' v b l w ⟨p, vs', rfl, bp, nb, hq, r⟩
      have w' : Wd G (plus B p) st' s' := w.less fun a q => q.elim (b a) fun z => z ▸ bp
      exact hp ⟨s'.io, upd s'.F p (.lst vs'), s'.H⟩ (.ref p) (l.trans (freeze_le w')) (freeze_wd w' nb hq) (.lst upd_same (r.mono (freeze_le w').fr (freeze_le w').io))
    | bod ks us => exact hp.elim
    | bdd ks us => exact hp.elim
    | exn c x => exact hp.elim
    | len xs => exact hp.elim
  | bk u' st' => rw [em] at hp; exact hp.elim
  | ct u' st' => rw [em] at hp; exact hp.elim
  | err c x u' st' => rw [em] at hp; exact fun B' s' z' cv dd b l w sl q => hp s' cv dd l (w.less b) q
  | bad => rw [em] at hp; exact hp.elim
end

/-! ### calls of own defs -/
def eCall (n : Nat) (m : List D → M D) (ma : AM) : EM := fun u => M.bind (ma u) fun ws => M.bind (M.of (asDs ws)) fun ds => M.bind (M.chk (ds.length = n)) fun _ => M.bind (m ds) fun d => M.pure (.val d)
section
variable {P : P3} {pos p : Pos} {x : Str} {e : Expr} {es : List Expr} {ma : AM} {m : List D → M D} {k j n : Nat} {f : Addr} {fd : FuncData} {ps : List Str}
/-- a def of the top that may be called: where it stands, its mirror -/
structure Cal (Pg : Program) (w : World) (K : PySem.W.Frag) (mg : Str → Option Value) (base : Heap) (G : G3) (k : Nat) (x : Str) (n : Nat) (m : List D → M D) : Prop where
  ex : ∃ f fd ps, mg x = some (.ref f) ∧ PySem.W.keepIn K (.ref f) = true ∧ Binds K fd ps [] ∧ ps.length = n ∧ FnOk Pg w K mg base (L2.CX Pg w) k f fd ps (spM G n m)
theorem me_call (c : Cal P.X.prog P.X.w P.X.K P.X.mg P.X.base P.G k x n m) (hr : Room j P.X.A) (hk : k ≤ j) (tk : Takes P.X P.wx) (hg : Gl P.X x) (ha : MA P (e :: es) ma)
    (hdb : (x == ("__debug__" : Str)) = false := by decide) (he : starEach (e :: es) P.X.env = (false, eval e P.X.env) :: starEach es P.X.env := by rfl) (hpl : (backTo pos (starEach es P.X.env)).any (·.1) = false := by rfl) :
    ME P (.Call (.Name x p) (e :: es) [] pos) (eCall n m ma) := by
  obtain ⟨f, fd, ps, hm, hkp, hb, hn, F⟩ := c.ex
  obtain ⟨t, pt, ht⟩ := ha.out
  refine ME.mk' (pe_callS F (hr.mono hk) hg hm hkp hb (fun σ => passAt tk σ) pt hdb he hpl) fun B0 B s st u z Q wd sl h => ht B0 B s st u z _ wd sl (Post.bind h fun ws st1 s1 vs l1 wd1 r1 h1 => ?_)
  obtain ⟨ds, e, h1⟩ := Post.of_of h1
  obtain ⟨hl, h1⟩ := Post.of_chk h1
  have rl := asDs_ok r1 e
  refine ⟨by rw [← rl.length]; exact hl, B, s1, st1, ds, rfl, wd1, rl, ?_⟩
  unfold M.bind at h1
  cases em : m ds st1 with
  | ok d st' => rw [em] at h1; exact fun s' v l w r => h1 s' v l w r
  | err c x st' => rw [em] at h1; exact h1
  | bad => rw [em] at h1; exact h1
end

/-! ### calls of built-ins -/
def CallM (P : P3) (f : Value) (g : List W → Option W) : Prop := ∃ r, CallR P.X f r ∧ ∀ (B : Addr → Prop) (s : S3) (st : Store) (ws : List W) (w : W) (vs : List V) (Q : VK), Wd P.G B st s → RepWs P.G P.hx B s ws vs →
  g ws = some w → (∀ (s' : S3) (v : V), Le B s s' → Wd P.G B st s' → RepW P.G P.hx B s' w v → Q v s'.H) → r vs s.H Q
/-- .. that give a new list -/
def CallF (P : P3) (f : Value) (g : List W → Option (List D)) : Prop := ∃ r, CallR P.X f r ∧ ∀ (B : Addr → Prop) (s : S3) (st : Store) (ws : List W) (xs : List D) (vs : List V) (Q : VK), Wd P.G B st s → RepWs P.G P.hx B s ws vs →
  g ws = some xs → (∀ (us : List V) (p : Addr), RepL P.G.R s.F s.io xs us → s.H p = none → Q (.ref p) (upd s.H p (.lst us))) → r vs s.H Q
def eB (g : List W → Option W) (ma : AM) : EM := fun u => M.bind (ma u) fun ws => M.of (g ws)
def fB (g : List W → Option (List D)) (ma : AM) : FM := fun u => M.bind (ma u) fun ws => M.of (g ws)
section
variable {P : P3} {pos p : Pos} {x : Str} {e : Expr} {es : List Expr} {ma : AM} {id T : String} {g : List W → Option W} {gf : List W → Option (List D)}
theorem me_callB (hc : CallM P (.builtin id) g) (hg : Gl P.X x) (hm : P.X.mg x = none) (hv : bootBuiltins x = some (.builtin id)) (ha : MA P (e :: es) ma) (hn : x ≠ "__name__" := by decide) (hdb : (x == ("__debug__" : Str)) = false := by decide)
    (he : starEach (e :: es) P.X.env = (false, eval e P.X.env) :: starEach es P.X.env := by rfl) (hpl : (backTo pos (starEach es P.X.env)).any (·.1) = false := by rfl) : ME P (.Call (.Name x p) (e :: es) [] pos) (eB g ma) := by
  obtain ⟨t, pt, ht⟩ := ha.out
  obtain ⟨r, hr, hq⟩ := hc
  refine ME.mk' (pe_callB hr hg hm hv pt hn hdb he hpl) fun B0 B s st u z Q wd sl h => ht B0 B s st u z _ wd sl (Post.bind h fun ws st1 s1 vs l1 wd1 r1 h1 => ?_)
  obtain ⟨w, e, h1⟩ := of_eq h1
  exact hq B s1 st1 ws w vs Q wd1 r1 e fun s' v l w' r => h1 s' v l w' r
theorem me_callTy (hc : CallM P (.type T) g) (hg : Gl P.X x) (hm : P.X.mg x = none) (hv : bootBuiltins x = some (.type T)) (ha : MA P (e :: es) ma) (hn : x ≠ "__name__" := by decide) (hdb : (x == ("__debug__" : Str)) = false := by decide)
    (he : starEach (e :: es) P.X.env = (false, eval e P.X.env) :: starEach es P.X.env := by rfl) (hpl : (backTo pos (starEach es P.X.env)).any (·.1) = false := by rfl) : ME P (.Call (.Name x p) (e :: es) [] pos) (eB g ma) := by
  obtain ⟨t, pt, ht⟩ := ha.out
  obtain ⟨r, hr, hq⟩ := hc
  refine ME.mk' (pe_callTy hr hg hm hv pt hn hdb he hpl) fun B0 B s st u z Q wd sl h => ht B0 B s st u z _ wd sl (Post.bind h fun ws st1 s1 vs l1 wd1 r1 h1 => ?_)
  obtain ⟨w, e, h1⟩ := of_eq h1
  exact hq B s1 st1 ws w vs Q wd1 r1 e fun s' v l w' r => h1 s' v l w' r
theorem mf_callTy (hc : CallF P (.type T) gf) (hg : Gl P.X x) (hm : P.X.mg x = none) (hv : bootBuiltins x = some (.type T)) (ha : MA P (e :: es) ma) (hn : x ≠ "__name__" := by decide) (hdb : (x == ("__debug__" : Str)) = false := by decide)
    (he : starEach (e :: es) P.X.env = (false, eval e P.X.env) :: starEach es P.X.env := by rfl) (hpl : (backTo pos (starEach es P.X.env)).any (·.1) = false := by rfl) : MF P (.Call (.Name x p) (e :: es) [] pos) (fB gf ma) := by
  obtain ⟨t, pt, ht⟩ := ha.out
  obtain ⟨r, hr, hq⟩ := hc
  refine MF.mk' (pe_callTy hr hg hm hv pt hn hdb he hpl) fun B0 B s st u z Q wd sl h => ht B0 B s st u z _ wd sl (PostF.bind h fun ws st1 s1 vs l1 wd1 r1 h1 => ?_)
  cases e : gf ws with
  | none => rw [e] at h1; exact h1.elim
  | some xs => rw [e] at h1; exact hq B s1 st1 ws xs vs Q wd1 r1 e fun us p rl hp => PostF.fresh h1 wd1 rl hp
/-! len, int, tuple, list, isinstance, all, any -/
def lenF : List W → Option W
  | [.val (.str z)] => if z.length ≤ 1000000 then some (.val (.int z.length)) else none
  | [w] => (w.rd.bind D.items).map fun xs => .val (.int xs.length)
  | _ => none
theorem cm_len : CallM P (.builtin "len") lenF := by
  have hS : CallR P.X (.builtin "len") _ := call_len_str
  have hQ : CallR P.X (.builtin "len") _ := call_len_seq
  refine ⟨fun xs H Q => (∃ z, xs = [.str z] ∧ z.length ≤ sizeLine ∧ Q (.int z.length) H) ∨ ∃ p ys, xs = [.ref p] ∧ (SqL P.X.K H p ys ∨ SqT P.X.K H p ys) ∧ Q (.int ys.length) H, ?_, fun B s st ws w vs Q wd r e k => ?_⟩
  · intro pins s z H xs us Q I r h
    rcases h with h | h
    · exact hS pins s z H xs us Q I r h
    · exact hQ pins s z H xs us Q I r h
  · unfold lenF at e
    split at e
    · split at e
      · rename_i hz
        cases e
        cases r with
        | cons r rr => cases rr; cases r; exact .inl ⟨_, rfl, szL hz, k s _ (Le.refl _) wd .int⟩
      · cases e
    · rename_i w0 _
      cases r with
      | cons r rr =>
        cases rr
        cases h1 : w0.rd with
        | none => rw [h1] at e; cases e
        | some d =>
          rw [h1, Option.bind_some] at e
          cases h2 : d.items with
          | none => rw [h2] at e; cases e
          | some xs =>
            rw [h2] at e
            cases e
            obtain ⟨p, us, rfl, hq, rl⟩ := items_ok wd r h1 h2
            exact .inr ⟨p, us, rfl, hq, by rw [← rl.length]; exact k s _ (Le.refl _) wd .int⟩
    · cases e
def intCF : List W → Option W
  | [.val (.int i)] => some (.val (.int i))
  | [.val (.bl b)] => some (.val (.int (if b then 1 else 0)))
  | [.val (.str x)] => if x.length ≤ 640 then (PySem.intText? x).map fun i => .val (.int i) else none
  | _ => none
/-- int(x), x a number, a truth value, a text -/
theorem cr_int : CallR P.X (.type "int") (fun xs H Q => ((∃ i, xs = [.int i] ∧ Q (.int i) H) ∨ ∃ k, xs = [.bl k] ∧ Q (.int (if k then 1 else 0)) H) ∨ ∃ x i, xs = [.str x] ∧ x.length ≤ 640 ∧ PySem.intText? x = some i ∧ Q (.int i) H) := by
  have old : CallR P.X (.type "int") _ := call_int1
  intro pins s σ H xs us Q I r h
  rcases h with h | ⟨x, i, rfl, hl, hn, q⟩
  · exact old pins s σ H xs us Q I r h
  · obtain ⟨u, rfl, t, rfl⟩ := vals1 r
    exact PySem.W.KIN.call_text hn hl ⟨.int i, H, I.tok _, ⟨_, rfl⟩, q⟩
theorem cm_int : CallM P (.type "int") intCF := by
  refine ⟨_, cr_int, fun B s st ws w vs Q wd r e k => ?_⟩
  unfold intCF at e
  split at e
  · cases e
    cases r with
    | cons r rr => cases rr; cases r; exact .inl (.inl ⟨_, rfl, k s _ (Le.refl _) wd .int⟩)
  · cases e
    cases r with
    | cons r rr => cases rr; cases r; exact .inl (.inr ⟨_, rfl, k s _ (Le.refl _) wd .int⟩)
  · rename_i x
    split at e
    · rename_i hl
      cases hn : PySem.intText? x with
      | none => rw [hn] at e; cases e
      | some i =>
        rw [hn] at e
        cases e
        cases r with
        | cons r rr => cases rr; cases r; exact .inr ⟨x, i, rfl, hl, hn, k s _ (Le.refl _) wd .int⟩
    · cases e
  · cases e
/-- tuple(x) -/
def tupCF : List W → Option W
  | [.val (.ctup xs)] => some (.val (.ctup xs))
  | [w] => (w.rd.bind D.items).map fun xs => .val (.tup xs)
  | _ => none
theorem cm_tuple : CallM P (.type "tuple") tupCF := by
  refine ⟨_, call_tupleZ, fun B s st ws w vs Q wd r e k => ?_⟩
  unfold tupCF at e
  split at e
  · cases e
    cases r with
    | cons r rr =>
      cases rr
      cases r with
      | ctup hq rl => exact ⟨_, _, rfl, .inr ⟨by rw [P.hK]; exact same_sqT wd.sub hq, k s _ (Le.refl _) wd (.ctup hq rl)⟩⟩
  · rename_i w0 nc
    cases r with
    | cons r rr =>
      cases rr
      cases h1 : w0.rd with
      | none => rw [h1] at e; cases e
      | some d =>
        rw [h1, Option.bind_some] at e
        cases h2 : d.items with
        | none => rw [h2] at e; cases e
        | some xs =>
          rw [h2] at e
          cases e
          have fresh : ∀ {us : List V}, RepL P.G.R s.F s.io xs us → NewT us s.H Q := fun {us} rl => wd.newT rl fun s' v l w r => k s' v l w r
          cases w0 with
          | val d' =>
            cases h1
            cases r with
            | tup hq rl => cases h2; exact ⟨_, _, rfl, .inr ⟨(hq.mono wd.sub).sq, k s _ (Le.refl _) wd (.tup hq rl)⟩⟩
            | ctup hq rl => exact absurd rfl (nc _)
            | lst hq rl => cases h2; exact ⟨_, _, rfl, .inl ⟨.inl (.inl (wd.sub _ _ hq)), fresh rl⟩⟩
            | ro hq rl => cases h2; exact ⟨_, _, rfl, .inl ⟨by rw [P.hK]; exact same_sqL wd.sub hq, fresh rl⟩⟩
            | _ => cases h2
          | bor ys =>
            cases h1
            cases h2
            obtain ⟨p, us, rfl, _, hq, rl⟩ := r
            exact ⟨p, us, rfl, .inl ⟨.inl (.inl hq), fresh rl⟩⟩
          | bod ks us => cases h1
          | bdd ks us => cases h1
          | exn c x => cases h1
          | len ys =>
            cases h1
            cases h2
            obtain ⟨p, us, o, rfl, _, hq, rl⟩ := r
            exact ⟨p, us, rfl, .inl ⟨.inl (.inr ⟨o, hq⟩), fresh rl⟩⟩
  · cases e
/-- list(x) -/
def lstCF : List W → Option (List D)
  | [w] => w.rd.bind D.items
  | _ => none
theorem cf_list : CallF P (.type "list") lstCF := by
  refine ⟨_, call_list_of, fun B s st ws xs vs Q wd r e k => ?_⟩
  unfold lstCF at e
  split at e
  · rename_i w0
    cases r with
    | cons r rr =>
      cases rr
      cases h1 : w0.rd with
      | none => rw [h1] at e; cases e
      | some d =>
        rw [h1, Option.bind_some] at e
        obtain ⟨p, us, rfl, hq, rl⟩ := items_ok wd r h1 e
        exact ⟨p, us, rfl, hq, fun l hl => k us l rl hl⟩
  · cases e
/-- isinstance(x, T), T a built-in type -/
def D.tyn : D → Option String
  | .non => some "NoneType"
  | .bl _ => some "bool"
  | .int _ => some "int"
  | .str _ => some "str"
  | .tup _ => some "tuple"
  | .ctup _ => some "tuple"
  | .lst _ => some "list"
  | .dict _ _ => some "dict"
  | _ => none
def isiF : List W → Option W
  | [x, .val (.ty T)] => (x.rd.bind D.tyn).bind fun t => (kitB t T).map fun b => .val (.bl b)
  | _ => none
theorem tyn_ok {d : D} {v : V} {t : String} {F : Hp} {io : Io} (r : Rep P.G.R F io d v) (e : d.tyn = some t) : TyX P.X.K F v (.type t) := by
  rw [P.hK]
  cases r with
  | non => cases e; exact .base .non
  | bl => cases e; exact .base (.bl _)
  | int => cases e; exact .base (.int _)
  | str => cases e; exact .base (.str _)
  | tup hq rl => cases e; obtain ⟨o, hq, _⟩ := hq; exact .fTuple hq
  | dict hq _ _ => cases e; exact .fDict hq
  | ctup hq rl =>
    cases e
    rcases hq with (hq | ⟨o, hq⟩) | ⟨o, its, n, h1, h2, _⟩
    · exact .base (.tup hq)
    · exact .fTuple hq
    · exact .kTuple h1 h2
  | lst hq rl => cases e; exact .base (.lst hq)
  | _ => cases e
theorem cm_isi : CallM P (.builtin "isinstance") isiF := by
  refine ⟨_, call_isi, fun B s st ws w vs Q wd r e k => ?_⟩
  unfold isiF at e
  split at e
  · rename_i x0 T
    cases r with
    | cons r rr =>
      cases rr with
      | cons r2 rr =>
        cases rr
        cases r2
        cases h1 : x0.rd with
        | none => rw [h1] at e; cases e
        | some d =>
          rw [h1, Option.bind_some] at e
          cases h2 : d.tyn with
          | none => rw [h2] at e; cases e
          | some t =>
            rw [h2, Option.bind_some] at e
            cases h3 : kitB t T with
            | none => rw [h3] at e; cases e
            | some b =>
              rw [h3] at e
              cases e
              exact ⟨_, _, .type t, .type T, b, rfl, .ty T, tyn_ok (rd_ok wd r h1) h2, kit_ty h3, k s _ (Le.refl _) wd .bl⟩
  · cases e
end
end M3


namespace M3
open PySem PySem.Spec PyProof.Rows L2

/-! ### slices -/
abbrev PM := Sl3 → M (Option Int)
def pNone : PM := fun _ => M.pure none
def pSome (m : EM) : PM := fun u => M.bind (m u) fun w => match w with
  | .val (.int i) => M.pure (some i)
  | _ => M.bad
structure MP (P : P3) (e : Option Expr) (m : PM) : Prop where
  out : ∃ t, PO P.X e t ∧ ∀ (B0 B : Addr → Prop) (s : S3) (st : Store) (u : Sl3) (z : L2.St) (Q : Option Int → Hp → Prop), Wd P.G B st s → Slo P.G P.hx B0 B s u z →
    Post P.G B (fun _ a b => a = b) (fun c d H => P.wx c d z H) s Q (m u st) → t z s.H Q
section
variable {P : P3} {pos p2 : Pos} {e : Expr} {m : EM} {lo hi : Option Expr} {ml mh : PM}
theorem mp_none : MP P none pNone := ⟨_, po_none, fun B0 B s st u z Q wd sl h => h.pure wd rfl⟩
theorem mp_some (he : ME P e m) : MP P (some e) (pSome m) := by
  obtain ⟨t, pt, ht⟩ := he.out
  refine ⟨_, po_some pt, fun B0 B s st u z Q wd sl h => ht B0 B s st u z _ wd sl (Post.bind h fun w st1 s1 v l1 wd1 r1 h1 => ?_)⟩
  split at h1
  · cases r1; exact ⟨_, rfl, h1.pure wd1 rfl⟩
  · exact h1.elim
def cutD {α : Type} (xs : List α) (lo hi : Option Int) : List α := (xs.drop (HT.sIx xs.length 0 lo)).take (HT.sIx xs.length xs.length hi - HT.sIx xs.length 0 lo)
theorem cut_rep {K : KW} {F : Hp} {io : Io} {xs : List D} {vs : List V} (r : RepL K F io xs vs) (lo hi : Option Int) : RepL K F io (cutD xs lo hi) (cutV vs lo hi) := by
  unfold cutD cutV
  rw [r.length]
  exact (r.drop _).take _
/-- a text or a tuple, cut -/
def slF (x : W) (lo hi : Option Int) : Option W := match x with
  | .val (.str z) => if z.length ≤ 1000000 then some (.val (.str (cutS z lo hi))) else none
  | .val (.tup xs) => some (.val (.tup (cutD xs lo hi)))
  | _ => none
def eSl (m : EM) (l h : PM) : EM := fun u => M.bind (m u) fun x => M.bind (l u) fun a => M.bind (h u) fun b => M.of (slF x a b)
/-- a list, cut -/
def fSl (m : EM) (l h : PM) : FM := fun u => M.bind (m u) fun x => M.bind (l u) fun a => M.bind (h u) fun b => M.of (x.ls.map fun xs => cutD xs a b)
/-- whatever it is -/
def eSlA (m : EM) (l h : PM) : EM := fun u => M.bind (m u) fun x => M.bind (l u) fun a => M.bind (h u) fun b => match x.ls with
  | some xs => M.pure (.val (.lst (cutD xs a b)))
  | none => M.of (slF x a b)
theorem cut_all {α : Type} {xs : List α} {lo hi : Option Int} (h : HT.sIx xs.length 0 lo = 0 ∧ HT.sIx xs.length xs.length hi = xs.length) : cutD xs lo hi = xs := by
  unfold cutD
  rw [h.1, h.2]
  simp
theorem me_sl (he : ME P e m) (hl : MP P lo ml) (hh : MP P hi mh) : ME P (.Subscript e (.Slice lo hi none p2) pos) (eSlA m ml mh) := by
  obtain ⟨t, pt, ht⟩ := he.out
  obtain ⟨tl, pl, htl⟩ := hl.out
  obtain ⟨th, ph, hth⟩ := hh.out
  refine ME.mk' (pe_slice (sl_str.or (sl_tupZ.or sl_list)) pt pl ph) fun B0 B s st u z Q wd sl h => ht B0 B s st u z _ wd sl (Post.bind h fun w st1 s1 v l1 wd1 r1 h1 => ?_)
  refine htl B0 B s1 st1 u z _ wd1 (sl.mono' l1) (Post.bind h1 fun a st2 s2 a' l2 wd2 ra h2 => ?_)
  subst ra
  refine hth B0 B s2 st2 u z _ wd2 (sl.mono' (l1.trans l2)) (Post.bind h2 fun b st3 s3 b' l3 wd3 rb h3 => ?_)
  subst rb
  have r3 := r1.mono (l2.trans l3)
  cases e1 : w.ls with
  | some xs =>
    rw [e1] at h3
    obtain ⟨p, vs, rfl, hp, rl⟩ := ls_ok wd3 r3 e1
    refine .inr (.inr ⟨p, vs, rfl, .inl (.inl hp), fun q hq => ?_⟩)
    obtain ⟨wd4, l4⟩ := wd3.froz hq (.lst (cutV vs a b))
    exact h3 (s3.froz q (.lst (cutV vs a b))) (.ref q) l4 wd4 (.lst upd_same ((cut_rep rl a b).mono l4.fr l4.io))
  | none =>
    rw [e1] at h3
    clear e1
    obtain ⟨w', e1, h3⟩ := of_eq h3
    unfold slF at e1
    split at e1
    · split at e1
      · rename_i hz
        cases e1
        cases r3
        exact .inl ⟨_, rfl, szL hz, h3.pure wd3 .str⟩
      · cases e1
    · rename_i xs _
      cases e1
      cases r3 with
      | tup hq rl =>
        refine .inr (.inl ⟨_, _, rfl, (hq.mono wd3.sub).sq, fun hw => ?_, fun hw => ?_⟩)
        · rw [← rl.length] at hw
          have h3 := h3
          rw [cut_all hw] at h3
          exact h3.pure wd3 (.tup hq rl)
        · exact wd3.newT (cut_rep rl a b) fun s' v l w r => h3 s' v l w r
    · cases e1

/-! ### a list of one's own grows -/
/-- x.append(e) -/
def sApp (i : Nat) (m : EM) : SM := fun u st => match u[i]? with
  | some (some (.bor xs)) => match m u st with
    | .ok (.val d) st' => if xs.length < 1000000 then .nx (u.set i (some (.bor (xs ++ [d])))) st' else .bad
    | .ok _ _ => .bad
    | .err c x st' => .err c x u st'
    | .bad => .bad
  | _ => .bad
/-- what is one's own is not locked -/
theorem own_unlocked {G : G3} {X : Hex} {B : Addr → Prop} {s : S3} {w : M3.W} {p q : Addr} {o : Obj} {vs : List V} (ow : w.own = true) (r : RepW G X B s w (.ref p)) (h : s.H q = some (.frz o (.lst vs))) : q ≠ p := fun e => by
  subst e
  cases w with
  | bor xs => obtain ⟨p', vs', e, b, h', _⟩ := r; cases e; rw [h] at h'; cases h'
  | bod ks us => obtain ⟨p', vs', e, b, h', _⟩ := r; cases e; rw [h] at h'; cases h'
  | bdd ks us => obtain ⟨p', vs', e, b, h', _⟩ := r; cases e; rw [h] at h'; cases h'
  | _ => cases ow
/-- the thing at slot i is changed: it is o, of w' -/
theorem Slo.changeW {G : G3} {X : Hex} {B0 B : Addr → Prop} {s : S3} {u : Sl3} {z : L2.St} {i : Nat} {w0 : W} {st : Store} (h : Slo G X B0 B s u z) (wd : Wd G B st s) (e : u[i]? = some (some w0)) (o0 : w0.own = true) :
    ∃ p, z[i]? = some (some (.ref p)) ∧ B p ∧ ¬ B0 p ∧ RepW G X B s w0 (.ref p) ∧ ∀ (w' : W) (ho : HO), w'.own = true → RepW G X B ⟨s.io, s.F, upd s.H p ho⟩ w' (.ref p) →
      Slo G X B0 B ⟨s.io, s.F, upd s.H p ho⟩ (u.set i (some w')) z ∧ Wd G B st ⟨s.io, s.F, upd s.H p ho⟩ ∧ Le B0 s ⟨s.io, s.F, upd s.H p ho⟩ := by
  obtain ⟨hl, ow, h1, h2⟩ := h
  obtain ⟨v, e1, rw0, q⟩ := h1 i _ e
  obtain ⟨e3, nb⟩ := q o0
  subst e3
  obtain ⟨p, e3, bp⟩ := own_ref o0 rw0
  injection e3 with e3
  have hF := (wd.hid p bp).1
  refine ⟨p, by rw [← e3]; exact e1, bp, by rw [← e3]; exact nb, by rw [← e3]; exact rw0, fun w' ho o' ru => ⟨⟨by simpa using hl, ow, fun j w ej => ?_, fun j k wj wk oj ok q1 q2 q3 => ?_⟩, ⟨fun b o eb => ?_, fun a ba => ?_, wd.ftb, wd.dom, wd.inj, fun k o ek t => ?_, wd.untM (IoLe.refl _) (Same.refl _), wd.tabM (Same.refl _) (upd_tbl (wd.ntbl bp))⟩, IoLe.refl _, Same.refl _, fun a ba => ?_⟩⟩
  · rcases get_set ej with ⟨rfl, rfl⟩ | ⟨ne, ej⟩
    · exact ⟨.ref p, by rw [← e3]; exact e1, ru, fun q' => ⟨by rw [e3], nb⟩⟩
    · obtain ⟨v, ev, rv, qv⟩ := h1 j w ej
      refine ⟨v, ev, ?_, qv⟩
      have away : w.own = true → ∀ p', v = .ref p' → p' ≠ p := fun ow' p' e' z => by
        obtain ⟨e4, _⟩ := qv ow'
        rw [e'] at e4
        injection e4 with e4
        exact ne (h2 i j w0 w o0 ow' e ej (by rw [e3, ← e4, z]))
      cases w with
      | val d => exact rv
      | exn c x => exact rv
      | bor xs' =>
        obtain ⟨p', vs', rfl, b', hp', rl'⟩ := rv
        exact ⟨p', vs', rfl, b', (upd_ne (away rfl p' rfl)).trans hp', rl'⟩
      | bod ks us =>
        obtain ⟨p', vs', rfl, b', hp', rl'⟩ := rv
        exact ⟨p', vs', rfl, b', (upd_ne (away rfl p' rfl)).trans hp', rl'⟩
      | bdd ks us =>
        obtain ⟨p', vs', rfl, b', hp', rl'⟩ := rv
        exact ⟨p', vs', rfl, b', (upd_ne (away rfl p' rfl)).trans hp', rl'⟩
      | len ys =>
        obtain ⟨p', vs', o, rfl, b', hp', rl'⟩ := rv
        exact ⟨p', vs', o, rfl, b', (upd_ne (by rw [← e3]; exact own_unlocked o0 rw0 hp')).trans hp', rl'⟩
  · have old : ∀ {j : Nat} {w1 : M3.W}, w1.own = true → (u.set i (some w'))[j]? = some (some w1) → ∃ w2 : M3.W, w2.own = true ∧ u[j]? = some (some w2) := fun {j w1} o1 q => by
      rcases get_set q with ⟨rfl, _⟩ | ⟨_, q⟩
      · exact ⟨w0, o0, e⟩
      · exact ⟨w1, o1, q⟩
    obtain ⟨a1, oa1, q1⟩ := old oj q1
    obtain ⟨a2, oa2, q2⟩ := old ok q2
    exact h2 j k a1 a2 oa1 oa2 q1 q2 q3
  · show upd s.H p _ b = some o
    rw [upd_ne (fun z => by subst z; have eb : s.F b = some o := eb; rw [hF] at eb; cases eb)]
    exact wd.sub b o eb
  · obtain ⟨a1, o, a2, a3⟩ := wd.hid a ba
    by_cases q : a = p
    · subst q
      have hh : upd s.H a ho a = some ho := upd_same
      refine ⟨a1, _, upd_same, ?_⟩
      cases w' with
      | bor xs => obtain ⟨p', vs, e', _, h', _⟩ := ru; cases e'; have h' : upd s.H a ho a = _ := h'; rw [hh] at h'; cases h'; exact ⟨fun _ q => (by cases q), fun _ _ q => (by first | exact dkO_code q | exact cellO_code q | (unfold LamX.CodeO at q; cases q))⟩
      | bod ks us => obtain ⟨p', vs, e', _, h', _⟩ := ru; cases e'; have h' : upd s.H a ho a = _ := h'; rw [hh] at h'; cases h'; exact ⟨fun _ q => (by cases q), fun _ _ q => (by first | exact dkO_code q | exact cellO_code q | (unfold LamX.CodeO at q; cases q))⟩
      | bdd ks us => obtain ⟨p', vs, e', _, h', _⟩ := ru; cases e'; have h' : upd s.H a ho a = _ := h'; rw [hh] at h'; cases h'; exact ⟨fun _ q => (by cases q), fun _ _ q => (by first | exact dkO_code q | exact cellO_code q | (unfold LamX.CodeO at q; cases q))⟩
      | _ => cases o'
    · exact ⟨a1, o, (upd_ne q).trans a2, a3⟩
  · obtain ⟨a, a1, a2, a3, a4⟩ := wd.obj k o ek t
    have na : a ≠ p := fun z => a2 (z ▸ bp)
    exact ⟨a, a1, a2, a3, ObjR.mono (s := s) (s' := ⟨s.io, s.F, upd s.H p ho⟩) (IoLe.refl _) (Same.refl _) (upd_ne na) a4⟩
  · exact upd_ne fun z => nb (by rw [e3, ← z]; exact ba)
/-- the list at slot i is changed -/
theorem Slo.change {G : G3} {X : Hex} {B0 B : Addr → Prop} {s : S3} {u : Sl3} {z : L2.St} {i : Nat} {xs ys : List D} {st : Store} (h : Slo G X B0 B s u z) (wd : Wd G B st s) (e : u[i]? = some (some (.bor xs))) :
    ∃ p vs, z[i]? = some (some (.ref p)) ∧ B p ∧ ¬ B0 p ∧ s.H p = some (.lst vs) ∧ RepL G.R s.F s.io xs vs ∧ ∀ us, RepL G.R s.F s.io ys us →
      Slo G X B0 B ⟨s.io, s.F, upd s.H p (.lst us)⟩ (u.set i (some (.bor ys))) z ∧ Wd G B st ⟨s.io, s.F, upd s.H p (.lst us)⟩ ∧ Le B0 s ⟨s.io, s.F, upd s.H p (.lst us)⟩ := by
  obtain ⟨p, ez, bp, nb, ⟨p', vs, e', b', hp, rl⟩, ch⟩ := h.changeW wd e rfl
  cases e'
  exact ⟨p, vs, ez, bp, nb, hp, rl, fun us ru => ch (.bor ys) (.lst us) rfl ⟨p, us, rfl, bp, upd_same, ru⟩⟩
theorem ms_app (i : Nat) {x : Str} {px apos cpos : Pos} (he : ME P e m) (hN : P.X.N[i]? = some x := by rfl) (hv : Vis P.X.env.scope x := by first | exact Or.inl rfl | exact Or.inr (Or.inl rfl) | exact Or.inr (Or.inr rfl)) (hd : (x == ("__debug__" : Str)) = false := by decide)
    (hcd : (x == ("__classdict__" : Str)) = false := by decide) (hst : starEach [e] P.X.env = (false, eval e P.X.env) :: starEach [] P.X.env := by rfl)
    (hbase : attributeBase (.Name x px) "append" P.X.env (eval (.Name x px) P.X.env) = eval (.Name x px) P.X.env := by rfl)
    (hfew : ((backTo cpos (starEach [e] P.X.env)).all (fun x => !x.1) && (backToKw cpos (keywordEach [] P.X.env)).all (fun x => x.1.isSome) && decide (([e] : List Expr).length + ([] : List Keyword).length + (if ([] : List Keyword).isEmpty then 0 else 1) < 30)) = true := by rfl)
    (hline : (apos.endLine == cpos.line) = true := by rfl) (hplain : (backTo cpos (starEach [] P.X.env)).any (·.1) = false := by rfl)
    (hs : swapsWith (.Call (.Attribute (.Name x px) "append" apos) [e] [] cpos) none pos.line P.X.env = pure false := by rfl) :
    MS P (.Expr (.Call (.Attribute (.Name x px) "append" apos) [e] [] cpos) pos) (sApp i m) := by
  obtain ⟨t, pt, ht⟩ := he.out
  refine MS.mk' (ps_expr (pe_bm PySem.F.plainAttrs_list PySem.F.slot_list_append PySem.F.type_list_append mt_append (pe_var hN hv hd hcd) (pa_cons pt pa_nil hst) hbase hfew hline hst hplain) hs) fun B0 B s o u z D b0 wd sl h => ?_
  unfold sApp at h
  split at h
  · rename_i xs e1
    obtain ⟨p, vs, e2, bp, nb, hp, rl, _⟩ := sl.change (ys := []) wd e1
    refine ⟨.ref p, e2, .inl ⟨rfl, vs, .inl (.inl hp)⟩, ht B0 B s o u z _ wd sl ?_⟩
    cases em : m u o with
    | bad => rw [em] at h; exact h
    | err c x st' => rw [em] at h; exact fun s' cv dd l w q => h B s' z cv dd b0 (l.less b0) w (sl.mono' l) q
    | ok w st' =>
      rw [em] at h
      cases w with
      | bor xs => exact h.elim
      | bod ks us => exact h.elim
      | bdd ks us => exact h.elim
      | exn c x => exact h.elim
      | len xs => exact h.elim
      | val d =>
        dsimp only at h
        split at h
        · rename_i hz
          intro s' v l w r
          obtain ⟨p', vs', e2', bp', nb', hp', rl', ch⟩ := (sl.mono' l).change (ys := xs ++ [d]) w e1
          rw [e2] at e2'; cases e2'
          obtain ⟨sl2, w2, l2⟩ := ch (vs' ++ [v]) (rl'.append (.cons r .nil))
          exact ⟨p, vs', v, rfl, rfl, hp', by rw [← rl'.length]; exact szl hz, h B _ z b0 ((l.less b0).trans l2) w2 sl2⟩
        · exact h.elim
  · exact h.elim
end
end M3


namespace M3
open PySem PySem.Spec PyProof.Rows L2

/-! ### x in y -/
def rInT (K : PySem.W.Frag) : R2 := fun x y H Q => ∃ d ds, Dp K H x d ∧ Dp K H y (.tuple ds) ∧ SeqAt.shaped d = true ∧ SeqAt.shaped (.tuple ds) = true ∧ Q (.bl (ds.any fun z => PyData.eqv z d)) H
def rNotInT (K : PySem.W.Frag) : R2 := fun x y H Q => ∃ d ds, Dp K H x d ∧ Dp K H y (.tuple ds) ∧ SeqAt.shaped d = true ∧ SeqAt.shaped (.tuple ds) = true ∧ Q (.bl (!ds.any fun z => PyData.eqv z d)) H
section
variable {X : Cx}
theorem op_inT (hu : X.A.units + 65 < cLine) : OpR X (compareOp .In) (rInT X.K) := by
  rintro pins now σ H x y v u Q inv rx ry ⟨d, ds, dx, dy, shx, shy, q⟩
  obtain ⟨_, readsx⟩ := Dp.reads inv d x v dx rx
  obtain ⟨_, readsy⟩ := Dp.reads inv _ y u dy ry
  exact SeqAt.in_tuple_reads readsy readsx (SeqAt.canLay_of_shaped shy) (SeqAt.canLay_of_shaped shx) (room_in_shaped shx hu) ⟨V.bl _, H, inv, rfl, q⟩
theorem op_notInT (hu : X.A.units + 65 < cLine) : OpR X (compareOp .NotIn) (rNotInT X.K) := by
  rintro pins now σ H x y v u Q inv rx ry ⟨d, ds, dx, dy, shx, shy, q⟩
  obtain ⟨_, readsx⟩ := Dp.reads inv d x v dx rx
  obtain ⟨_, readsy⟩ := Dp.reads inv _ y u dy ry
  exact SeqAt.notIn_tuple_reads readsy readsx (SeqAt.canLay_of_shaped shy) (SeqAt.canLay_of_shaped shx) (room_in_shaped shx hu) ⟨V.bl _, H, inv, rfl, q⟩
theorem op_dinV (hu : X.A.units + 1 < cLine) : OpR X (compareOp .In) (fun y x H Q => ∃ a o, x = .ref a ∧ DGet H a y o ∧ Q (.bl o.isSome) H) := by
  intro pins s σ H y x u v Q I ry rx h
  obtain ⟨a, o, rfl, g, q⟩ := h
  cases rx
  exact d_in hu I g ry fun s' I' => ⟨.bl _, H, I', rfl, q⟩
theorem op_dnotInV (hu : X.A.units + 1 < cLine) : OpR X (compareOp .NotIn) (fun y x H Q => ∃ a o, x = .ref a ∧ DGet H a y o ∧ Q (.bl (!o.isSome)) H) := by
  intro pins s σ H y x u v Q I ry rx h
  obtain ⟨a, o, rfl, g, q⟩ := h
  cases rx
  exact d_notIn hu I g ry fun s' I' => ⟨.bl _, H, I', rfl, q⟩
end
/-- keys -/
def D.key : D → Option Key
  | .int i => some (.inl i)
  | .str x => some (.inr x)
  | _ => none
def D.keys : List D → Option (List Key)
  | [] => some []
  | d :: ds => match d.key, D.keys ds with
    | some k, some ks => some (k :: ks)
    | _, _ => none
/-- the value at a key, in two lists -/
def atK {κ : Type} [DecidableEq κ] : List κ → List D → κ → Option D
  | k :: ks, d :: ds, x => if k = x then some d else atK ks ds x
  | _, _, _ => none
def setK3 {κ : Type} [DecidableEq κ] : List κ → List D → κ → D → List D
  | k :: ks, d :: ds, x, y => (if k = x then y else d) :: setK3 ks ds x y
  | _, ds, _, _ => ds
def putK3 {κ : Type} [DecidableEq κ] (ks : List κ) (ds : List D) (x : κ) (y : D) : List κ × List D := if x ∈ ks then (ks, setK3 ks ds x y) else (ks ++ [x], ds ++ [y])
/-- what a dict holds at a key: none: not asked -/
def dgetF (d k : D) : Option (Option D) := match d, k with
  | .dict ks us, k => k.key.map fun x => atK ks us x
  | _, _ => none
/-- a dict's data in the heap -/
inductive DAt (K : KW) (io : Io) (F H : Hp) (a : Addr) : D → Prop where
  | k {kvs : List (Key × V)} {us : List D} : Rd H a (.dK kvs) → RepL K F io us (kvs.map (·.2)) → DAt K io F H a (.dict (kvs.map (·.1)) us)
section
variable {K : KW} {F H : Hp} {io : Io}
theorem valV_nil {κ : Type} [DecidableEq κ] (x : κ) : valV ([] : List (κ × V)) x = none := rfl
theorem atK_ok {κ : Type} [DecidableEq κ] (x : κ) : ∀ {kvs : List (κ × V)} {us : List D}, RepL K F io us (kvs.map (·.2)) → (∀ d, atK (kvs.map (·.1)) us x = some d → ∃ v, valV kvs x = some v ∧ Rep K F io d v) ∧ (atK (kvs.map (·.1)) us x = none → valV kvs x = none)
  | [], _, rl => by
    cases rl
    exact ⟨fun d h => (by cases h), fun _ => rfl⟩
  | (k, v) :: kvs, [], rl => by cases rl
  | (k, v) :: kvs, d :: us, rl => by
    obtain ⟨r, t⟩ : Rep K F io d v ∧ RepL K F io us (kvs.map (·.2)) := by
      cases rl with
      | cons r t => exact ⟨r, t⟩
    have ih := atK_ok x t
    have e1 : valV ((k, v) :: kvs) x = if k = x then some v else valV kvs x := by
      unfold valV
      by_cases h : k = x
      · simp [h]
      · simp [h]
    show (∀ d', (if k = x then some d else atK (kvs.map (·.1)) us x) = some d' → _) ∧ _
    rw [e1]
    refine ⟨fun d' h => ?_, fun h => ?_⟩
    · by_cases q : k = x
      · rw [if_pos q] at h ⊢; cases h; exact ⟨v, rfl, r⟩
      · rw [if_neg q] at h ⊢; exact ih.1 d' h
    · have h : (if k = x then some d else atK (kvs.map (·.1)) us x) = none := h
      by_cases q : k = x
      · rw [if_pos q] at h; cases h
      · rw [if_neg q] at h ⊢; exact ih.2 h
theorem key_ok {d : D} {v : V} {k : Key} (r : Rep K F io d v) (e : d.key = some k) : v = kV k := by
  unfold D.key at e
  split at e
  · cases e; cases r; rfl
  · cases e; cases r; rfl
  · cases e
theorem keys_ok : ∀ {ds : List D} {vs : List V} {ks : List Key}, RepL K F io ds vs → D.keys ds = some ks → vs = ks.map kV
  | [], _, _, .nil, e => by unfold D.keys at e; cases e; rfl
  | d :: ds, _, ks, .cons r t, e => by
    unfold D.keys at e
    split at e
    · rename_i k ks' e1 e2
      cases e
      rw [key_ok r e1, keys_ok t e2]
      rfl
    · cases e
/-- a key that is read: where -/
theorem dget_ok {a : Addr} {d k : D} {y : V} {o : Option D} (at_ : DAt K io F H a d) (hs : Same F H) (r : Rep K F io k y) (e : dgetF d k = some o) :
    ∃ ov, DGet H a y ov ∧ ov.isSome = o.isSome ∧ ∀ d', o = some d' → ∃ v, ov = some v ∧ Rep K F io d' v := by
  have fin : ∀ {κ : Type} [DecidableEq κ] {kvs : List (κ × V)} {us : List D} {x : κ}, RepL K F io us (kvs.map (·.2)) → o = atK (kvs.map (·.1)) us x →
      (valV kvs x).isSome = o.isSome ∧ ∀ d', o = some d' → ∃ v, valV kvs x = some v ∧ Rep K F io d' v := fun {κ _ kvs us x} rl eo => by
    obtain ⟨h1, h2⟩ := atK_ok x rl
    cases q : atK (kvs.map (·.1)) us x with
    | none => rw [q] at eo; subst eo; rw [h2 q]; exact ⟨rfl, fun d' z => by cases z⟩
    | some d' =>
      rw [q] at eo
      subst eo
      obtain ⟨v, hv, rv⟩ := h1 d' q
      rw [hv]
      exact ⟨rfl, fun d2 z => by cases z; exact ⟨v, rfl, rv⟩⟩
  cases at_ with
  | @k kvs us ha rl =>
    have e : (k.key.map fun x => atK (kvs.map (·.1)) us x) = some o := e
    cases hk : k.key with
    | none => rw [hk] at e; cases e
    | some x =>
      rw [hk] at e
      cases e
      obtain rfl := key_ok r hk
      exact ⟨_, .inl ⟨kvs, x, ha, rfl, rfl⟩, fin rl rfl⟩
end
def W.dic : W → Option D
  | .val (.dict ks us) => some (.dict ks us)
  | .bod ks us => some (.dict ks us)
  | _ => none
theorem dic_ok {G : G3} {X : Hex} {B : Addr → Prop} {s : S3} {st : Store} {w : W} {v : V} {d : D} (wd : Wd G B st s) (r : RepW G X B s w v) (e : w.dic = some d) : ∃ a, v = .ref a ∧ DAt G.R s.io s.F s.H a d := by
  unfold W.dic at e
  split at e
  · cases e; cases r with | dict h q rl => subst q; exact ⟨_, rfl, .k (.inr ⟨_, wd.sub _ _ h⟩) rl⟩
  · cases e; obtain ⟨p, kvs, rfl, _, h, q, rl⟩ := r; subst q; exact ⟨_, rfl, .k (.inl h) rl⟩
  · cases e
/-- in: a sign in a text, an item of a list or tuple, a key of a dict -/
def inF (neg : Bool) (x y : W) : Option W := match x, y with
  | .val (.str a), .val (.str b) => match a.cps.toList with
    | [c] => some (.val (.bl (if neg then !decide (c ∈ b.cps.toList) else decide (c ∈ b.cps.toList))))
    | _ => none
  | x, y => match y.dic with
    | some d => match x with
      | .val k => (dgetF d k).map fun o => .val (.bl (if neg then !o.isSome else o.isSome))
      | _ => none
    | none => match x.rd, y.rd with
      | some a, some b => match a.py, b.py with
        | some p, some (.list ps) => if SeqAt.shaped p = true ∧ SeqAt.shaped (.list ps) = true then some (.val (.bl (if neg then !ps.any fun z => PyData.eqv z p else ps.any fun z => PyData.eqv z p))) else none
        | some p, some (.tuple ps) => if SeqAt.shaped p = true ∧ SeqAt.shaped (.tuple ps) = true then some (.val (.bl (if neg then !ps.any fun z => PyData.eqv z p else ps.any fun z => PyData.eqv z p))) else none
        | _, _ => none
      | _, _ => none
section
variable {P : P3}
theorem in_ok {op : CmpOp} (neg : Bool) {R1 R2' R3 R4 : R2} (h1 : OpR P.X (compareOp op) R1) (h2 : OpR P.X (compareOp op) R2') (h3 : OpR P.X (compareOp op) R3) (h4 : OpR P.X (compareOp op) R4)
    (g1 : ∀ (c : Nat) (z : Str) H Q, Q (.bl (if neg then !decide (c ∈ z.cps.toList) else decide (c ∈ z.cps.toList))) H → R1 (.str ⟨#[c]⟩) (.str z) H Q)
    (g2 : ∀ a o y H Q, DGet H a y o → Q (.bl (if neg then !o.isSome else o.isSome)) H → R2' y (.ref a) H Q)
    (g3 : ∀ d ds x y H Q, Dp P.X.K H x d → Dp P.X.K H y (.list ds) → SeqAt.shaped d = true → SeqAt.shaped (.list ds) = true → Q (.bl (if neg then !ds.any fun z => PyData.eqv z d else ds.any fun z => PyData.eqv z d)) H → R3 x y H Q)
    (g4 : ∀ d ds x y H Q, Dp P.X.K H x d → Dp P.X.K H y (.tuple ds) → SeqAt.shaped d = true → SeqAt.shaped (.tuple ds) = true → Q (.bl (if neg then !ds.any fun z => PyData.eqv z d else ds.any fun z => PyData.eqv z d)) H → R4 x y H Q) :
    OpM P (compareOp op) (inF neg) := by
  refine ⟨_, h1.or (h2.or (h3.or h4)), fun B s st w1 w2 w v1 v2 Q wd r1 r2 e k => ?_⟩
  unfold inF at e
  split at e
  · rename_i a b
    split at e
    · rename_i c hc
      have ea : a = ⟨#[c]⟩ := by
        obtain ⟨cs⟩ := a
        have : cs = #[c] := by
          have := congrArg List.toArray hc
          simpa using this
        rw [this]
      subst ea
      cases e; cases r1; cases r2
      exact .inl (g1 _ _ _ _ (k s _ (Le.refl _) wd .bl))
    · cases e
  · split at e
    · rename_i d hd
      split at e
      · rename_i kd _
        obtain ⟨a, rfl, at_⟩ := dic_ok wd r2 hd
        cases hg : dgetF d kd with
        | none => rw [hg] at e; cases e
        | some o =>
          rw [hg] at e
          cases e
          obtain ⟨ov, g, h, _⟩ := dget_ok at_ wd.sub r1 hg
          exact .inr (.inl (g2 _ _ _ _ _ g (by rw [h]; exact k s _ (Le.refl _) wd .bl)))
      · cases e
    · split at e
      · rename_i a b ea eb
        split at e
        · rename_i p ps ep eps
          split at e
          · rename_i hs
            cases e
            exact .inr (.inr (.inl (g3 p ps _ _ _ _ (by rw [P.hK]; exact py_ok (rd_ok wd r1 ea) ep) (by rw [P.hK]; exact py_ok (rd_ok wd r2 eb) eps) hs.1 hs.2 (k s _ (Le.refl _) wd .bl))))
          · cases e
        · rename_i p ps ep eps
          split at e
          · rename_i hs
            cases e
            exact .inr (.inr (.inr (g4 p ps _ _ _ _ (by rw [P.hK]; exact py_ok (rd_ok wd r1 ea) ep) (by rw [P.hK]; exact py_ok (rd_ok wd r2 eb) eps) hs.1 hs.2 (k s _ (Le.refl _) wd .bl))))
          · cases e
        · cases e
      · cases e
theorem om_in (hu : P.X.A.units + 65 < cLine) : OpM P (compareOp .In) (inF false) :=
  in_ok false op_in_sign (op_dinV (Nat.lt_of_le_of_lt (by omega) hu)) (op_inD hu) (op_inT hu) (fun c z H Q h => ⟨c, z, rfl, rfl, h⟩) (fun a o y H Q g h => ⟨a, o, rfl, g, h⟩) (fun d ds x y H Q a b c e h => ⟨d, ds, a, b, c, e, h⟩) (fun d ds x y H Q a b c e h => ⟨d, ds, a, b, c, e, h⟩)
theorem om_notin (hu : P.X.A.units + 65 < cLine) : OpM P (compareOp .NotIn) (inF true) :=
  in_ok true op_notIn_sign (op_dnotInV (Nat.lt_of_le_of_lt (by omega) hu)) (op_notInD hu) (op_notInT hu) (fun c z H Q h => ⟨c, z, rfl, rfl, h⟩) (fun a o y H Q g h => ⟨a, o, rfl, g, h⟩) (fun d ds x y H Q a b c e h => ⟨d, ds, a, b, c, e, h⟩) (fun d ds x y H Q a b c e h => ⟨d, ds, a, b, c, e, h⟩)
end

/-! ### all, any, min, max -/
def D.bls : List D → Option (List Bool)
  | [] => some []
  | .bl b :: ds => (D.bls ds).map (b :: ·)
  | _ :: _ => none
theorem bls_ok {K : KW} {F : Hp} {io : Io} : ∀ {ds : List D} {vs : List V} {bs : List Bool}, RepL K F io ds vs → D.bls ds = some bs → vs = bs.map V.bl
  | [], _, _, .nil, e => by unfold D.bls at e; cases e; rfl
  | d :: ds, _, bs, .cons r t, e => by
    cases d with
    | bl b =>
      unfold D.bls at e
      cases h : D.bls ds with
      | none => rw [h] at e; cases e
      | some bs' =>
        rw [h] at e
        cases e
        cases r
        rw [bls_ok t h]
        rfl
    | _ => unfold D.bls at e; cases e
def allF : List W → Option W
  | [w] => w.ls.bind fun xs => (D.bls xs).map fun bs => .val (.bl (bs.all id))
  | _ => none
def anyF : List W → Option W
  | [w] => w.ls.bind fun xs => (D.bls xs).map fun bs => .val (.bl (bs.any id))
  | _ => none
def minF : List W → Option W
  | [.val (.int i), .val (.int j)] => some (.val (.int (if j < i then j else i)))
  | _ => none
def maxF : List W → Option W
  | [.val (.int i), .val (.int j)] => some (.val (.int (if j > i then j else i)))
  | _ => none
section
variable {P : P3}
theorem cm_all (hc : P.X.calm = true) : CallM P (.builtin "all") allF := by
  refine ⟨_, cr_all hc, fun B s st ws w vs Q wd r e k => ?_⟩
  unfold allF at e
  split at e
  · rename_i w0
    cases r with
    | cons r rr =>
      cases rr
      cases h1 : w0.ls with
      | none => rw [h1] at e; cases e
      | some xs =>
        rw [h1, Option.bind_some] at e
        cases h2 : D.bls xs with
        | none => rw [h2] at e; cases e
        | some bs =>
          rw [h2] at e
          cases e
          obtain ⟨p, us, rfl, hp, rl⟩ := ls_ok wd r h1
          obtain rfl := bls_ok rl h2
          exact ⟨p, bs, rfl, .inl (.inl hp), k s _ (Le.refl _) wd .bl⟩
  · cases e
theorem cm_any (hc : P.X.calm = true) : CallM P (.builtin "any") anyF := by
  refine ⟨_, cr_any hc, fun B s st ws w vs Q wd r e k => ?_⟩
  unfold anyF at e
  split at e
  · rename_i w0
    cases r with
    | cons r rr =>
      cases rr
      cases h1 : w0.ls with
      | none => rw [h1] at e; cases e
      | some xs =>
        rw [h1, Option.bind_some] at e
        cases h2 : D.bls xs with
        | none => rw [h2] at e; cases e
        | some bs =>
          rw [h2] at e
          cases e
          obtain ⟨p, us, rfl, hp, rl⟩ := ls_ok wd r h1
          obtain rfl := bls_ok rl h2
          exact ⟨p, bs, rfl, .inl (.inl hp), k s _ (Le.refl _) wd .bl⟩
  · cases e
theorem cm_min (hc : P.X.calm = true) : CallM P (.builtin "min") minF := by
  refine ⟨_, call_min2 hc, fun B s st ws w vs Q wd r e k => ?_⟩
  unfold minF at e
  split at e
  · cases e
    cases r with
    | cons r rr =>
      cases rr with
      | cons r2 rr =>
        cases rr; cases r; cases r2
        exact ⟨_, _, rfl, k s _ (Le.refl _) wd .int⟩
  · cases e
theorem cm_max (hc : P.X.calm = true) : CallM P (.builtin "max") maxF := by
  refine ⟨_, call_max2 hc, fun B s st ws w vs Q wd r e k => ?_⟩
  unfold maxF at e
  split at e
  · cases e
    cases r with
    | cons r rr =>
      cases rr with
      | cons r2 rr =>
        cases rr; cases r; cases r2
        exact ⟨_, _, rfl, k s _ (Le.refl _) wd .int⟩
  · cases e
end

/-! ### - x -/
def eNeg (a : EM) : EM := fun u => M.bind (a u) fun w => match w with
  | .val (.int i) => M.pure (.val (.int (-i)))
  | _ => M.bad
section
variable {P : P3} {pos : Pos} {a : Expr} {ma : EM}
theorem me_neg (ha : ME P a ma) : ME P (.UnaryOp .USub a pos) (eNeg ma) := by
  obtain ⟨ta, pa, ha⟩ := ha.out
  refine ME.mk' (pe_un un_neg pa) fun B0 B s st u z Q wd sl hp => ha B0 B s st u z _ wd sl (Post.bind hp fun w st1 s1 v l1 wd1 r1 h1 => ?_)
  split at h1
  · cases r1
    exact ⟨_, rfl, h1.pure wd1 .int⟩
  · exact h1.elim
end

/-! ### a chain as a test -/
section
variable {P : P3} {pos : Pos} {a b c : Expr} {ma mb mc : EM}
theorem mt_chain {op op' : CmpOp} {g g' : W → W → Option W} (h : OpM P (compareOp op) g) (h' : OpM P (compareOp op') g') (ha : ME P a ma) (hb : ME P b mb) (hc : ME P c mc)
    (hm : lastMarks [op, op'] [b, c] = false := by with_unfolding_all rfl) : MT P (.Compare a [op, op'] [b, c] pos) (tOf (eChain g g' ma mb mc)) := by
  obtain ⟨ta, pa, ha⟩ := ha.out
  obtain ⟨tb, pb, hb⟩ := hb.out
  obtain ⟨tc, pc, hc⟩ := hc.out
  obtain ⟨r, hr, hq⟩ := h
  obtain ⟨r', hr', hq'⟩ := h'
  refine MT.mk' (pt_chain hr hr' pa pb pc hm) fun B0 B s st u z Q wd sl hp => ?_
  have hp : Post P.G B (fun _ a b => a = b) (fun c d H => P.wx c d z H) s Q (M.bind (ma u) (fun x => M.bind (mb u) fun y => M.bind (M.of (g x y)) fun k => M.bind (M.of k.bool) fun k => M.bind (if k = true then M.bind (mc u) fun w => M.of (g' y w) else M.pure (.val (.bl false))) fun w => M.of w.bool) st) := by
    refine cast (congrArg _ ?_) hp
    unfold tOf eChain M.bind
    cases ma u st with
    | ok x st1 =>
      dsimp only
      cases mb u st1 with
      | ok y st2 =>
        dsimp only
        cases g x y with
        | none => rfl
        | some k =>
          dsimp only [M.of, M.pure]
          cases hk : k.bool with
          | none => simp [M.of, M.bad]
          | some k =>
            cases k <;> simp [M.of, M.pure, M.bad]
      | err c x st2 => rfl
      | bad => rfl
    | err c x st1 => rfl
    | bad => rfl
  refine ha B0 B s st u z _ wd sl (Post.bind hp fun w1 st1 s1 v1 l1 wd1 r1 h1 => ?_)
  refine hb B0 B s1 st1 u z _ wd1 (sl.mono l1) (Post.bind h1 fun w2 st2 s2 v2 l2 wd2 r2 h2 => ?_)
  obtain ⟨w, e, h2⟩ := Post.of_of h2
  refine hq B s2 st2 w1 w2 w v1 v2 _ wd2 (r1.mono l2) r2 e fun s3 v l3 wd3 r3 => ?_
  obtain ⟨k, e2, h3⟩ := Post.of_of h2
  refine ⟨k, bool_ok r3 e2, ?_⟩
  cases k with
  | true =>
    rw [if_pos rfl] at h3 ⊢
    have h3 : Post P.G B (fun _ a b => a = b) (fun c d H => P.wx c d z H) s2 Q (M.bind (mc u) (fun w => M.bind (M.of (g' w2 w)) fun w => M.of w.bool) st2) := by
      refine cast (congrArg _ ?_) h3
      unfold M.bind
      cases mc u st2 <;> rfl
    refine hc B0 B s3 st2 u z _ wd3 (sl.mono ((l1.trans l2).trans l3)) (Post.bind (Post.mono l3 h3) fun w4 st4 s4 v4 l4 wd4 r4 h4 => ?_)
    obtain ⟨w5, e5, h4⟩ := Post.of_of h4
    obtain ⟨k5, e6, h4⟩ := of_eq h4
    exact hq' B s4 st4 w2 w4 w5 v2 v4 _ wd4 ((r2.mono l3).mono l4) r4 e5 fun s5 v5 l5 wd5 r5 => ⟨k5, bool_ok r5 e6, h4 s5 k5 l5 wd5 rfl⟩
  | false =>
    rw [if_neg Bool.false_ne_true] at h3 ⊢
    exact ⟨false, rfl, (Post.mono l3 h3).pure wd3 rfl⟩
end
end M3


namespace M3
open PySem PySem.Spec PyProof.Rows L2

/-! ### methods of texts -/
def MtM3 (P : P3) (id : String) (g : Str → W → Option W) : Prop := ∃ r, MtR P.X id r ∧ ∀ (B : Addr → Prop) (s : S3) (st : Store) (x : Str) (w1 w : W) (v1 : V) (Q : VK), Wd P.G B st s → RepW P.G P.hx B s w1 v1 →
  g x w1 = some w → (∀ (s' : S3) (v : V), Le B s s' → Wd P.G B st s' → RepW P.G P.hx B s' w v → Q v s'.H) → r (.str x) [v1] s.H Q
def W.str? : W → Option Str
  | .val (.str x) => some x
  | _ => none
def eM1 (g : Str → W → Option W) (a b : EM) : EM := fun u => M.bind (a u) fun x => M.bind (M.of x.str?) fun z => M.bind (b u) fun y => M.of (g z y)
section
variable {P : P3} {pos apos : Pos} {o e : Expr} {mo me : EM}
theorem me_m1 {id : String} {name : Str} {g : Str → W → Option W} (slot : Slot "str" name id) (ty : typeOf (.builtin id) = pure (.type "method_descriptor")) (rule : MtM3 P id g) (ho : ME P o mo) (he : ME P e me)
    (hs : starEach [e] P.X.env = [(false, eval e P.X.env)] := by rfl) (hbase : attributeBase o name P.X.env (eval o P.X.env) = eval o P.X.env := by rfl) (hline : (apos.endLine == pos.line) = true := by rfl) :
    ME P (.Call (.Attribute o name apos) [e] [] pos) (eM1 g mo me) := by
  obtain ⟨to, po, hto⟩ := ho.out
  obtain ⟨te, pe, hte⟩ := he.out
  obtain ⟨r, hr, hq⟩ := rule
  refine ME.mk' (pe_m1 slot ty hr po pe hs hbase hline) fun B0 B s st u z Q wd sl h => hto B0 B s st u z _ wd sl (Post.bind h fun w st1 s1 v l1 wd1 r1 h1 => ?_)
  obtain ⟨x, ex, h1⟩ := Post.of_of h1
  obtain ⟨rfl⟩ : w = .val (.str x) := by
    unfold W.str? at ex
    split at ex
    · cases ex; rfl
    · cases ex
  cases r1
  refine ⟨⟨_, rfl⟩, hte B0 B s1 st1 u z _ wd1 (sl.mono' l1) (Post.bind h1 fun w2 st2 s2 v2 l2 wd2 r2 h2 => ?_)⟩
  obtain ⟨w3, e3, h2⟩ := of_eq h2
  exact hq B s2 st2 x w2 w3 v2 Q wd2 r2 e3 fun s' v l w' r => h2 s' v l w' r
end
/-- texts of a list -/
def D.strs : List D → Option (List Str)
  | [] => some []
  | .str x :: ds => (D.strs ds).map (x :: ·)
  | _ :: _ => none
theorem strs_ok {K : KW} {F : Hp} {io : Io} : ∀ {ds : List D} {vs : List V} {xs : List Str}, RepL K F io ds vs → D.strs ds = some xs → vs = xs.map V.str
  | [], _, _, .nil, e => by unfold D.strs at e; cases e; rfl
  | d :: ds, _, xs, .cons r t, e => by
    cases d with
    | str x =>
      unfold D.strs at e
      cases h : D.strs ds with
      | none => rw [h] at e; cases e
      | some ys =>
        rw [h] at e
        cases e
        cases r
        rw [strs_ok t h]
        rfl
    | _ => unfold D.strs at e; cases e
theorem rep_strs {K : KW} {F : Hp} {io : Io} : ∀ xs : List Str, RepL K F io (xs.map D.str) (xs.map V.str)
  | [] => .nil
  | _ :: xs => .cons .str (rep_strs xs)
def startsF (x : Str) : W → Option W
  | .val (.str y) => some (.val (.bl (Txt.startswith x y)))
  | _ => none
def splitF (x : Str) : W → Option W
  | .val (.str y) => if y.length ≠ 0 ∧ x.length ≤ 900000 then some (.val (.lst ((Txt.split x y).map .str))) else none
  | _ => none
def joinF (x : Str) (w : W) : Option W := (w.rd.bind D.items).bind fun xs => (D.strs xs).bind fun ys => if (ys.map (·.length)).sum + ys.length * x.length ≤ 1000000 then some (.val (.str (Txt.join x ys))) else none
section
variable {P : P3}
theorem mt_starts3 : MtM3 P "str.startswith" startsF := by
  refine ⟨_, mt_startswith, fun B s st x w1 w v1 Q wd r1 e k => ?_⟩
  unfold startsF at e
  split at e
  · cases e; cases r1; exact ⟨_, _, rfl, rfl, k s _ (Le.refl _) wd .bl⟩
  · cases e
theorem mt_split3 : MtM3 P "str.split" splitF := by
  refine ⟨_, mt_split, fun B s st x w1 w v1 Q wd r1 e k => ?_⟩
  unfold splitF at e
  split at e
  · rename_i y
    split at e
    · rename_i hz
      cases e; cases r1
      refine ⟨_, _, rfl, rfl, ?_, szL (by omega), fun p hp => ?_⟩
      · simpa using hz.1
      · obtain ⟨wd2, l2⟩ := wd.froz hp (.lst ((Txt.split x y).map V.str))
        exact k _ _ l2 wd2 (.lst upd_same (rep_strs _))
    · cases e
  · cases e
theorem mt_join3 : MtM3 P "str.join" joinF := by
  refine ⟨_, mt_join, fun B s st x w1 w v1 Q wd r1 e k => ?_⟩
  unfold joinF at e
  cases h1 : w1.rd with
  | none => rw [h1] at e; cases e
  | some d =>
    rw [h1, Option.bind_some] at e
    cases h2 : d.items with
    | none => rw [h2] at e; cases e
    | some xs =>
      rw [h2, Option.bind_some] at e
      cases h3 : D.strs xs with
      | none => rw [h3] at e; cases e
      | some ys =>
        rw [h3, Option.bind_some] at e
        split at e
        · rename_i hz
          cases e
          obtain ⟨p, us, rfl, hq, rl⟩ := items_ok wd r1 h1 h2
          obtain rfl := strs_ok rl h3
          exact ⟨x, p, ys, rfl, rfl, hq, by omega, k s _ (Le.refl _) wd .str⟩
        · cases e
end

/-! ### count of a tuple -/
def rCountT (K : PySem.W.Frag) : V → List V → Hp → VK → Prop := fun x xs H Q => ∃ (y : V) (d : PyData) (ds : List PyData), xs = [y] ∧ Dp K H x (.tuple ds) ∧ Dp K H y d ∧ SeqAt.shaped (.tuple ds) = true ∧ SeqAt.shaped d = true ∧
  Q (.int ((ds.countP fun z => PyData.eqv z d : Nat) : Int)) H
section
variable {X : Cx}
theorem mt_countT (hu : X.A.units + 65 < cLine) : MtR X "tuple.count" (rCountT X.K) := by
  rintro pins now σ H x _ v us Q inv rx args ⟨y, d, ds, rfl, dx, dy, shx, shy, q⟩
  obtain ⟨uy, rfl, ry⟩ := args.one
  obtain ⟨_, readsy⟩ := Dp.reads inv d y uy dy ry
  have lay := SeqAt.canLay_of_shaped shx
  cases dx with
  | @tup p xs _ at_ parts =>
    obtain rfl : v = .ref p := rx
    obtain ⟨its, vals, ⟨ob, there, isT, n, body⟩, -⟩ := inv.tuple at_
    obtain ⟨ocls, odict, odata, oslots⟩ := ob
    dsimp only at isT body
    subst isT body
    obtain ⟨as, readsx⟩ := Dp.readsAll inv ds xs its parts vals
    have many : (its.toArray.toList.countP fun u => PyData.eqv (SeqAt.readOf now.heap u) d) = ds.countP fun z => PyData.eqv z d := by
      conv => rhs; rw [← SeqAt.readsAll_map ds its as lay readsx, List.countP_map]
      rfl
    have meets := SeqAt.tuple_countAt p its.toArray n odict oslots uy fun u => PyData.eqv (SeqAt.readOf now.heap u) d
    refine call_meets PySem.F.slot_tuple_count ⟨_, there, rfl⟩ PySem.F.entry_tuple_count (PySem.F.args_tuple_count_2 _ _) meets ⟨there, ?_, V.int _, H, inv.tok _, ⟨_, rfl⟩, many.symm ▸ q⟩
    exact SeqAt.items_eqAt (vs := its.toArray) (xs := ds) (as := as) readsx readsy lay (SeqAt.canLay_of_shaped shy) (room_in_shaped shy hu)
/-- o.m(x), o a tuple, m a method of tuples -/
theorem pe_bmT {id : String} {r : V → List V → Hp → VK → Prop} {m : Str} {o x : Expr} {to : TE} {tx : TA} {at1 at2 : Pos} (slot : Slot "tuple" m id) (ty : typeOf (.builtin id) = pure (.type "method_descriptor")) (rule : MtR X id r) (ho : PE X o to) (ha : PA X [x] tx)
    (few : ((backTo at2 (starEach [x] X.env)).all (fun q => !q.1) && (backToKw at2 (keywordEach [] X.env)).all (fun q => q.1.isSome) && decide (([x] : List Expr).length + ([] : List Keyword).length + (if ([] : List Keyword).isEmpty then 0 else 1) < 30)) = true := by rfl)
    (base : attributeBase o m X.env (eval o X.env) = eval o X.env := by rfl) (one : starEach [x] X.env = (false, eval x X.env) :: starEach [] X.env := by rfl) (line : (at1.endLine == at2.line) = true := by rfl) :
    PE X (.Call (.Attribute o m at1) [x] [] at2) (fun σ H Q => to σ H fun x H1 => (∃ p xs, x = .ref p ∧ FTup H1 p xs) ∧ tx σ H1 fun xs H2 => r x xs H2 Q) :=
  ⟨fun pins now σ H Q inv wish => wpAny_Call_method_late base few line rfl <| thn (ho.run pins now σ H _ inv wish) fun v later got => by
    obtain ⟨_, H1, J, rx, ⟨p, xs, rfl, ob, at_, bare⟩, rest⟩ := got
    have rx' := rx
    obtain rfl : v = .ref p := rx
    obtain ⟨there, -, -, -, ob', there', isT, -⟩ := (show ObjOk X.prog X.w H1 later.heap p (.frz ob (.tup xs)) from J.hok p _ at_)
    obtain rfl : ob = ob' := Option.some.inj (there.symm.trans there')
    refine ⟨"tuple", id, PySem.F.plainAttrs_tuple, slot, ty, ⟨ob, there, isT⟩, fun a ea => ⟨ob, by cases ea; exact there, bare⟩, ?_⟩
    have args := ha.run at2 pins later σ H1 _ J rest
    rw [one] at args ⊢
    refine Calls.callWith_builtin rfl (Calls.evalArgs_plain ?_)
    exact thn args fun us last ⟨vs, H2, J2, rs, q⟩ => rule pins last σ H2 (.ref p) vs _ us Q J2 rx' rs q⟩
end
end M3


namespace M3
open PySem PySem.Spec PyProof.Rows L2

theorem units65 {k : Nat} {A : Around} (r : Room k A) : A.units + 65 < cLine := by have := r.un; omega
def clsB : Stmt → List Stmt
  | .ClassDef (body := inside) .. => inside
  | _ => []

/-! ### x = [..], x a list of one's own -/
section
variable {P : P3} {pos : Pos}
theorem ms_ownLc {i : Nat} {y : Str} {py spos : Pos} {elt tg iter : Expr} {ifs : List Expr} {scope : Scope} {own : List (Str × Nat)} {mi : FM} {g : GM} {gs : List Nat} {c : TM} {m : EM} (hc : P.X.calm = true) (hN : P.X.N.Nodup) (hi : MI P tg iter mi) (ok : BlkOk P.X.N P.X.env.scope scope own)
    (hg : ∀ (s : Shared) (H : Hp) (C : Addr) (cl : List (Str × Addr)) (fp : List Addr), MG (P.blk s H scope C cl fp) tg g gs) (ht : ∀ (s : Shared) (H : Hp) (C : Addr) (cl : List (Str × Addr)) (fp : List Addr), MIfs (P.blk s H scope C cl fp) ifs c)
    (he : ∀ (s : Shared) (H : Hp) (C : Addr) (cl : List (Str × Addr)) (fp : List Addr), ME (P.blk s H scope C cl fp) elt m)
    (hsw : swapsWith (.ListComp elt [⟨tg, iter, ifs, 0⟩] scope pos) (some (.Name y py)) spos.line P.X.env = pure true) (hy : P.X.N[i]? = some y := by rfl) (hyl : P.X.env.scope.names.lookup y = some .local := by rfl)
    (hgs : ∀ i ∈ gs, i ∈ own.map (·.2) := by decide) (hs : ∀ x, foldedSetIterable iter P.X.env x = pure x := by intro _; rfl) :
    MS P (.Assign [.Name y py] (.ListComp elt [⟨tg, iter, ifs, 0⟩] scope pos) spos) (sOwn i (fLc mi g c m (own.map (·.2)))) := by
  obtain ⟨ti, pi, hti⟩ := hi.out
  refine MS.mk' (ps_setLc (own := own) (g := tG P.G P.hx g gs) (tt := tT P.G P.hx noW c) (te := tE P.G P.hx noW m) hc hN hy hyl hsw pi ok (fun s H C cl fp => (hg s H C cl fp).pg) (fun s H C cl fp => (ht s H C cl fp).pts) (fun s H C cl fp => (he s H C cl fp).pe) hs) fun B0 B s o u z D b0 wd sl h => ?_
  refine lc_ok (tgt := tg) (iter := iter) (elt := elt) (ifs := ifs) hgs hti wd sl ?_
  unfold sOwn at h
  cases e : fLc mi g c m (own.map (·.2)) u o with
  | ok xs st' =>
    rw [e] at h
    exact fun s' p vs l w nb hp r => h (plus B p) s' _ (fun a q => .inl (b0 a q)) (l.less b0) w ((sl.mono' l).own nb (fun q => nb (b0 p q)) hp r i)
  | err c x st' => rw [e] at h; exact fun s' cv dd l w q => h B s' z cv dd b0 (l.less b0) w (sl.mono' l) q
  | bad => rw [e] at h; exact h

/-! ### a list of one's own is let go -/
def sFrz (i : Nat) : SM := fun u st => match u[i]? with
  | some (some (.bor xs)) => .nx (u.set i (some (.val (.lst xs)))) st
  | _ => .bad
theorem Slo.frz {G : G3} {X : Hex} {B0 B : Addr → Prop} {s : S3} {u : Sl3} {z : L2.St} {i : Nat} {xs : List D} {st : Store} (h : Slo G X B0 B s u z) (b0 : ∀ a, B0 a → B a) (wd : Wd G B st s) (e : u[i]? = some (some (.bor xs))) :
    ∃ (B' : Addr → Prop) (s' : S3), s'.H = s.H ∧ (∀ a, B0 a → B' a) ∧ Le B0 s s' ∧ Wd G B' st s' ∧ Slo G X B0 B' s' (u.set i (some (.val (.lst xs)))) z := by
  obtain ⟨hl, ow, h1, h2⟩ := h
  obtain ⟨v, e1, ⟨p, vs, rfl, bp, hp, rl⟩, q⟩ := h1 i _ e
  obtain ⟨e3, nb⟩ := q rfl
  injection e3 with e3
  subst e3
  have wd' : Wd G (plus (fun a => B a ∧ a ≠ ow i) (ow i)) st s := wd.less fun a z => z.elim (fun z => z.1) fun z => z ▸ bp
  have nB : ¬ (fun a => B a ∧ a ≠ ow i) (ow i) := fun z => z.2 rfl
  have le : Le B0 s ⟨s.io, upd s.F (ow i) (.lst vs), s.H⟩ := ⟨IoLe.refl _, same_upd (wd.hid (ow i) bp).1, fun _ _ => rfl⟩
  refine ⟨fun a => B a ∧ a ≠ ow i, ⟨s.io, upd s.F (ow i) (.lst vs), s.H⟩, rfl, fun a q => ⟨b0 a q, fun z => nb (z ▸ q)⟩, le, freeze_wd wd' nB hp, by simpa using hl, ow, fun j w ej => ?_, fun j k w w' o1 o2 q1 q2 q3 => ?_⟩
  · rcases get_set ej with ⟨rfl, rfl⟩ | ⟨ne, ej⟩
    · exact ⟨.ref (ow i), e1, Rep.lst upd_same (rl.mono le.fr le.io), fun q' => by cases q'⟩
    · obtain ⟨v, ev, rv, qv⟩ := h1 j w ej
      refine ⟨v, ev, ?_, qv⟩
      have away : w.own = true → ∀ p', v = .ref p' → p' ≠ ow i := fun ow' p' e' z => by
        obtain ⟨e4, _⟩ := qv ow'
        rw [e'] at e4
        injection e4 with e4
        exact ne (h2 i j (.bor xs) w rfl ow' e ej (by rw [← e4, z]))
      cases w with
      | val d => exact Rep.mono le.fr le.io rv
      | exn c x =>
        obtain ⟨ax, dd, x1, x2, xf⟩ := rv
        exact ⟨ax, dd, x1, x2, xf.mono le.io le.fr⟩
      | bor xs' =>
        obtain ⟨p', vs', rfl, b', hp', rl'⟩ := rv
        exact ⟨p', vs', rfl, ⟨b', away rfl p' rfl⟩, hp', rl'.mono le.fr le.io⟩
      | bod ks us =>
        obtain ⟨p', vs', rfl, b', hp', e', rl'⟩ := rv
        exact ⟨p', vs', rfl, ⟨b', away rfl p' rfl⟩, hp', e', rl'.mono le.fr le.io⟩
      | bdd ks us =>
        obtain ⟨p', vs', rfl, b', hp', rl'⟩ := rv
        exact ⟨p', vs', rfl, ⟨b', away rfl p' rfl⟩, hp', rl'.mono le.fr le.io⟩
      | len ys =>
        obtain ⟨p', vs', o, rfl, b', hp', rl'⟩ := rv
        exact ⟨p', vs', o, rfl, ⟨b', fun z => by subst z; rw [hp] at hp'; cases hp'⟩, hp', rl'.mono le.fr le.io⟩
  · rcases get_set q1 with ⟨_, z⟩ | ⟨_, q1⟩
    · subst z; cases o1
    · rcases get_set q2 with ⟨_, z⟩ | ⟨_, q2⟩
      · subst z; cases o2
      · exact h2 j k w w' o1 o2 q1 q2 q3
theorem frz_post {G : G3} {hx : Hex} {wx : WX} {B0 B : Addr → Prop} {s : S3} {D : Ends} {m : SM} {u : Sl3} {o : Store} {z : L2.St} {i : Nat} (b0 : ∀ a, B0 a → B a) (wd : Wd G B o s) (sl : Slo G hx B0 B s u z) (h : PostS G hx wx B0 s D (sSeq (sFrz i) m u o)) :
    ∃ (B' : Addr → Prop) (s' : S3) (u' : Sl3), s'.H = s.H ∧ (∀ a, B0 a → B' a) ∧ Wd G B' o s' ∧ Slo G hx B0 B' s' u' z ∧ PostS G hx wx B0 s' D (m u' o) := by
  unfold sSeq sFrz at h
  cases eu : u[i]? with
  | none => rw [eu] at h; exact h.elim
  | some ow =>
    rw [eu] at h
    cases ow with
    | none => exact h.elim
    | some w =>
      cases w with
      | bor xs =>
        obtain ⟨B', s', eH, b', le, wd', sl'⟩ := sl.frz b0 wd eu
        exact ⟨B', s', _, eH, b', wd', sl', PostS.mono le h⟩
      | _ => exact h.elim
theorem ms_frz {st : Stmt} {m : SM} (i : Nat) (h : MS P st m) : MS P st (sSeq (sFrz i) m) := by
  obtain ⟨t, pt, ht⟩ := h.out
  refine MS.mk' pt fun B0 B s o u z D b0 wd sl h => ?_
  obtain ⟨B', s', u', eH, b', wd', sl', hp⟩ := frz_post b0 wd sl h
  rw [← eH]
  exact ht B0 B' s' o u' z D b' wd' sl' hp

/-! ### (x, y) = e -/
def sAsg (m : EM) (g : GM) : SM := fun u st => match m u st with
  | .ok (.val d) st' => match g d u with
    | some u' => .nx u' st'
    | none => .bad
  | .ok _ _ => .bad
  | .err c x st' => .err c x u st'
  | .bad => .bad
theorem ms_asg {tg e : Expr} {m : EM} {g : GM} {gs : List Nat} (he : ME P e m) (hg : MG P tg g gs) (hs : swapsWithSole [tg] e pos.line P.X.env = pure false := by rfl) (hw : swappedStores [tg] e P.X.env = pure none := by rfl)
    (h1 : (assignEach [tg] P.X.env).map (·.2) = [assign tg P.X.env] := by rfl) : MS P (.Assign [tg] e pos) (sAsg m g) := by
  obtain ⟨t, pt, ht⟩ := he.out
  refine MS.mk' (ps_asg pt hg.pg hs hw h1) fun B0 B s o u z D b0 wd sl h => ht B0 B s o u z _ wd sl ?_
  unfold sAsg at h
  cases e : m u o with
  | bad => rw [e] at h; exact h
  | err c x st' => rw [e] at h; exact fun s' cv dd l w q => h B s' z cv dd b0 (l.less b0) w (sl.mono' l) q
  | ok w st' =>
    rw [e] at h
    cases w with
    | val d =>
      dsimp only at h
      intro s' v l w r
      cases eg : g d u with
      | none => rw [eg] at h; exact h.elim
      | some u' =>
        rw [eg] at h
        exact ⟨B0, B, s', st', u, d, u', rfl, w, sl.mono' l, r, eg, fun z' sl' _ => h B s' z' b0 (l.less b0) w sl'⟩
    | _ => exact h.elim

/-! ### x[i] = e, x.pop(), x a list of one's own -/
/-- how the model takes o[i] = v apart -/
abbrev SubParts (X : Cx) (o i : Expr) (at1 : Pos) : Prop := ∀ v, assign (.Subscript o i at1) X.env v =
  (do let ov ← holding [v] (eval o X.env); let iv ← holding [v, ov] (eval i X.env); standAt at1; holding [v, ov, iv] (setItem ov iv v); release [v, ov, iv] [])
def sSetI (i : Nat) (mi me : EM) : SM := fun u st => match u[i]? with
  | some (some (.bor xs)) => match me u st with
    | .ok (.val d) st1 => match mi u st1 with
      | .ok (.val (.int j)) st2 => match ixN xs.length j with
        | some k => .nx (u.set i (some (.bor (xs.set k d)))) st2
        | none => .bad
      | .err c x st2 => .err c x u st2
      | _ => .bad
    | .err c x st1 => .err c x u st1
    | _ => .bad
  | _ => .bad
theorem ms_setI (i : Nat) {x : Str} {px ipos : Pos} {ei e : Expr} {mi me : EM} (hi : ME P ei mi) (he : ME P e me) (hN : P.X.N[i]? = some x := by rfl) (hv : Vis P.X.env.scope x := by first | exact Or.inl rfl | exact Or.inr (Or.inl rfl) | exact Or.inr (Or.inr rfl)) (hd : (x == ("__debug__" : Str)) = false := by decide)
    (hcd : (x == ("__classdict__" : Str)) = false := by decide)
    (ha : SubParts P.X (.Name x px) ei ipos := by intro _; rfl)
    (hs : swapsWithSole [.Subscript (.Name x px) ei ipos] e pos.line P.X.env = pure false := by rfl) (hw : swappedStores [.Subscript (.Name x px) ei ipos] e P.X.env = pure none := by rfl)
    (h1 : (assignEach [.Subscript (.Name x px) ei ipos] P.X.env).map (·.2) = [assign (.Subscript (.Name x px) ei ipos) P.X.env] := by rfl) :
    MS P (.Assign [.Subscript (.Name x px) ei ipos] e pos) (sSetI i mi me) := by
  obtain ⟨t, pt, ht⟩ := he.out
  obtain ⟨ti, pi, hti⟩ := hi.out
  refine MS.mk' (ps_asg pt (pg_sub (pe_var hN hv hd hcd) pi set_list ha) hs hw h1) fun B0 B s o u z D b0 wd sl h => ht B0 B s o u z _ wd sl ?_
  unfold sSetI at h
  split at h
  · rename_i xs eu
    obtain ⟨p, vs, e2, bp, nb, hp, rl, _⟩ := sl.change (ys := []) wd eu
    cases e : me u o with
    | bad => rw [e] at h; exact h
    | err c x st' => rw [e] at h; exact fun s' cv dd l w q => h B s' z cv dd b0 (l.less b0) w (sl.mono' l) q
    | ok w st1 =>
      rw [e] at h
      cases w with
      | val d =>
        dsimp only at h
        intro s1 v l1 wd1 r1
        refine ⟨.ref p, e2, hti B0 B s1 st1 u z _ wd1 (sl.mono' l1) ?_⟩
        cases e3 : mi u st1 with
        | bad => rw [e3] at h; exact h
        | err c x st' => rw [e3] at h; exact fun s' cv dd l w q => h B s' z cv dd b0 ((l1.trans l).less b0) w (sl.mono' (l1.trans l)) q
        | ok w2 st2 =>
          rw [e3] at h
          split at h
          · rename_i j st3 e4
            cases e4
            split at h
            · rename_i k ek
              intro s2 v2 l2 wd2 r2
              cases r2
              obtain ⟨p', vs', e2', bp', nb', hp', rl', ch⟩ := (sl.mono' (l1.trans l2)).change (ys := xs.set k d) wd2 eu
              rw [e2] at e2'; cases e2'
              obtain ⟨sl3, w3, l3⟩ := ch (vs'.set k v) (RepL.set (Rep.mono l2.fr l2.io r1) k rl')
              exact ⟨p, vs', j, k, rfl, rfl, hp', by rw [← rl'.length]; exact ek, h B _ z b0 (((l1.trans l2).less b0).trans l3) w3 sl3⟩
            · exact h.elim
          · rename_i e4; cases e4
          · exact h.elim
      | _ => exact h.elim
  · exact h.elim
/-- x.pop() -/
def sPop (i : Nat) : SM := fun u st => match u[i]? with
  | some (some (.bor xs)) => if xs.isEmpty = true then .bad else .nx (u.set i (some (.bor xs.dropLast))) st
  | _ => .bad
theorem dropLast_rep {K : KW} {F : Hp} {io : Io} {xs : List D} {vs : List V} (r : RepL K F io xs vs) : RepL K F io xs.dropLast vs.dropLast := by
  rw [List.dropLast_eq_take, List.dropLast_eq_take, r.length]
  exact r.take _
theorem ms_pop (i : Nat) {x : Str} {px apos cpos : Pos} (hN : P.X.N[i]? = some x := by rfl) (hv : Vis P.X.env.scope x := by first | exact Or.inl rfl | exact Or.inr (Or.inl rfl) | exact Or.inr (Or.inr rfl)) (hd : (x == ("__debug__" : Str)) = false := by decide)
    (hcd : (x == ("__classdict__" : Str)) = false := by decide)
    (hbase : attributeBase (.Name x px) "pop" P.X.env (eval (.Name x px) P.X.env) = eval (.Name x px) P.X.env := by rfl) (hline : (apos.endLine == cpos.line) = true := by rfl)
    (hs : swapsWith (.Call (.Attribute (.Name x px) "pop" apos) [] [] cpos) none pos.line P.X.env = pure false := by rfl) :
    MS P (.Expr (.Call (.Attribute (.Name x px) "pop" apos) [] [] cpos) pos) (sPop i) := by
  refine MS.mk' (ps_expr (pe_bm0 PySem.F.plainAttrs_list PySem.F.slot_list_pop PySem.F.type_list_pop mt_pop (pe_var hN hv hd hcd) hbase hline) hs) fun B0 B s o u z D b0 wd sl h => ?_
  unfold sPop at h
  split at h
  · rename_i xs e1
    split at h
    · exact h.elim
    · rename_i hne
      obtain ⟨p, vs, e2, bp, nb, hp, rl, ch⟩ := sl.change (ys := xs.dropLast) wd e1
      refine ⟨.ref p, e2, .inl ⟨rfl, vs, .inl (.inl hp)⟩, ?_⟩
      have hl : vs.length - 1 < vs.length := by
        have : xs ≠ [] := fun z => hne (by rw [z]; rfl)
        have := List.length_pos_iff.mpr this
        rw [rl.length] at this
        omega
      obtain ⟨sl2, w2, l2⟩ := ch vs.dropLast (dropLast_rep rl)
      exact ⟨p, vs, vs[vs.length - 1], rfl, rfl, hp, List.getElem?_eq_getElem hl, h B _ z b0 l2 w2 sl2⟩
  · exact h.elim

/-! ### t.count(x), t a tuple -/
def W.tup? : W → Option (List D)
  | .val (.tup xs) => some xs
  | _ => none
def cntF (xs : List D) (w : W) : Option W := w.rd.bind fun d => match D.pys xs, d.py with
  | some ps, some p => if SeqAt.shaped p = true ∧ SeqAt.shaped (.tuple ps) = true then some (.val (.int ((ps.countP fun z => PyData.eqv z p : Nat) : Int))) else none
  | _, _ => none
def eCnt (a b : EM) : EM := fun u => M.bind (a u) fun x => M.bind (M.of x.tup?) fun xs => M.bind (b u) fun y => M.of (cntF xs y)
theorem me_cnt {o e : Expr} {apos cpos : Pos} {mo me : EM} (hu : P.X.A.units + 65 < cLine) (ho : ME P o mo) (he : ME P e me)
    (hbase : attributeBase o "count" P.X.env (eval o P.X.env) = eval o P.X.env := by rfl) (hline : (apos.endLine == cpos.line) = true := by rfl) (hs : starEach [e] P.X.env = (false, eval e P.X.env) :: starEach [] P.X.env := by rfl)
    (hfew : ((backTo cpos (starEach [e] P.X.env)).all (fun q => !q.1) && (backToKw cpos (keywordEach [] P.X.env)).all (fun q => q.1.isSome) && decide (([e] : List Expr).length + ([] : List Keyword).length + (if ([] : List Keyword).isEmpty then 0 else 1) < 30)) = true := by rfl) :
    ME P (.Call (.Attribute o "count" apos) [e] [] cpos) (eCnt mo me) := by
  obtain ⟨to, po, hto⟩ := ho.out
  obtain ⟨te, pe, hte⟩ := he.out
  refine ME.mk' (pe_bmT PySem.F.slot_tuple_count PySem.F.type_tuple_count (mt_countT hu) po (pa_cons pe pa_nil hs) hfew hbase hs hline) fun B0 B s st u z Q wd sl h => hto B0 B s st u z _ wd sl (Post.bind h fun w st1 s1 v l1 wd1 r1 h1 => ?_)
  obtain ⟨xs, ex, h1⟩ := Post.of_of h1
  obtain rfl : w = .val (.tup xs) := by
    unfold W.tup? at ex
    split at ex
    · cases ex; rfl
    · cases ex
  cases r1 with
  | tup hq rl =>
    refine ⟨⟨_, _, rfl, hq.mono wd1.sub⟩, hte B0 B s1 st1 u z _ wd1 (sl.mono' l1) (Post.bind h1 fun w2 st2 s2 v2 l2 wd2 r2 h2 => ?_)⟩
    obtain ⟨w3, e3, h2⟩ := of_eq h2
    unfold cntF at e3
    cases h1 : w2.rd with
    | none => rw [h1] at e3; cases e3
    | some d =>
      rw [h1, Option.bind_some] at e3
      split at e3
      · rename_i ps p' eps ep
        split at e3
        · rename_i hsh
          cases e3
          refine ⟨v2, p', ps, rfl, ?_, ?_, hsh.2, hsh.1, h2.pure wd2 .int⟩
          · rw [P.hK]; exact .tup ((hq.mono l2.fr).mono wd2.sub).sq (pys_ok (rl.mono (l2.fr.trans wd2.sub) l2.io) eps)
          · rw [P.hK]; exact py_ok (rd_ok wd2 r2 h1) ep
        · cases e3
      · cases e3
end

/-! ### C.m(..), m a staticmethod of the own class C -/
/-- what may be called: at f, by its mirror -/
structure CalF (Pg : Program) (w : World) (K : PySem.W.Frag) (mg : Str → Option Value) (base : Heap) (G : G3) (k : Nat) (f : Addr) (n : Nat) (m : List D → M D) : Prop where
  ex : ∃ fd ps, PySem.W.keepIn K (.ref f) = true ∧ Binds K fd ps [] ∧ ps.length = n ∧ FnOk Pg w K mg base (L2.CX Pg w) k f fd ps (spM G n m)
structure Sm (K : PySem.W.Frag) (C : Addr) (m : Str) (f : Addr) : Prop where
  rd : ClX.CRead K C (.type "type")
  ex : ∃ p rest, PySem.W.findCls K (.ref C) (.type "type") m = some (.get (.builtin "staticmethod.__get__") (.ref p) .none (.ref C)) ∧ PySem.W.recIn K p "staticmethod" = some (.ref f :: rest)
  hv : PySem.W.handedIn (.ref f) = true
/-- how the model takes o.m(..) apart -/
abbrev MethParts (X : Cx) (o : Expr) (m : Str) (at1 at2 : Pos) (es : List Expr) (pl : Sem Bool) : Prop := eval (.Call (.Attribute o m at1) es [] at2) X.env =
  (do let ov ← eval o X.env; standAt at1.atName; let (f, first) ← holding [ov] (getMethod ov m pl); callWith at2 f first (backTo at2 (starEach es X.env)) (backToKw at2 (keywordEach [] X.env)))
section
variable {X : Cx} {CX : CXT} {k : Nat} {C f : Addr} {fd : FuncData} {ps : List Str} {sp : Sp} {E : L2.St → XK} {o e : Expr} {es : List Expr} {m : Str} {pos apos : Pos} {ta : TE} {t : TA} {pl : Sem Bool}
theorem pe_smeth (he : PE X o ta) (c : Sm X.K C m f) (F : FnOk X.prog X.w X.K X.mg X.base CX k f fd ps sp) (hr : Room k X.A) (hk : PySem.W.keepIn X.K (.ref f) = true) (hb : Binds X.K fd ps []) (hx : ∀ σ, PassesAt CX X σ (E σ)) (ha : PA X (e :: es) t)
    (one : starEach (e :: es) X.env = (false, eval e X.env) :: starEach es X.env := by rfl) (plain : (backTo pos (starEach es X.env)).any (·.1) = false := by rfl) (parts : MethParts X o m apos pos (e :: es) pl := by rfl) :
    PE X (.Call (.Attribute o m apos) (e :: es) [] pos) (fun σ H Q => ta σ H fun x H1 => x = .ref C ∧ t σ H1 fun vs H2 => sp vs H2 Q (E σ)) :=
  ⟨fun pins now σ H Q inv wish => PySem.W.methodCall_KW (pl := pl) (thn (he.run pins now σ H _ inv wish) fun v later got => by
    obtain ⟨_, H1, J, rx, rfl, rest⟩ := got
    obtain rfl : v = .ref C := rx
    obtain ⟨p, more, at_, rec_⟩ := c.ex
    have J' := J.tok (later.toks + 1)
    have args := ha.run pos pins _ σ H1 _ J' rest
    refine PySem.W.method_cls J.kIn c.rd.ga (PySem.W.cls_bind J.kIn c.rd.rd at_ (wpAny_call (PySem.W.sm_get (s := { later with toks := later.toks + 1 }) J.kIn rec_ (PySem.W.handed_on c.hv ?_))))
    exact PySem.W.callWith_K (h₀ := X.base) J.ok.mod.kin hk (thn args fun us last ⟨vs, H2, J2, rs, q⟩ => ⟨J2.kIn, run_fnS F hr hb (hx σ) J2 rs q⟩) one plain) parts⟩
end
section
variable {P : P3} {pos p apos : Pos} {x m : Str} {e : Expr} {es : List Expr} {ma : AM} {mf : List D → M D} {k j n : Nat} {C f : Addr}
/-- a staticmethod of the class x that may be called -/
structure CalS (Pg : Program) (w : World) (K : PySem.W.Frag) (mg : Str → Option Value) (base : Heap) (G : G3) (k : Nat) (x m : Str) (n : Nat) (mf : List D → M D) : Prop where
  ex : ∃ C f, mg x = some (.ref C) ∧ Sm K C m f ∧ CalF Pg w K mg base G k f n mf
theorem me_gstr {z : Str} (hg : Gl P.X x) (h : ∃ t, P.X.mg x = some (.str z t)) (hd : (x == ("__debug__" : Str)) = false := by decide) : ME P (.Name x pos) (eC (.str z)) :=
  let ⟨_, h⟩ := h
  me_glob (v := .str z) hg h ⟨_, rfl⟩ (fun _ _ => .str) hd
theorem me_gint {z : Int} (hg : Gl P.X x) (h : ∃ t, P.X.mg x = some (.int z t)) (hd : (x == ("__debug__" : Str)) = false := by decide) : ME P (.Name x pos) (eC (.int z)) :=
  let ⟨_, h⟩ := h
  me_glob (v := .int z) hg h ⟨_, rfl⟩ (fun _ _ => .int) hd
/-- a module constant that is a tuple of texts -/
structure GTup (K : PySem.W.Frag) (mg : Str → Option Value) (x : Str) (zs : List Str) : Prop where
  ex : ∃ p o its n, mg x = some (.ref p) ∧ K.lookup p = some o ∧ o.cls = .type "tuple" ∧ o.data = .seq its n ∧ its.size ≤ sizeLine ∧ Vals (zs.map V.str) its.toList
theorem me_gtup {zs : List Str} (hg : Gl P.X x) (h : GTup P.X.K P.X.mg x zs) (hd : (x == ("__debug__" : Str)) = false := by decide) : ME P (.Name x pos) (eC (.ctup (zs.map .str))) := by
  obtain ⟨p, o, its, n, hm, lk, cl, da, sz, vs⟩ := h.ex
  exact me_glob (v := .ref p) hg hm rfl (fun F io => .ctup (.inr ⟨o, its, n, by show P.G.K.lookup p = _; rw [← P.hK]; exact lk, cl, da, sz, vs⟩) (rep_strs zs)) hd
theorem me_smeth (c : CalS P.X.prog P.X.w P.X.K P.X.mg P.X.base P.G k x m n mf) (hr : Room j P.X.A) (hk : k ≤ j) (tk : Takes P.X P.wx) (hg : Gl P.X x) (ha : MA P (e :: es) ma)
    (hdb : (x == ("__debug__" : Str)) = false := by decide) (he : starEach (e :: es) P.X.env = (false, eval e P.X.env) :: starEach es P.X.env := by rfl) (hpl : (backTo pos (starEach es P.X.env)).any (·.1) = false := by rfl)
    {pl : Sem Bool} (hT : MethParts P.X (.Name x p) m apos pos (e :: es) pl := by rfl) :
    ME P (.Call (.Attribute (.Name x p) m apos) (e :: es) [] pos) (eCall n mf ma) := by
  obtain ⟨C, f, hm, sm, c⟩ := c.ex
  obtain ⟨fd, ps, hkp, hb, hn, F⟩ := c.ex
  obtain ⟨t, pt, ht⟩ := ha.out
  refine ME.mk' (pe_smeth (pe_glob (v := .ref C) hg hm rfl hdb) sm F (hr.mono hk) hkp hb (fun σ => passAt tk σ) pt he hpl hT) fun B0 B s st u z Q wd sl h => ⟨rfl, ht B0 B s st u z _ wd sl (Post.bind h fun ws st1 s1 vs l1 wd1 r1 h1 => ?_)⟩
  obtain ⟨ds, e, h1⟩ := Post.of_of h1
  obtain ⟨hl, h1⟩ := Post.of_chk h1
  have rl := asDs_ok r1 e
  refine ⟨by rw [← rl.length]; exact hl, B, s1, st1, ds, rfl, wd1, rl, ?_⟩
  unfold M.bind at h1
  cases em : mf ds st1 with
  | ok d st' => rw [em] at h1; exact fun s' v l w r => h1 s' v l w r
  | err c x st' => rw [em] at h1; exact h1
  | bad => rw [em] at h1; exact h1
end
end M3


namespace M3
open PySem PySem.Spec PyProof.Rows L2

/-! ### a thing of one's own is let go, changed -/
section
variable {G : G3} {X : Hex} {B0 B : Addr → Prop} {s : S3} {u : Sl3} {z : L2.St} {st : Store}
theorem own_put {p : Addr} (w : Wd G (plus B p) st s) (nb : ¬ B p) (o : HO) (nt : OwnH o := by exact ⟨fun _ q => (by cases q), fun _ _ q => (by first | exact dkO_code q | exact cellO_code q | (unfold LamX.CodeO at q; cases q))⟩) : Wd G (plus B p) st ⟨s.io, s.F, upd s.H p o⟩ := by
  have hF := (w.hid p (.inr rfl)).1
  refine ⟨fun b v e => ?_, fun a b => ?_, w.ftb, w.dom, w.inj, fun k v e t => ?_, w.untM (IoLe.refl _) (Same.refl _), w.tabM (Same.refl _) (upd_tbl (w.ntbl (.inr rfl)))⟩
  · show upd s.H p o b = some v
    rw [upd_ne (fun q => by subst q; have e : s.F b = some v := e; rw [hF] at e; cases e)]
    exact w.sub b v e
  · by_cases q : a = p
    · subst q; exact ⟨hF, o, upd_same, nt⟩
    · obtain ⟨h1, v, h2, h3⟩ := w.hid a b
      exact ⟨h1, v, by show upd s.H p o a = some v; rw [upd_ne q]; exact h2, h3⟩
  · obtain ⟨a, e1, b1, f1, o1⟩ := w.obj k v e t
    have na : a ≠ p := fun q => b1 (.inr q)
    exact ⟨a, e1, b1, f1, ObjR.mono (s := s) (s' := ⟨s.io, s.F, upd s.H p o⟩) (IoLe.refl _) (Same.refl _) (upd_ne na) o1⟩
theorem Slo.frzG {i : Nat} {w0 : W} (h : Slo G X B0 B s u z) (b0 : ∀ a, B0 a → B a) (wd : Wd G B st s) (e : u[i]? = some (some w0)) (o0 : w0.own = true) :
    ∃ p, z[i]? = some (some (.ref p)) ∧ B p ∧ ¬ B0 p ∧ RepW G X B s w0 (.ref p) ∧ ∀ (ho : HO) (d : D), OwnH ho → Rep G.R (upd s.F p ho) s.io d (.ref p) →
      ∃ (B' : Addr → Prop) (s' : S3), s'.H = upd s.H p ho ∧ (∀ a, B0 a → B' a) ∧ Le B0 s s' ∧ Wd G B' st s' ∧ Slo G X B0 B' s' (u.set i (some (.val d))) z := by
  obtain ⟨hl, ow, h1, h2⟩ := h
  obtain ⟨v, e1, rw0, q⟩ := h1 i _ e
  obtain ⟨e3, nb⟩ := q o0
  subst e3
  obtain ⟨p, e3, bp⟩ := own_ref o0 rw0
  injection e3 with e3
  subst e3
  refine ⟨ow i, e1, bp, nb, rw0, fun ho d nt rd => ?_⟩
  have wd1 : Wd G (plus (fun a => B a ∧ a ≠ ow i) (ow i)) st s := wd.less fun a y => y.elim (fun y => y.1) fun y => y ▸ bp
  have nB : ¬ (fun a => B a ∧ a ≠ ow i) (ow i) := fun y => y.2 rfl
  have hF := (wd.hid (ow i) bp).1
  have wd2 := freeze_wd (own_put wd1 nB ho nt) nB upd_same
  have le : Le B0 s ⟨s.io, upd s.F (ow i) ho, upd s.H (ow i) ho⟩ := ⟨IoLe.refl _, same_upd hF, fun a ba => upd_ne fun y => nb (y ▸ ba)⟩
  refine ⟨fun a => B a ∧ a ≠ ow i, ⟨s.io, upd s.F (ow i) ho, upd s.H (ow i) ho⟩, rfl, fun a y => ⟨b0 a y, fun y' => nb (y' ▸ y)⟩, le, wd2, by simpa using hl, ow, fun j w ej => ?_, fun j k w w' o1 o2 q1 q2 q3 => ?_⟩
  · rcases get_set ej with ⟨rfl, rfl⟩ | ⟨ne, ej⟩
    · exact ⟨.ref (ow i), e1, rd, fun q' => by cases q'⟩
    · obtain ⟨v, ev, rv, qv⟩ := h1 j w ej
      refine ⟨v, ev, ?_, qv⟩
      have away : w.own = true → ∀ p', v = .ref p' → p' ≠ ow i := fun ow' p' e' y => by
        obtain ⟨e4, _⟩ := qv ow'
        rw [e'] at e4
        injection e4 with e4
        exact ne (h2 i j w0 w o0 ow' e ej (by rw [← e4, y]))
      cases w with
      | val d => exact Rep.mono le.fr le.io rv
      | exn c x =>
        obtain ⟨ax, dd, x1, x2, xf⟩ := rv
        exact ⟨ax, dd, x1, x2, xf.mono le.io le.fr⟩
      | bor xs' =>
        obtain ⟨p', vs', rfl, b', hp', rl'⟩ := rv
        exact ⟨p', vs', rfl, ⟨b', away rfl p' rfl⟩, (upd_ne (away rfl p' rfl)).trans hp', rl'.mono le.fr le.io⟩
      | bod ks us =>
        obtain ⟨p', vs', rfl, b', hp', e', rl'⟩ := rv
        exact ⟨p', vs', rfl, ⟨b', away rfl p' rfl⟩, (upd_ne (away rfl p' rfl)).trans hp', e', rl'.mono le.fr le.io⟩
      | bdd ks us =>
        obtain ⟨p', vs', rfl, b', hp', rl'⟩ := rv
        exact ⟨p', vs', rfl, ⟨b', away rfl p' rfl⟩, (upd_ne (away rfl p' rfl)).trans hp', rl'.mono le.fr le.io⟩
      | len ys =>
        obtain ⟨p', vs', o, rfl, b', hp', rl'⟩ := rv
        have ne := own_unlocked o0 rw0 hp'
        exact ⟨p', vs', o, rfl, ⟨b', ne⟩, (upd_ne ne).trans hp', rl'.mono le.fr le.io⟩
  · rcases get_set q1 with ⟨_, y⟩ | ⟨_, q1⟩
    · subst y; cases o1
    · rcases get_set q2 with ⟨_, y⟩ | ⟨_, q2⟩
      · subst y; cases o2
      · exact h2 j k w w' o1 o2 q1 q2 q3
end
/-- the thing at a place of one's choice is locked from here on -/
theorem ps_lockOn {X : Cx} {st : Stmt} {t : TS} (h : PS X st t) : PS X st (fun D σ H => t D σ H ∨ ∃ d u, H d = some u ∧ Mut (some u) ∧ ∀ od, t D σ (upd H d (.frz od u))) :=
  ⟨fun pins s σ H D I q => q.elim (h.run pins s σ H D I) fun ⟨_, _, hd, mu, hw⟩ =>
    let ⟨od, I1⟩ := I.lock hd mu
    h.run pins s σ _ D I1 (hw od)⟩
theorem pe_lockOn {X : Cx} {e : Expr} {t : TE} (h : PE X e t) : PE X e (fun σ H Q => t σ H fun v H' => ∃ d u, v = .ref d ∧ H' d = some u ∧ Mut (some u) ∧ ∀ od, Q v (upd H' d (.frz od u))) :=
  ⟨fun pins s σ H Q I q => thn (h.run pins s σ H _ I q) fun v s1 ⟨x, H1, I1, r1, d, u, ex, hd, mu, hw⟩ =>
    let ⟨od, I2⟩ := I1.lock hd mu
    ⟨x, _, I2, r1, hw od⟩⟩
/-- a dict of one's own is let go -/
def sFrzD (i : Nat) : SM := fun u st => match u[i]? with
  | some (some (.bod ks us)) => .nx (u.set i (some (.val (.dict ks us)))) st
  | _ => .bad
section
variable {P : P3} {pos : Pos}
theorem ms_frzD {st : Stmt} {m : SM} (i : Nat) (h : MS P st m) : MS P st (sSeq (sFrzD i) m) := by
  obtain ⟨t, pt, ht⟩ := h.out
  refine MS.mk' (ps_lockOn pt) fun B0 B s o u z D b0 wd sl h => ?_
  unfold sSeq sFrzD at h
  cases eu : u[i]? with
  | none => rw [eu] at h; exact h.elim
  | some ow =>
    rw [eu] at h
    cases ow with
    | none => exact h.elim
    | some w =>
      cases w with
      | bod ks us =>
        obtain ⟨p, ez, bp, nb, ⟨p', kvs, e', _, hp, ek, rl⟩, fz⟩ := sl.frzG b0 wd eu rfl
        cases e'
        refine .inr ⟨p, .dK kvs, hp, True.intro, fun od => ?_⟩
        have hF := (wd.hid p bp).1
        obtain ⟨B', s', eH, b', le, wd', sl'⟩ := fz (.frz od (.dK kvs)) (.dict ks us) (by exact ⟨fun _ q => (by cases q), fun _ _ q => (by first | exact dkO_code q | exact cellO_code q | (unfold LamX.CodeO at q; cases q))⟩) (.dict upd_same ek (rl.mono (same_upd hF) (IoLe.refl _)))
        rw [← eH]
        exact ht B0 B' s' o _ z D b' wd' sl' (PostS.mono le h)
      | _ => exact h.elim
/-- x = {}, x a dict of one's own -/
def sOwnD (i : Nat) : SM := fun u st => .nx (u.set i (some (.bod [] []))) st
theorem ms_ownD (i : Nat) {x : Str} {p dp : Pos} (hN : P.X.N.Nodup) (hi : P.X.N[i]? = some x := by rfl) (hx : Loc P.X.env.scope x := by first | exact Or.inl rfl | exact Or.inr rfl) (hs : swapsWith (.Dict [] [] dp) (some (.Name x p)) pos.line P.X.env = pure false := by rfl)
    (hf : P.X.fn x = true ∨ P.X.env.scope.names.lookup x = some .local := by first | exact .inl rfl | exact .inr rfl | assumption) : MS P (.Assign [.Name x p] (.Dict [] [] dp) pos) (sOwnD i) := by
  refine MS.mk' (ps_set hN hi hx pe_dnewK hs hf) fun B0 B s o u z D b0 wd sl h => fun p hp => ?_
  obtain ⟨w2, l2⟩ := own_wd (ho := .dK []) wd hp
  have nb : ¬ B p := wd.freshB hp
  exact h (plus B p) ⟨s.io, s.F, upd s.H p (.dK [])⟩ _ (fun a q => .inl (b0 a q)) (l2.less b0) w2 ((sl.mono' l2).ownW (w0 := .bod [] []) nb (fun q => nb (b0 p q)) ⟨p, [], rfl, .inr rfl, upd_same, rfl, .nil⟩ i)
/-- return d, d a dict of one's own -/
def sRetD (i : Nat) : SM := fun u st => match u[i]? with
  | some (some (.bod ks us)) => .rt (.val (.dict ks us)) st
  | _ => .bad
theorem ms_retD (i : Nat) {x : Str} {p : Pos} (hN : P.X.N[i]? = some x := by rfl) (hv : Vis P.X.env.scope x := by first | exact Or.inl rfl | exact Or.inr (Or.inl rfl) | exact Or.inr (Or.inr rfl)) (hd : (x == ("__debug__" : Str)) = false := by decide)
    (hcd : (x == ("__classdict__" : Str)) = false := by decide) : MS P (.Return (some (.Name x p)) pos) (sRetD i) := by
  refine MS.mk' (ps_ret (pe_lockOn (pe_var hN hv hd hcd))) fun B0 B s o u z D b0 wd sl h => ?_
  unfold sRetD at h
  split at h
  · rename_i ks us eu
    obtain ⟨p, ez, bp, nb, ⟨p', kvs, e', _, hp, ek, rl⟩, fz⟩ := sl.frzG b0 wd eu rfl
    cases e'
    refine ⟨.ref p, ez, p, .dK kvs, rfl, hp, True.intro, fun od => ?_⟩
    have hF := (wd.hid p bp).1
    have rd : Rep P.G.R (upd s.F p (.frz od (.dK kvs))) s.io (.dict ks us) (.ref p) := .dict upd_same ek (rl.mono (same_upd hF) (IoLe.refl _))
    have wd1 : Wd P.G (plus (fun a => B a ∧ a ≠ p) p) o s := wd.less fun a y => y.elim (fun y => y.1) fun y => y ▸ bp
    have nB : ¬ (fun a => B a ∧ a ≠ p) p := fun y => y.2 rfl
    exact h (fun a => B a ∧ a ≠ p) ⟨s.io, upd s.F p (.frz od (.dK kvs)), upd s.H p (.frz od (.dK kvs))⟩ (.ref p) (fun a y => ⟨b0 a y, fun y' => nb (y' ▸ y)⟩)
      ⟨IoLe.refl _, same_upd hF, fun a ba => upd_ne fun y => nb (y ▸ ba)⟩ (freeze_wd (own_put wd1 nB _) nB upd_same) rd
  · exact h.elim

/-! ### x[k] = e, x a dict of one's own -/
def sSetK (i : Nat) (mi me : EM) : SM := fun u st => match u[i]? with
  | some (some (.bod ks us)) => match me u st with
    | .ok (.val d) st1 => match mi u st1 with
      | .ok (.val k) st2 => match k.key with
        | some k => if ks.length < 1000000 then .nx (u.set i (some (.bod (putK3 ks us k d).1 (putK3 ks us k d).2))) st2 else .bad
        | none => .bad
      | .err c x st2 => .err c x u st2
      | _ => .bad
    | .err c x st1 => .err c x u st1
    | _ => .bad
  | _ => .bad
theorem setK3_ok {κ : Type} [DecidableEq κ] {K : KW} {F : Hp} {io : Io} (x : κ) {d : D} {v : V} (rd : Rep K F io d v) : ∀ {kvs : List (κ × V)} {us : List D}, RepL K F io us (kvs.map (·.2)) →
    RepL K F io (setK3 (kvs.map (·.1)) us x d) ((kvs.map fun kv => if kv.1 = x then (kv.1, v) else kv).map (·.2))
  | [], _, rl => by
    cases rl
    exact .nil
  | (k, w) :: kvs, [], rl => by cases rl
  | (k, w) :: kvs, c :: us, rl => by
    obtain ⟨r, t⟩ : Rep K F io c w ∧ RepL K F io us (kvs.map (·.2)) := by
      cases rl with
      | cons r t => exact ⟨r, t⟩
    have ih := setK3_ok x rd t
    simp only [List.map_cons, setK3]
    by_cases h : k = x
    · rw [if_pos h, if_pos h]; exact .cons rd ih
    · rw [if_neg h, if_neg h]; exact .cons r ih
theorem putK3_ok {κ : Type} [DecidableEq κ] {K : KW} {F : Hp} {io : Io} (x : κ) {d : D} {v : V} (rd : Rep K F io d v) {kvs : List (κ × V)} {us : List D} (rl : RepL K F io us (kvs.map (·.2))) :
    (putK kvs x v).map (·.1) = (putK3 (kvs.map (·.1)) us x d).1 ∧ RepL K F io (putK3 (kvs.map (·.1)) us x d).2 ((putK kvs x v).map (·.2)) := by
  have e : ((kvs.any fun kv => decide (kv.1 = x)) = true) = (x ∈ kvs.map (·.1)) := by
    apply propext
    rw [List.any_eq_true, List.mem_map]
    exact ⟨fun ⟨p, hp, h⟩ => ⟨p, hp, of_decide_eq_true h⟩, fun ⟨p, hp, h⟩ => ⟨p, hp, decide_eq_true h⟩⟩
  unfold putK putK3
  by_cases h : x ∈ kvs.map (·.1)
  · rw [if_pos (by rw [e]; exact h), if_pos h]
    refine ⟨?_, setK3_ok x rd rl⟩
    rw [List.map_map]
    apply List.map_congr_left
    intro p _
    simp only [Function.comp]
    split <;> rfl
  · rw [if_neg (by rw [e]; exact h), if_neg h]
    simp only [List.map_append, List.map_cons, List.map_nil]
    exact ⟨trivial, rl.append (.cons rd .nil)⟩
theorem ms_setK (i : Nat) {x : Str} {px ipos : Pos} {ei e : Expr} {mi me : EM} (hu : P.X.A.units + 65 < cLine) (hi : ME P ei mi) (he : ME P e me) (hN : P.X.N[i]? = some x := by rfl) (hv : Vis P.X.env.scope x := by first | exact Or.inl rfl | exact Or.inr (Or.inl rfl) | exact Or.inr (Or.inr rfl)) (hd : (x == ("__debug__" : Str)) = false := by decide)
    (hcd : (x == ("__classdict__" : Str)) = false := by decide)
    (ha : SubParts P.X (.Name x px) ei ipos := by intro _; rfl)
    (hs : swapsWithSole [.Subscript (.Name x px) ei ipos] e pos.line P.X.env = pure false := by rfl) (hw : swappedStores [.Subscript (.Name x px) ei ipos] e P.X.env = pure none := by rfl)
    (h1 : (assignEach [.Subscript (.Name x px) ei ipos] P.X.env).map (·.2) = [assign (.Subscript (.Name x px) ei ipos) P.X.env] := by rfl) :
    MS P (.Assign [.Subscript (.Name x px) ei ipos] e pos) (sSetK i mi me) := by
  obtain ⟨t, pt, ht⟩ := he.out
  obtain ⟨ti, pi, hti⟩ := hi.out
  refine MS.mk' (ps_asg pt (pg_sub (pe_var hN hv hd hcd) pi (set_dict (Nat.lt_of_le_of_lt (by omega) hu)) ha) hs hw h1) fun B0 B s o u z D b0 wd sl h => ht B0 B s o u z _ wd sl ?_
  unfold sSetK at h
  split at h
  · rename_i ks us eu
    obtain ⟨p, e2, bp, nb, _, _⟩ := sl.changeW wd eu rfl
    cases e : me u o with
    | bad => rw [e] at h; exact h
    | err c x st' => rw [e] at h; exact fun s' cv dd l w q => h B s' z cv dd b0 (l.less b0) w (sl.mono' l) q
    | ok w st1 =>
      rw [e] at h
      cases w with
      | val d =>
        dsimp only at h
        intro s1 v l1 wd1 r1
        refine ⟨.ref p, e2, hti B0 B s1 st1 u z _ wd1 (sl.mono' l1) ?_⟩
        cases e3 : mi u st1 with
        | bad => rw [e3] at h; exact h
        | err c x st' => rw [e3] at h; exact fun s' cv dd l w q => h B s' z cv dd b0 ((l1.trans l).less b0) w (sl.mono' (l1.trans l)) q
        | ok w2 st2 =>
          rw [e3] at h
          split at h
          · rename_i kd st3 e4
            cases e4
            split at h
            · rename_i k ek
              split at h
              · rename_i hz
                intro s2 v2 l2 wd2 r2
                obtain ⟨p', e2', bp', nb', ⟨p2, kvs, ep2, _, hp, eks, rl⟩, ch⟩ := (sl.mono' (l1.trans l2)).changeW wd2 eu rfl
                rw [e2] at e2'
                cases e2'
                cases ep2
                subst eks
                obtain rfl := key_ok r2 ek
                obtain ⟨q1, q2⟩ := putK3_ok k (Rep.mono l2.fr l2.io r1) rl
                obtain ⟨sl3, w3, l3⟩ := ch (.bod (putK3 (kvs.map (·.1)) us k d).1 (putK3 (kvs.map (·.1)) us k d).2) (.dK (putK kvs k v)) rfl ⟨p, _, rfl, bp, upd_same, q1, q2⟩
                exact ⟨p, _, rfl, DPut.k hp (by rw [List.length_map] at hz; exact szl hz), h B _ z b0 (((l1.trans l2).less b0).trans l3) w3 sl3⟩
              · exact h.elim
            · exact h.elim
          · rename_i e4; cases e4
          · exact h.elim
      | _ => exact h.elim
  · exact h.elim
end

/-! ### d[k] -/
section
variable {P : P3} {pos : Pos} {a b : Expr} {ma mb : EM}
def dgF (x y : W) : Option W := x.dic.bind fun d => match y with
  | .val k => (dgetF d k).bind fun o => o.map .val
  | _ => none
theorem me_dg (hu : P.X.A.units + 65 < cLine) (ha : ME P a ma) (hb : ME P b mb) (hs : NoSl b := by intro _ _; rfl) : ME P (.Subscript a b pos) (eBin dgF ma mb) := by
  obtain ⟨ta, pa, ha⟩ := ha.out
  obtain ⟨tb, pb, hb⟩ := hb.out
  refine ME.mk' (pe_dget (Nat.lt_of_le_of_lt (by omega) hu) pa pb hs) fun B0 B s st u z Q wd sl hp => ha B0 B s st u z _ wd sl (Post.bind hp fun w1 st1 s1 v1 l1 wd1 r1 h1 => ?_)
  refine hb B0 B s1 st1 u z _ wd1 (sl.mono l1) (Post.bind h1 fun w2 st2 s2 v2 l2 wd2 r2 h2 => ?_)
  obtain ⟨w, e, h2⟩ := of_eq h2
  unfold dgF at e
  cases h3 : w1.dic with
  | none => rw [h3] at e; cases e
  | some d =>
    rw [h3, Option.bind_some] at e
    split at e
    · rename_i kd
      obtain ⟨a, rfl, at_⟩ := dic_ok wd2 (r1.mono l2) h3
      cases hg : dgetF d kd with
      | none => rw [hg] at e; cases e
      | some o =>
        rw [hg, Option.bind_some] at e
        cases o with
        | none => cases e
        | some d' =>
          cases e
          obtain ⟨ov, g, _, h⟩ := dget_ok at_ wd2.sub r2 hg
          obtain ⟨v, rfl, rv⟩ := h d' rfl
          exact ⟨a, v, rfl, g, h2.pure wd2 rv⟩
    · cases e
end
end M3


namespace M3
open PySem PySem.Spec PyProof.Rows L2

/-! ### the store and the heap -/
section
variable {G : G3} {X : Hex} {B : Addr → Prop} {s : S3} {st : Store}
theorem Wd.lt {k : Nat} {a : Addr} (w : Wd G B st s) (e : s.io k = some a) : k < st.length := w.dom k a e
/-- an object of the store is changed -/
theorem Wd.setO {k : Nat} {a : Addr} {o' : MO} {ho : HO} (w : Wd G B st s) (e : s.io k = some a) (nb : ¬ B a) (hF : s.F a = none) (r : ObjR G ⟨s.io, s.F, upd s.H a ho⟩ a o') {o : MO} (ek : st[k]? = some o) (t : o.tr = true := by rfl) :
    Wd G B (st.set k o') ⟨s.io, s.F, upd s.H a ho⟩ ∧ Le B s ⟨s.io, s.F, upd s.H a ho⟩ := by
  have away : ∀ b, B b → b ≠ a := fun b bb y => nb (y ▸ bb)
  refine ⟨⟨fun b v eb => ?_, fun b bb => ?_, w.ftb, fun j b eb => by rw [List.length_set]; exact w.dom j b eb, fun i j b oi oj e1 e2 q1 t1 q2 t2 => ?_, fun j o ej tj => ?_, fun j o ej tj => ?_, w.tabM (Same.refl _) (upd_tbl fun ps z => by obtain ⟨a', e', _, _, x'⟩ := w.obj k o ek t; rw [e] at e'; cases e'; exact x'.ntbl ps z)⟩, IoLe.refl _, Same.refl _, fun b bb => upd_ne (away b bb)⟩
  · show upd s.H a ho b = some v
    rw [upd_ne (fun q => by subst q; have eb : s.F b = some v := eb; rw [hF] at eb; cases eb)]
    exact w.sub b v eb
  · obtain ⟨h1, v, h2, h3⟩ := w.hid b bb
    exact ⟨h1, v, (upd_ne (away b bb)).trans h2, h3⟩
  · have old : ∀ {i b oi}, s.io i = some b → (st.set k o')[i]? = some oi → oi.tr = true → ∃ o, st[i]? = some o ∧ o.tr = true := fun {i b oi} _ q t1 => by
      by_cases z : k = i
      · subst z; exact ⟨o, ek, t⟩
      · rw [List.getElem?_set_ne z] at q; exact ⟨oi, q, t1⟩
    obtain ⟨oi', q1', t1'⟩ := old e1 q1 t1
    obtain ⟨oj', q2', t2'⟩ := old e2 q2 t2
    exact w.inj i j b oi' oj' e1 e2 q1' t1' q2' t2'
  · by_cases q : k = j
    · subst q
      rw [List.getElem?_set_self (w.dom k a e)] at ej
      cases ej
      exact ⟨a, e, nb, hF, r⟩
    · rw [List.getElem?_set_ne q] at ej
      obtain ⟨b, e1, b1, f1, o1⟩ := w.obj j o ej tj
      have na : b ≠ a := fun y => q (w.inj k j a _ _ e (y ▸ e1) ek t ej tj)
      exact ⟨b, e1, b1, f1, ObjR.mono (s := s) (s' := ⟨s.io, s.F, upd s.H a ho⟩) (IoLe.refl _) (Same.refl _) (upd_ne na) o1⟩
  · by_cases q : k = j
    · subst q
      rw [List.getElem?_set_self (w.dom k a e)] at ej
      cases ej
      rw [r.tr] at tj; cases tj
    · rw [List.getElem?_set_ne q] at ej
      exact w.untM (s' := ⟨s.io, s.F, upd s.H a ho⟩) (IoLe.refl _) (Same.refl _) j o ej tj
def ioNew (io : Io) (n : Nat) (p : Addr) : Io := fun j => if j = n then some p else io j
/-- a new object of the store -/
theorem Wd.newO {p : Addr} {o : MO} {H' : Hp} (w : Wd G B st s) (hp : s.H p = none) (hs : Same s.H H') (r : ObjR G ⟨ioNew s.io st.length p, s.F, H'⟩ p o) :
    Wd G B (st ++ [o]) ⟨ioNew s.io st.length p, s.F, H'⟩ ∧ Le B s ⟨ioNew s.io st.length p, s.F, H'⟩ ∧ ioNew s.io st.length p st.length = some p := by
  have hio : IoLe s.io (ioNew s.io st.length p) := fun k a e => by
    have := w.dom k a e
    unfold ioNew
    rw [if_neg (by omega)]
    exact e
  have old : ∀ a, (∃ v, s.H a = some v) → H' a = s.H a := fun a ⟨v, e⟩ => by rw [hs a v e, e]
  refine ⟨⟨fun b v eb => hs b v (w.sub b v eb), fun b bb => ?_, w.ftb, fun k a e => ?_, fun j k a oj ok e1 e2 q1 t1 q2 t2 => ?_, fun k v e t => ?_, fun k v e t => ?_, w.tabM (Same.refl _) fun P ps e => hs P _ e⟩, ⟨hio, Same.refl _, fun b bb => old b (let ⟨_, v, e, _⟩ := w.hid b bb; ⟨v, e⟩)⟩, if_pos rfl⟩
  · obtain ⟨h1, v, h2, h3⟩ := w.hid b bb
    exact ⟨h1, v, hs b v h2, h3⟩
  · rw [List.length_append]
    have e : (if k = st.length then some p else s.io k) = some a := e
    by_cases q : k = st.length
    · rw [q]; simp
    · rw [if_neg q] at e
      have := w.dom k a e
      simp; omega
  · have e1 : (if j = st.length then some p else s.io j) = some a := e1
    have e2 : (if k = st.length then some p else s.io k) = some a := e2
    by_cases z1 : j = st.length
    · by_cases z2 : k = st.length
      · rw [z1, z2]
      · rw [if_pos z1] at e1; rw [if_neg z2] at e2
        cases e1
        rw [List.getElem?_append_left (w.dom k _ e2)] at q2
        exact absurd e2 (w.freshI hp q2 t2)
    · by_cases z2 : k = st.length
      · rw [if_neg z1] at e1; rw [if_pos z2] at e2
        cases e2
        rw [List.getElem?_append_left (w.dom j _ e1)] at q1
        exact absurd e1 (w.freshI hp q1 t1)
      · rw [if_neg z1] at e1; rw [if_neg z2] at e2
        rw [List.getElem?_append_left (w.dom j _ e1)] at q1
        rw [List.getElem?_append_left (w.dom k _ e2)] at q2
        exact w.inj j k a _ _ e1 e2 q1 t1 q2 t2
  · by_cases q : k < st.length
    · rw [List.getElem?_append_left q] at e
      obtain ⟨a, e1, b1, f1, o1⟩ := w.obj k v e t
      have hh : ∃ y, s.H a = some y := o1.there
      exact ⟨a, hio k a e1, b1, f1, ObjR.mono (s := s) (s' := ⟨ioNew s.io st.length p, s.F, H'⟩) hio (Same.refl _) (old a hh) o1⟩
    · rw [List.getElem?_append_right (by omega)] at e
      have q2 : k - st.length = 0 := by
        cases z : k - st.length with
        | zero => rfl
        | succ n => rw [z] at e; simp at e
      rw [q2] at e
      simp at e
      subst e
      have : k = st.length := by omega
      subst this
      exact ⟨p, if_pos rfl, w.freshB hp, w.freshF hp, r⟩
  · by_cases q : k < st.length
    · rw [List.getElem?_append_left q] at e
      exact w.untM (s' := ⟨ioNew s.io st.length p, s.F, H'⟩) hio (Same.refl _) k v e t
    · have hk := (List.getElem?_eq_some_iff.mp e).1
      rw [List.length_append] at hk
      simp at hk
      rw [List.getElem?_append_right (by omega), show k - st.length = 0 by omega] at e
      simp at e
      subst e
      rw [r.tr] at t; cases t
end

/-! ### instances -/
def insOf (w : W) : M (Nat × String × List (Str × D)) := fun st => match w with
  | .val (.ref k) => match st[k]? with
    | some (.ins c fs) => .ok (k, c, fs) st
    | _ => .bad
  | _ => .bad
theorem ins_of {w : W} {st st' : Store} {q : Nat × String × List (Str × D)} (e : insOf w st = .ok q st') : st' = st ∧ w = .val (.ref q.1) ∧ st[q.1]? = some (.ins q.2.1 q.2.2) := by
  unfold insOf at e
  split at e
  · split at e
    · rename_i h; cases e; exact ⟨rfl, rfl, h⟩
    · cases e
  · cases e
section
variable {α β : Type} {G : G3} {X : Hex} {B : Addr → Prop} {s : S3} {st : Store} {R : S3 → α → β → Prop} {E : XK} {Q : β → Hp → Prop}
theorem Post.of_ins {w : M3.W} {v : V} {f : Nat × String × List (Str × D) → M α} (wd : Wd G B st s) (r : RepW G X B s w v) (h : Post G B R E s Q (M.bind (insOf w) f st)) :
    ∃ k c fs a C dx gs, w = .val (.ref k) ∧ v = .ref a ∧ s.io k = some a ∧ st[k]? = some (.ins c fs) ∧ G.cls c = some C ∧ s.H a = some (.ins C dx gs) ∧ FsR G.R s.F s.io fs gs ∧ ¬ B a ∧ s.F a = none ∧ Post G B R E s Q (f (k, c, fs) st) := by
  unfold M.bind at h
  cases e : insOf w st with
  | bad => rw [e] at h; exact h.elim
  | err c x st' =>
    exfalso
    unfold insOf at e
    split at e
    · split at e <;> cases e
    · cases e
  | ok q st' =>
    rw [e] at h
    obtain ⟨rfl, rfl, ek⟩ := ins_of e
    have r : Rep G.R s.F s.io (.ref q.1) v := r
    cases r with
    | ref eio =>
      obtain ⟨a, e1, b1, f1, C, dx, gs, ec, eh, rf⟩ := wd.obj _ _ ek rfl
      rw [eio] at e1
      cases e1
      exact ⟨q.1, q.2.1, q.2.2, _, C, dx, gs, rfl, rfl, eio, ek, ec, eh, rf, b1, f1, h⟩
end
/-- what is known of an attribute f of the own class c -/
structure FldOk (K : PySem.W.Frag) (G : G3) (c : String) (f : Str) : Prop where
  ex : ∃ C, G.cls c = some C ∧ Cls K C ∧ NoAttr K C f
def eFld (cs : List String) (f : Str) (m : EM) : EM := fun u => M.bind (m u) fun w => M.bind (insOf w) fun q => M.bind (M.chk (q.2.1 ∈ cs)) fun _ => M.bind (M.of (q.2.2.lookup f)) fun d => M.pure (.val d)
section
variable {P : P3} {pos pos' : Pos} {e o : Expr} {m mo : EM} {f : Str} {cs : List String}
theorem me_fld (ok : ∀ c ∈ cs, FldOk P.X.K P.G c f) (he : ME P e m) (hb : attributeBase e f P.X.env (eval e P.X.env) = eval e P.X.env := by rfl) : ME P (.Attribute e f pos) (eFld cs f m) := by
  obtain ⟨t, pt, ht⟩ := he.out
  refine ME.mk' (pe_fld pt hb) fun B0 B s st u z Q wd sl h => ht B0 B s st u z _ wd sl (Post.bind h fun w st1 s1 v l1 wd1 r1 h1 => ?_)
  obtain ⟨k, c, fs, a, C, dx, gs, rfl, rfl, eio, ek, ec, eh, rf, nb, hF, h1⟩ := Post.of_ins wd1 r1 h1
  obtain ⟨hm, h1⟩ := Post.of_chk h1
  obtain ⟨d, ed, h1⟩ := Post.of_of h1
  obtain ⟨C', ec', hc, hn⟩ := (ok c hm).ex
  rw [ec] at ec'
  cases ec'
  obtain ⟨v, ev, rv⟩ := (rf.look (f := f)).1 d ed
  exact ⟨a, C, dx, gs, v, rfl, eh, hc, hn, ev, h1.pure wd1 rv⟩
/-- the attributes with f = d -/
def put3 (f : Str) (d : D) : List (Str × D) → List (Str × D)
  | [] => [(f, d)]
  | (g, e) :: r => if g = f then (g, d) :: r else (g, e) :: put3 f d r
theorem put3_ok {K : KW} {F : Hp} {io : Io} {d : D} {v : V} (r : Rep K F io d v) : ∀ {fs : List (Str × D)} {gs : List (Str × V)}, FsR K F io fs gs → FsR K F io (put3 f d fs) (putF f v gs)
  | _, _, .nil => .cons r .nil
  | _, _, .cons (f := g) q t => by
    unfold put3 putF
    by_cases h : g = f
    · rw [if_pos h, if_pos h]; exact .cons r t
    · rw [if_neg h, if_neg h]; exact .cons q (put3_ok r t)
def sFldS (cs : List String) (f : Str) (mo me : EM) : SM := fun u st => match M.bind (me u) (fun w => M.bind (M.of w.d) fun d => M.bind (mo u) fun x => M.bind (insOf x) fun q => M.bind (M.chk (q.2.1 ∈ cs ∧ q.2.2.length < 500)) fun _ => fun st => .ok () (st.set q.1 (.ins q.2.1 (put3 f d q.2.2)))) st with
  | .ok _ st' => .nx u st'
  | .err c x st' => .err c x u st'
  | .bad => .bad
theorem ms_fld (ok : ∀ c ∈ cs, FldOk P.X.K P.G c f) (ho : ME P o mo) (he : ME P e m) (hs : swapsWith e (some (.Attribute o f pos')) pos.line P.X.env = pure false := by rfl) : MS P (.Assign [.Attribute o f pos'] e pos) (sFldS cs f mo m) := by
  obtain ⟨t, pt, ht⟩ := he.out
  obtain ⟨to, po, hto⟩ := ho.out
  refine MS.mk' (ps_fld po pt hs) fun B0 B s st u z D b0 wd sl h => ht B0 B s st u z _ wd sl ?_
  unfold sFldS at h
  generalize hm : M.bind (m u) (fun w => M.bind (M.of w.d) fun d => M.bind (mo u) fun x => M.bind (insOf x) fun q => M.bind (M.chk (q.2.1 ∈ cs ∧ q.2.2.length < 500)) fun _ => fun st => Res.ok () (st.set q.1 (.ins q.2.1 (put3 f d q.2.2)))) = mm at h
  have hp : Post P.G B (fun _ (_ : Unit) (_ : Unit) => True) (fun c d H => P.wx c d z H) s (fun (_ : Unit) H' => D.nx z H') (mm st) := by
    cases e : mm st with
    | ok _ st' => rw [e] at h; exact fun s' _ l w _ => h B s' z b0 (l.less b0) w (sl.mono' l)
    | err c x st' => rw [e] at h; exact fun s' cv dd l w q => h B s' z cv dd b0 (l.less b0) w (sl.mono' l) q
    | bad => rw [e] at h; exact h
  rw [← hm] at hp
  refine Post.bind hp fun w st1 s1 v l1 wd1 r1 h1 => ?_
  obtain ⟨d, ed, h1⟩ := Post.of_of h1
  obtain rfl : w = .val d := by cases w <;> cases ed; rfl
  refine hto B0 B s1 st1 u z _ wd1 (sl.mono' l1) (Post.bind h1 fun w2 st2 s2 v2 l2 wd2 r2 h2 => ?_)
  obtain ⟨k, c, fs, a, C, dx, gs, rfl, rfl, eio, ek, ec, eh, rf, nb, hF, h2⟩ := Post.of_ins wd2 r2 h2
  obtain ⟨⟨hmem, hz⟩, h2⟩ := Post.of_chk h2
  obtain ⟨C', ec', hc, hn⟩ := (ok c hmem).ex
  rw [ec] at ec'
  cases ec'
  have rd : Rep P.G.R s2.F s2.io d v := Rep.mono l2.fr l2.io r1
  obtain ⟨w3, l3⟩ := wd2.setO (o' := .ins c (put3 f d fs)) (ho := .ins C dx (putF f v gs)) eio nb hF ⟨C, dx, _, ec, upd_same, put3_ok rd rf⟩ ek
  exact ⟨a, C, dx, gs, rfl, eh, hc, hn, by rw [← rf.length]; exact Nat.lt_trans hz (by decide), h2 _ () l3 w3 trivial⟩

/-! ### objects that are made -/
/-- {}, to be a dict of the store -/
def eNewD : EM := fun _ st => .ok (.val (.ref st.length)) (st ++ [.dic [] []])
theorem me_newD : ME P (.Dict [] [] pos) eNewD := by
  refine ME.mk' pe_dnewK fun B0 B s st u z Q wd sl h => fun p hp => ?_
  obtain ⟨w2, l2, e2⟩ := wd.newO (o := .dic [] []) (H' := upd s.H p (.dK [])) hp (same_upd hp) ⟨[], upd_same, rfl, .nil⟩
  exact h _ _ l2 w2 (.ref e2)
/-- a new list, to be a list of the store -/
def eNewL (mf : FM) : EM := fun u st => match mf u st with
  | .ok xs st' => .ok (.val (.ref st'.length)) (st' ++ [.lst xs])
  | .err c x st' => .err c x st'
  | .bad => .bad
/-- C(..) by what __init__ does -/
structure MkOk (Pg : Program) (w : World) (K : PySem.W.Frag) (mg : Str → Option Value) (base : Heap) (G : G3) (k : Nat) (x : Str) (c : String) (n : Nat) (mf : List D → M D) : Prop where
  ex : ∃ C f fd ps, mg x = some (.ref C) ∧ G.cls c = some C ∧ Mk K C f ∧ Binds K fd ps [] ∧ ps.length = n + 1 ∧ FnOk Pg w K mg base (L2.CX Pg w) k f fd ps (spM G (n + 1) mf)
def mMake (c : String) (mf : List D → M D) (ds : List D) : M W := fun st => match mf (.ref st.length :: ds) (st ++ [.ins c []]) with
  | .ok .non st' => .ok (.val (.ref st.length)) st'
  | .ok _ _ => .bad
  | .err c x st' => .err c x st'
  | .bad => .bad
def eMake (c : String) (n : Nat) (mf : List D → M D) (ma : AM) : EM := fun u => M.bind (ma u) fun ws => M.bind (M.of (asDs ws)) fun ds => M.bind (M.chk (ds.length = n)) fun _ => mMake c mf ds
theorem make_post {G : G3} {X : Hex} {B : Addr → Prop} {s : S3} {st : Store} {E : XK} {Q : VK} {c : String} {C : Addr} {mf : List D → M D} {ds : List D} {vs : List V} {n : Nat} (hc : G.cls c = some C) (wd : Wd G B st s) (rl : RepL G.R s.F s.io ds vs) (hl : ds.length = n)
    (h : Post G B (RepW G X B) E s Q (mMake c mf ds st)) {x dx : Addr} (hx : s.H x = none) (hd : s.H dx = none) (ne : dx ≠ x) :
    spM G (n + 1) mf (.ref x :: vs) (upd (upd s.H dx (.own x)) x (.ins C dx [])) (fun v H2 => v = .non ∧ Q (.ref x) H2) E := by
  have hs : Same s.H (upd (upd s.H dx (.own x)) x (.ins C dx [])) := fun a o e => by
    rw [upd_ne (ne_of_none e hx), upd_ne (ne_of_none e hd)]; exact e
  obtain ⟨w2, l2, e2⟩ := wd.newO (o := .ins c []) hx hs ⟨C, dx, [], hc, upd_same, .nil⟩
  refine ⟨by rw [List.length_cons, ← rl.length, hl], B, _, _, .ref st.length :: ds, rfl, w2, .cons (.ref e2) (rl.mono l2.fr l2.io), ?_⟩
  unfold mMake at h
  cases em : mf (.ref st.length :: ds) (st ++ [.ins c []]) with
  | bad => rw [em] at h; exact h
  | err c x st' => rw [em] at h; exact fun s' cv dd l w q => h s' cv dd (l2.trans l) w q
  | ok d st' =>
    rw [em] at h
    cases d with
    | non =>
      intro s' v l w r
      cases r
      exact ⟨rfl, h s' (.ref x) (l2.trans l) w (.ref (l.io _ _ e2))⟩
    | _ => exact h.elim
end
end M3


namespace M3
open PySem PySem.Spec PyProof.Rows L2

/-! ### C(..), o.m(..): what leaves the callee reaches the wish at the caller's slots -/
section
variable {X : Cx} {CX : CXT} {k : Nat} {f C : Addr} {fd : FuncData} {ps : List Str} {sp : Sp} {x m : Str} {p pos apos : Pos} {e o : Expr} {es : List Expr} {ta : TE} {t tk : TA}
/-- the new instance, then __init__, however its parameters are bound -/
theorem made_runs {E : XK} {pins : List (Addr × Obj)} {σ : L2.St} {H : Hp} {s : Shared} {Q : VK} {us all : List Value} {kw : List (Str × Value)} {vs : List V} (M : Mk X.K C f) (F : FnOk X.prog X.w X.K X.mg X.base CX k f fd ps sp) (hr : Room (k + 1) X.A)
    (hx : PassesAt CX X σ E) (I : Inv X pins σ H s) (r : Vals vs all) (hb : ∀ (s' : Shared) (u : Value), X.K.In s'.heap → (u :: all).length = ps.length → BindsTo s' fd ⟨u :: us, kw⟩ (ps.zip (u :: all)))
    (h : ∀ x dx, H x = none → H dx = none → dx ≠ x → sp (.ref x :: vs) (upd (upd H dx (.own x)) x (.ins C dx [])) (fun v H2 => v = .non ∧ Q (.ref x) H2) E) :
    wpAny (model X.prog X.w) X.A (call (.ref C) us kw) (EP X pins σ Q) X.xe s := by
  generalize hn : s.heap.objs.size = n
  have free : H n = none := I.hok.fresh (Nat.le_of_eq hn)
  have free1 : H (n + 1) = none := I.hok.fresh (by rw [hn]; exact Nat.le_succ n)
  have want := h (n + 1) n free1 free (Nat.ne_of_lt (Nat.lt_succ_self n))
  have J := Inv.made (C := C) I
  rw [hn] at J
  have vals : Vals (V.ref (n + 1) :: vs) (Value.ref (n + 1) :: all) := .cons rfl r
  have len : (Value.ref (n + 1) :: all).length = ps.length := vals.length.symm.trans (F.len _ _ _ _ want)
  refine wpAny_call (make_map (f := f) I.kIn M.makes M.init (beq_iff_eq.mp M.fn) ?_)
  rw [hn]
  refine codeAny_mono (F.run _ X.stack _ _ ⟨Value.ref (n + 1) :: us, kw⟩ _ _ _ E (hr.make C us kw) (J.env0.make C us kw) (hb _ _ J.kIn len) vals want) fun res s' got => ?_
  match res, got with
  | .error er, got => exact hx pins _ _ er s' J got
  | .ok (.ret u), got =>
    obtain ⟨v, H', J', rv, ev, q⟩ := J.after got
    subst ev
    exact ⟨rv, V.ref (n + 1), H', J', rfl, q⟩
  | .ok .next, got => exact got.elim
  | .ok .brk, got => exact got.elim
  | .ok .cont, got => exact got.elim
/-- its wish: where the class stands, the values behind the written ones -/
def tMk3 (C : Addr) (sp : Sp) (dvs : List V) (E : L2.St → XK) (t : TA) : TE := fun σ H Q => t σ H fun vs H1 => ∀ x dx, H1 x = none → H1 dx = none → dx ≠ x →
  sp (.ref x :: (vs ++ dvs)) (upd (upd H1 dx (.own x)) x (.ins C dx [])) (fun v H2 => v = .non ∧ Q (.ref x) H2) (E σ)
variable {dvs : List V} {ds : List Value} {E : L2.St → XK}
theorem pe_mk3 (M : Mk X.K C f) (F : FnOk X.prog X.w X.K X.mg X.base CX k f fd ps sp) (hr : Room (k + 1) X.A) (hg : Gl X x) (hm : X.mg x = some (.ref C)) (hb : Binds X.K fd ps ds) (hd : Vals dvs ds) (hx : ∀ σ, PassesAt CX X σ (E σ)) (ha : PA X (e :: es) t)
    (hdb : (x == ("__debug__" : Str)) = false := by decide) (he : starEach (e :: es) X.env = (false, eval e X.env) :: starEach es X.env := by rfl) (hpl : (backTo pos (starEach es X.env)).any (·.1) = false := by rfl) : PE X (.Call (.Name x p) (e :: es) [] pos) (tMk3 C sp dvs E t) := by
  refine ⟨fun pins s σ H Q I h => wpAny_Call_Name_kw (ld_glob I hg hm ?_ hdb)⟩
  refine PySem.W.callWith_K (h₀ := X.base) I.ok.mod.kin M.kp ?_ he hpl
  refine thn (ha.run pos pins s σ H _ I h) fun us s1 ⟨vs, H1, J, r, q⟩ => ⟨J.kIn, ?_⟩
  exact made_runs (all := us ++ ds) M F hr (hx σ) J (r.append hd) (fun s' u KI hl => hb s' (u :: us) KI hl) q
theorem pe_mk30 (M : Mk X.K C f) (F : FnOk X.prog X.w X.K X.mg X.base CX k f fd ps sp) (hr : Room (k + 1) X.A) (hg : Gl X x) (hm : X.mg x = some (.ref C)) (hb : Binds X.K fd ps ds) (hd : Vals dvs ds) (hx : ∀ σ, PassesAt CX X σ (E σ))
    (hdb : (x == ("__debug__" : Str)) = false := by decide) : PE X (.Call (.Name x p) [] [] pos) (tMk3 C sp dvs E tNil) := by
  refine ⟨fun pins s σ H Q I h => wpAny_Call_Name_kw (ld_glob I hg hm ?_ hdb)⟩
  exact PySem.W.callWith_K0 I.kIn M.kp (made_runs (us := []) (all := ds) M F hr (hx σ) I hd (fun s' u KI hl => hb s' [u] KI hl) h)
/-- o.m(..), whatever class o is of -/
def Mth3 (X : Cx) (CX : CXT) (k : Nat) (m : Str) (C : Addr) (sp : Sp) : Prop := Cls X.K C ∧ ∃ f fd ps, Meth X.K C m f ∧ Binds X.K fd ps [] ∧ FnOk X.prog X.w X.K X.mg X.base CX k f fd ps sp
theorem pe_meth3 {pl : Sem Bool} (he : PE X o ta) (hr : Room k X.A) (hx : ∀ σ, PassesAt CX X σ (E σ)) (ha : PA X (e :: es) t) (one : starEach (e :: es) X.env = (false, eval e X.env) :: starEach es X.env := by rfl)
    (plain : (backTo pos (starEach es X.env)).any (·.1) = false := by rfl) (parts : MethParts X o m apos pos (e :: es) pl := by rfl) :
    PE X (.Call (.Attribute o m apos) (e :: es) [] pos) (fun σ H Q => ta σ H fun x H1 => ∃ a C dx fs sp, x = .ref a ∧ H1 a = some (.ins C dx fs) ∧ fs.lookup m = none ∧ Mth3 X CX k m C sp ∧ t σ H1 fun vs H2 => sp (x :: vs) H2 Q (E σ)) :=
  ⟨fun pins now σ H Q inv wish => PySem.W.methodCall_KW (pl := pl) (thn (he.run pins now σ H _ inv wish) fun v later got => by
    obtain ⟨_, H1, J, rx, a, C, dx, fs, sp, rfl, at_, no, ⟨cls, f, fd, ps, mth, binds, F⟩, rest⟩ := got
    obtain rfl : v = .ref a := rx
    have args := ha.run pos pins later σ H1 _ J rest
    exact getmeth_ok J at_ cls mth no (PySem.W.callWith_K (first := [.ref a]) (h₀ := X.base) J.ok.mod.kin mth.kp (thn args fun us last ⟨vs, H2, J2, rs, q⟩ => ⟨J2.kIn, run_fnS (us := .ref a :: us) (vs := .ref a :: vs) F hr binds (hx σ) J2 (.cons rfl rs) q⟩) one plain)) parts⟩
theorem pe_meth30 {pl : Sem Bool} (he : PE X o ta) (hr : Room k X.A) (hx : ∀ σ, PassesAt CX X σ (E σ)) (parts : MethParts X o m apos pos [] pl := by rfl) :
    PE X (.Call (.Attribute o m apos) [] [] pos) (fun σ H Q => ta σ H fun x H1 => ∃ a C dx fs sp, x = .ref a ∧ H1 a = some (.ins C dx fs) ∧ fs.lookup m = none ∧ Mth3 X CX k m C sp ∧ sp [x] H1 Q (E σ)) :=
  ⟨fun pins now σ H Q inv wish => PySem.W.methodCall_KW (pl := pl) (thn (he.run pins now σ H _ inv wish) fun v later got => by
    obtain ⟨_, H1, J, rx, a, C, dx, fs, sp, rfl, at_, no, ⟨cls, f, fd, ps, mth, binds, F⟩, q⟩ := got
    obtain rfl : v = .ref a := rx
    exact getmeth_ok J at_ cls mth no (PySem.W.callWith_K0 (first := [.ref a]) J.kIn mth.kp (run_fnS (us := [.ref a]) (vs := [.ref a]) F hr binds (hx σ) J (.cons rfl .nil) q))) parts⟩
end

/-! ### the same by mirrors -/
/-- C(..): n values are written, dd are the defaults behind them -/
structure MkOk3 (Pg : Program) (w : World) (K : PySem.W.Frag) (mg : Str → Option Value) (base : Heap) (G : G3) (k : Nat) (x : Str) (c : String) (n : Nat) (dd : List D) (mf : List D → M D) : Prop where
  ex : ∃ C f fd ps dvs dsv, mg x = some (.ref C) ∧ G.cls c = some C ∧ Mk K C f ∧ Binds K fd ps dsv ∧ Vals dvs dsv ∧ (∀ F io, RepL G.R F io dd dvs) ∧ FnOk Pg w K mg base (L2.CX Pg w) k f fd ps (spM G (n + dd.length + 1) mf)
def eMk3 (c : String) (n : Nat) (dd : List D) (mf : List D → M D) (ma : AM) : EM := fun u => M.bind (ma u) fun ws => M.bind (M.of (asDs ws)) fun ds => M.bind (M.chk (ds.length = n)) fun _ => mMake c mf (ds ++ dd)
section
variable {P : P3} {pos p apos : Pos} {x m : Str} {c : String} {e o : Expr} {es : List Expr} {ma : AM} {mo : EM} {mf : List D → M D} {dd : List D} {k j n : Nat}
theorem me_mk3 (h : MkOk3 P.X.prog P.X.w P.X.K P.X.mg P.X.base P.G k x c n dd mf) (hr : Room j P.X.A) (hk : k + 1 ≤ j) (tk : Takes P.X P.wx) (hg : Gl P.X x) (ha : MA P (e :: es) ma)
    (hdb : (x == ("__debug__" : Str)) = false := by decide) (he : starEach (e :: es) P.X.env = (false, eval e P.X.env) :: starEach es P.X.env := by rfl) (hpl : (backTo pos (starEach es P.X.env)).any (·.1) = false := by rfl) :
    ME P (.Call (.Name x p) (e :: es) [] pos) (eMk3 c n dd mf ma) := by
  obtain ⟨C, f, fd, ps, dvs, dsv, hm, hc, M, hb, hd, rd, F⟩ := h.ex
  obtain ⟨t, pt, ht⟩ := ha.out
  refine ME.mk' (pe_mk3 M F (hr.mono hk) hg hm hb hd (fun σ => passAt tk σ) pt hdb he hpl) fun B0 B s st u z Q wd sl h => ht B0 B s st u z _ wd sl (Post.bind h fun ws st1 s1 vs l1 wd1 r1 h1 => ?_)
  obtain ⟨ds, e, h1⟩ := Post.of_of h1
  obtain ⟨hl, h1⟩ := Post.of_chk h1
  have rl := (asDs_ok r1 e).append (rd s1.F s1.io)
  exact fun x dx hx hdx ne => make_post (n := n + dd.length) hc wd1 rl (by rw [List.length_append, hl]) h1 hx hdx ne
theorem me_mk30 (h : MkOk3 P.X.prog P.X.w P.X.K P.X.mg P.X.base P.G k x c 0 dd mf) (hr : Room j P.X.A) (hk : k + 1 ≤ j) (tk : Takes P.X P.wx) (hg : Gl P.X x) (hdb : (x == ("__debug__" : Str)) = false := by decide) :
    ME P (.Call (.Name x p) [] [] pos) (eMk3 c 0 dd mf aNil) := by
  obtain ⟨C, f, fd, ps, dvs, dsv, hm, hc, M, hb, hd, rd, F⟩ := h.ex
  refine ME.mk' (pe_mk30 M F (hr.mono hk) hg hm hb hd (fun σ => passAt tk σ) hdb) fun B0 B s st u z Q wd sl h => ?_
  exact fun x dx hx hdx ne => make_post (n := 0 + dd.length) (ds := [] ++ dd) hc wd ((RepL.nil).append (rd s.F s.io)) (by simp) h hx hdx ne
/-- o.m(..): the classes that o may be of, each with its mirror -/
structure MthOk (Pg : Program) (w : World) (K : PySem.W.Frag) (mg : Str → Option Value) (base : Heap) (G : G3) (k : Nat) (m : Str) (n : Nat) (c : String) (mf : List D → M D) : Prop where
  ex : ∃ C f fd ps, G.cls c = some C ∧ Cls K C ∧ Meth K C m f ∧ Binds K fd ps [] ∧ FnOk Pg w K mg base (L2.CX Pg w) k f fd ps (spM G (n + 1) mf)
def eMeth (m : Str) (n : Nat) (tab : List (String × (List D → M D))) (mo : EM) (ma : AM) : EM := fun u => M.bind (mo u) fun w => M.bind (insOf w) fun q => M.bind (M.chk (q.2.2.lookup m = none)) fun _ => M.bind (M.of (tab.lookup q.2.1)) fun mf =>
  M.bind (ma u) fun ws => M.bind (M.of (asDs ws)) fun ds => M.bind (M.chk (ds.length = n)) fun _ => M.bind (mf (.ref q.1 :: ds)) fun d => M.pure (.val d)
theorem lookup_mem {α : Type} {c : String} {y : α} : ∀ {l : List (String × α)}, l.lookup c = some y → (c, y) ∈ l
  | (c', y') :: l, h => by
    rw [List.lookup_cons] at h
    split at h
    · rename_i e
      cases h
      rw [show c = c' from beq_iff_eq.mp e]
      exact List.mem_cons_self
    · exact List.mem_cons_of_mem _ (lookup_mem h)
theorem call_post {G : G3} {X : Hex} {B : Addr → Prop} {s : S3} {st : Store} {E : XK} {Q : VK} {mf : List D → M D} {ds : List D} {vs : List V} {n : Nat} (wd : Wd G B st s) (rl : RepL G.R s.F s.io ds vs) (hl : ds.length = n)
    (h : Post G B (RepW G X B) E s Q (M.bind (mf ds) (fun d => M.pure (.val d)) st)) : spM G n mf vs s.H Q E := by
  refine ⟨by rw [← rl.length]; exact hl, B, s, st, ds, rfl, wd, rl, ?_⟩
  unfold M.bind at h
  cases em : mf ds st with
  | ok d st' => rw [em] at h; exact fun s' v l w r => h s' v l w r
  | err c x st' => rw [em] at h; exact h
  | bad => rw [em] at h; exact h
theorem me_meth {tab : List (String × (List D → M D))} (h : ∀ p ∈ tab, MthOk P.X.prog P.X.w P.X.K P.X.mg P.X.base P.G k m n p.1 p.2) (hr : Room j P.X.A) (hk : k ≤ j) (tk : Takes P.X P.wx) (ho : ME P o mo) (ha : MA P (e :: es) ma)
    (he : starEach (e :: es) P.X.env = (false, eval e P.X.env) :: starEach es P.X.env := by rfl) (hpl : (backTo pos (starEach es P.X.env)).any (·.1) = false := by rfl) {pl : Sem Bool} (hT : MethParts P.X o m apos pos (e :: es) pl := by rfl) :
    ME P (.Call (.Attribute o m apos) (e :: es) [] pos) (eMeth m n tab mo ma) := by
  obtain ⟨t, pt, ht⟩ := ha.out
  obtain ⟨to, po, hto⟩ := ho.out
  refine ME.mk' (pe_meth3 po (hr.mono hk) (fun σ => passAt tk σ) pt he hpl hT) fun B0 B s st u z Q wd sl hp => hto B0 B s st u z _ wd sl (Post.bind hp fun w st1 s1 v l1 wd1 r1 h1 => ?_)
  obtain ⟨i, c, fs, a, C, dx, gs, rfl, rfl, eio, ek, ec, eh, rf, nb, hF, h1⟩ := Post.of_ins wd1 r1 h1
  obtain ⟨hn, h1⟩ := Post.of_chk h1
  obtain ⟨mf, et, h1⟩ := Post.of_of h1
  obtain ⟨C', f, fd, ps, ec', hc, hm, hb, F⟩ := (h _ (lookup_mem et)).ex
  rw [ec] at ec'
  cases ec'
  refine ⟨a, C, dx, gs, _, rfl, eh, (rf.look (f := m)).2 hn, ⟨hc, f, fd, ps, hm, hb, F⟩, ?_⟩
  refine ht B0 B s1 st1 u z _ wd1 (sl.mono' l1) (Post.bind h1 fun ws st2 s2 vs l2 wd2 r2 h2 => ?_)
  obtain ⟨ds, e, h2⟩ := Post.of_of h2
  obtain ⟨hl, h2⟩ := Post.of_chk h2
  exact call_post wd2 (.cons (.ref (l2.io _ _ eio)) (asDs_ok r2 e)) (by rw [List.length_cons, hl]) h2
theorem me_meth0 {tab : List (String × (List D → M D))} (h : ∀ p ∈ tab, MthOk P.X.prog P.X.w P.X.K P.X.mg P.X.base P.G k m 0 p.1 p.2) (hr : Room j P.X.A) (hk : k ≤ j) (tk : Takes P.X P.wx) (ho : ME P o mo) {pl : Sem Bool} (hT : MethParts P.X o m apos pos [] pl := by rfl) :
    ME P (.Call (.Attribute o m apos) [] [] pos) (eMeth m 0 tab mo aNil) := by
  obtain ⟨to, po, hto⟩ := ho.out
  refine ME.mk' (pe_meth30 po (hr.mono hk) (fun σ => passAt tk σ) hT) fun B0 B s st u z Q wd sl hp => hto B0 B s st u z _ wd sl (Post.bind hp fun w st1 s1 v l1 wd1 r1 h1 => ?_)
  obtain ⟨i, c, fs, a, C, dx, gs, rfl, rfl, eio, ek, ec, eh, rf, nb, hF, h1⟩ := Post.of_ins wd1 r1 h1
  obtain ⟨hn, h1⟩ := Post.of_chk h1
  obtain ⟨mf, et, h1⟩ := Post.of_of h1
  obtain ⟨C', f, fd, ps, ec', hc, hm, hb, F⟩ := (h _ (lookup_mem et)).ex
  rw [ec] at ec'
  cases ec'
  exact ⟨a, C, dx, gs, _, rfl, eh, (rf.look (f := m)).2 hn, ⟨hc, f, fd, ps, hm, hb, F⟩, call_post wd1 (.cons (.ref eio) .nil) rfl h1⟩
/-- e.f, a property: its def raises nothing -/
structure PropOk (Pg : Program) (w : World) (K : PySem.W.Frag) (mg : Str → Option Value) (base : Heap) (G : G3) (k : Nat) (f : Str) (c : String) (mf : List D → M D) : Prop where
  ex : ∃ C p g fd ps, G.cls c = some C ∧ Cls K C ∧ PropOf K C f p g ∧ Binds K fd ps [] ∧ FnOk Pg w K mg base (L2.CX Pg w) k g fd ps (spM G 1 mf)
def eProp (c : String) (mf : List D → M D) (mo : EM) : EM := fun u => M.bind (mo u) fun w => M.bind (insOf w) fun q => M.bind (M.chk (q.2.1 = c)) fun _ => M.bind (M.quiet (mf [.ref q.1])) fun d => M.pure (.val d)
theorem me_prop {f : Str} (h : PropOk P.X.prog P.X.w P.X.K P.X.mg P.X.base P.G k f c mf) (hr : Room j P.X.A) (hk : k + 1 ≤ j) (ho : ME P o mo) (hab : attributeBase o f P.X.env (eval o P.X.env) = eval o P.X.env := by rfl) :
    ME P (.Attribute o f pos) (eProp c mf mo) := by
  obtain ⟨C, p, g, fd, ps, hcl, hc, hp, hb, F⟩ := h.ex
  obtain ⟨to, po, hto⟩ := ho.out
  refine ME.mk' (pe_prop (E := fun _ _ _ => False) po hc hp F (hr.mono hk) hb .nil ?_ hab) fun B0 B s st u z Q wd sl hp => hto B0 B s st u z _ wd sl (Post.bind hp fun w st1 s1 v l1 wd1 r1 h1 => ?_)
  · rintro pins σ H s er s' I ⟨_, _, _, _, _, _, _, _, _, _, _, _, q⟩
    exact q
  · obtain ⟨i, c', fs, a, C', dx, gs, rfl, rfl, eio, ek, ec, eh, rf, nb, hF, h1⟩ := Post.of_ins wd1 r1 h1
    obtain ⟨hcc, h2⟩ := Post.of_chk h1
    have hcc : c' = c := hcc
    subst hcc
    rw [hcl] at ec
    cases ec
    refine ⟨a, dx, gs, rfl, eh, rfl, B, s1, st1, [.ref i], rfl, wd1, .cons (.ref eio) .nil, ?_⟩
    unfold M.bind M.quiet at h2
    dsimp only at h2
    cases em : mf [.ref i] st1 with
    | ok d st' => rw [em] at h2; exact fun s' v l w r => h2 s' v l w r
    | err c x st' => rw [em] at h2; exact h2.elim
    | bad => rw [em] at h2; exact h2.elim
end
end M3


namespace M3
open PySem PySem.Spec PyProof.Rows L2

/-! ### raise X('..'), X an own class without __init__ -/
structure ExcOk (K : PySem.W.Frag) (mg : Str → Option Value) (G : G3) (x : Str) (c : String) : Prop where
  ex : ∃ (C : Addr) (bmB : List Value) (B newId initId : String), ExcBaseFacts B newId initId bmB ∧ PySem.W.excIn K C bmB newId = true ∧ mg x = some (.ref C) ∧ PySem.W.keepIn K (.ref C) = true ∧
    PySem.W.subIn K (.ref C) (.type "BaseException") = some true ∧ PySem.W.typeIn K (.ref C) = some (.type "type") ∧ G.cls c = some C ∧ G.fld c = none
def sRaise (c : String) : SM := fun u st => .err c .non u st
section
variable {P : P3} {pos p p2 rpos : Pos}
theorem ms_raise {x m : Str} {c : String} {j : Nat} (h : ExcOk P.X.K P.X.mg P.G x c) (hc : P.X.calm = true) (tk : Takes P.X P.wx) (hg : Gl P.X x) (hdb : (x == ("__debug__" : Str)) = false := by decide) :
    MS P (.Raise (some (.Call (.Name x p) [.Constant (.str m) j p2] [] pos)) none rpos) (sRaise c) := by
  obtain ⟨C, bmB, B, nid, iid, F, q, gC, kC, sb, ty, gc, gf⟩ := h.ex
  refine MS.mk' (ps_raise hc tk (pmk_own F q gC kC (raises_own sb ty) hg hdb)) fun B0 B s o u z D b0 wd sl h => ?_
  refine h B s z (.ref C) none b0 (Le.refl _) wd sl ?_
  unfold ExR
  rw [gc]
  exact ⟨rfl, by rw [gf]⟩

/-! ### what is never reached -/
def sBad : SM := fun _ _ => .bad
theorem ms_bad {P : P3} {st : Stmt} : MS P st sBad := ⟨⟨fun _ _ _ _ _ _ ⟨_, _, _, _, _, _, _, _, _, p⟩ => p.elim⟩⟩
theorem mss_bad {P : P3} {sts : List Stmt} : MSs P sts sBad := ⟨⟨fun _ _ _ _ _ _ ⟨_, _, _, _, _, _, _, _, _, p⟩ => p.elim⟩⟩

/-! ### try, when the body raises nothing -/
def sTry0 (b : SM) : SM := fun u st => match b u st with
  | .err _ _ _ _ => .bad
  | r => r
theorem one {α : Type} {p : α → Prop} {a : α} (h : p a) : ∀ c ∈ [a], p c := fun c hc => List.mem_singleton.mp hc ▸ h
abbrev P3.nox (P : P3) : P3 := ⟨P.X.nox, P.G, P.hx, fun _ _ _ _ => False, P.hK, P.hw⟩
theorem ms_try0 {body : List Stmt} {h0 : ExceptHandler} {hs : List ExceptHandler} {b : SM} (h : MSs P.nox body b) : MS P (.Try body (h0 :: hs) [] [] pos) (sTry0 b) := by
  obtain ⟨t, pt, ht⟩ := h.out
  refine MS.mk' (ps_try_thru0 pt) fun B0 B s o u z D b0 wd sl h => ht B0 B s o u z D b0 wd sl ?_
  unfold sTry0 at h
  cases e : b u o with
  | err c x u' st' => rw [e] at h; exact h.elim
  | nx u' st' => rw [e] at h; exact h
  | rt w st' => rw [e] at h; exact h
  | bk u' st' => rw [e] at h; exact h
  | ct u' st' => rw [e] at h; exact h
  | bad => rw [e] at h; exact h
end

/-! ### try: .. except X as e: .. -/
/-- the class of an exception by its name -/
def cvOf (G : G3) (c : String) : Value := match G.cls c with
  | some C => .ref C
  | none => .type c
/-- the class and the dict of an exception -/
def CRel (G : G3) (c : String) (cv : Value) (dd : Option Addr) : Prop := cv = cvOf G c ∧ ((G.cls c).isSome = true → G.fld c = none → dd = none) ∧ (G.cls c = none → dd = none)
theorem crel_of {G : G3} {s : S3} {c : String} {x : D} {cv : Value} {dd : Option Addr} (h : ExR G s c x cv dd) : CRel G c cv dd := by
  unfold ExR at h
  unfold CRel cvOf
  split at h
  · rename_i e
    rw [e]
    exact ⟨h.1, fun q => (by cases q), fun _ => h.2⟩
  · rename_i C e
    rw [e]
    refine ⟨h.1, fun _ ef => ?_, fun q => (by cases q)⟩
    have := h.2
    rw [ef] at this
    exact this
theorem xfld_of {G : G3} {s : S3} {c : String} {x : D} {cv : Value} {dd : Option Addr} (h : ExR G s c x cv dd) : XFld G s c x dd := by
  intro C f h1 h2
  unfold ExR at h
  rw [h1] at h
  have z := h.2
  rw [h2] at z
  exact z
/-- no slot holds an exception -/
def noExn : Sl3 → Bool
  | [] => true
  | some (.exn _ _) :: _ => false
  | _ :: u => noExn u
theorem noExn_at {c : String} {x : D} : ∀ {u : Sl3} {i : Nat}, noExn u = true → u[i]? ≠ some (some (.exn c x))
  | [], i, _ => by simp
  | w :: u, 0, h => fun e => by
    simp at e
    subst e
    cases h
  | w :: u, i + 1, h => fun e => by
    refine noExn_at (u := u) (i := i) ?_ (by simpa using e)
    cases w with
    | none => exact h
    | some w => cases w <;> first | exact h | cases h
theorem Slo.hx {G : G3} {X X' : Hex} {B0 B : Addr → Prop} {s : S3} {u : Sl3} {z : L2.St} (h : Slo G X B0 B s u z) (n : noExn u = true) : Slo G X' B0 B s u z := by
  obtain ⟨hl, ow, h1, h2⟩ := h
  refine ⟨hl, ow, fun i w e => ?_, h2⟩
  obtain ⟨v, e1, r, q⟩ := h1 i w e
  refine ⟨v, e1, ?_, q⟩
  cases w with
  | exn c x => exact absurd e (noExn_at n)
  | val d => exact r
  | bor xs => exact r
  | bod ks us => exact r
  | bdd ks us => exact r
  | len xs => exact r
theorem Slo.exn {G : G3} {B0 B : Addr → Prop} {s : S3} {u : Sl3} {z : L2.St} {a : Addr} {c : String} {x : D} {dd : Option Addr} (h : Slo G (some (a, c, x, dd)) B0 B s u z) (xf : XFld G s c x dd) (i : Nat) : Slo G (some (a, c, x, dd)) B0 B s (u.set i (some (.exn c x))) (z.set i (some (.ref a))) := by
  obtain ⟨hl, ow, h1, h2⟩ := h
  refine ⟨by simpa using hl, ow, fun j w e => ?_, fun j k w w' o1 o2 e1 e2 e => ?_⟩
  · rcases get_set e with ⟨rfl, rfl⟩ | ⟨ne, e⟩
    · have hi : i < u.length := by
        rcases Nat.lt_or_ge i u.length with q | q
        · exact q
        · rw [List.getElem?_eq_none (by simpa using q)] at e; cases e
      exact ⟨.ref a, by rw [List.getElem?_set_self (by omega)], ⟨a, dd, rfl, rfl, xf⟩, fun q => by cases q⟩
    · obtain ⟨v', e1, r', q⟩ := h1 j w e
      exact ⟨v', by rw [List.getElem?_set_ne ne]; exact e1, r', q⟩
  · rcases get_set e1 with ⟨_, q⟩ | ⟨_, e1⟩
    · subst q; cases o1
    · rcases get_set e2 with ⟨_, q⟩ | ⟨_, e2⟩
      · subst q; cases o2
      · exact h2 j k w w' o1 o2 e1 e2 e
abbrev noWs : WX := fun _ _ _ _ => False
abbrev P3.tr (P : P3) (pn : List (Addr × Obj)) (xe : Value → Shared → Prop) (W : WX) : P3 := ⟨P.X.tr pn xe, P.G, P.hx, W, P.hK, P.hw⟩
abbrev P3.su (P : P3) (a : Addr) (oe : Obj) (pn : List (Addr × Obj)) (c : String) (x : D) (dd : Option Addr) : P3 := ⟨P.X.suite a ((a, oe) :: pn), P.G, some (a, c, x, dd), noWs, P.hK, P.hw⟩
/-- what an except suite does, the exception in slot i -/
def sSuite (i : Option Nat) (ms : SM) (c : String) (x : D) (u : Sl3) (st : Store) : SRes :=
  let put := fun u : Sl3 => match i with | some i => u.set i (some (.exn c x)) | none => u
  let gone := fun u : Sl3 => match i with | some i => u.set i none | none => u
  match ms (put u) st with
  | .nx u2 st2 => if noExn (gone u2) = true then .nx (gone u2) st2 else .bad
  | .bk u2 st2 => if noExn (gone u2) = true then .bk (gone u2) st2 else .bad
  | .ct u2 st2 => if noExn (gone u2) = true then .ct (gone u2) st2 else .bad
  | .rt w st2 => .rt w st2
  | _ => .bad
def sTry (i : Option Nat) (sub : String → Option Bool) (mb ms : SM) : SM := fun u st => match mb u st with
  | .err c x u' st' => match sub c with
    | some true => if noExn u' = true then sSuite i ms c x u' st' else .bad
    | some false => .err c x u' st'
    | none => .bad
  | r => r
/-- the suite's reading -/
def tSu (G : G3) (ms : SM) : Addr → Value → Option Addr → TS := fun a cv dd D z H => ∃ c x, CRel G c cv dd ∧ tS G (some (a, c, x, dd)) noWs ms D z H
section
variable {P : P3} {pos pos' np : Pos}
theorem su_pss {suite : List Stmt} {ms : SM} (hsu : ∀ (a : Addr) (oe : Obj) (cv : Value) (dd : Option Addr) (pn : List (Addr × Obj)) (c : String) (x : D), Zc cv dd oe → (∃ vs, oe.data = .fields vs) → CRel P.G c cv dd → MSs (P.su a oe pn c x dd) suite ms)
    (a : Addr) (oe : Obj) (cv : Value) (dd : Option Addr) (pn : List (Addr × Obj)) (hz : Zc cv dd oe) (hf : ∃ vs, oe.data = .fields vs) : PSs (P.X.suite a ((a, oe) :: pn)) suite (tSu P.G ms a cv dd) :=
  ⟨fun pins s z H D I ⟨c, x, hc, q⟩ => (hsu a oe cv dd pn c x hz hf hc).pss.run pins s z H D I q⟩
theorem ms_tryAs (i : Nat) {x n : Str} {c0 : Value} {body suite : List Stmt} {b0s : Stmt} {mb ms : SM} {sub : String → Option Bool} (hh : P.hx = none) (hs : P.X.stack = P.X.env :: P.X.outer) (hf : P.X.env.frame = some P.X.env.locals) (hN : P.X.N.Nodup) (hln : P.X.env.kindOf n = some .local)
    (hc : Names P.X x c0) (tk : Takes P.X P.wx) (hsub : ∀ c b, sub c = some b → PySem.W.exmOne P.X.K (cvOf P.G c) c0 = some b)
    (hb : ∀ (W : WX) (pn : List (Addr × Obj)) (xe : Value → Shared → Prop), Takes (P.X.tr pn xe) W → PassesOwn (model P.X.prog P.X.w) P.X.A P.X.env xe → MSs (P.tr pn xe W) body mb)
    (hsu : ∀ (a : Addr) (oe : Obj) (cv : Value) (dd : Option Addr) (pn : List (Addr × Obj)) (c : String) (x : D), Zc cv dd oe → (∃ vs, oe.data = .fields vs) → CRel P.G c cv dd → MSs (P.su a oe pn c x dd) (b0s :: suite) ms) (hi : P.X.N[i]? = some n := by rfl) :
    MS P (.Try body [.ExceptHandler (some (.Name x np)) (some n) (b0s :: suite) pos'] [] [] pos) (sTry (some i) sub mb ms) := by
  refine MS.mk' (ps_try_as (tb := fun W => tS P.G P.hx W mb) (ts := tSu P.G ms) (Wout := P.wx) hs hf hN hi hln hc tk (fun W pn xe t o => (hb W pn xe t o).pss) (su_pss hsu)) fun B0 B s o u z D b0 wd sl h => ?_
  refine ⟨B0, B, s, o, u, rfl, b0, wd, sl, ?_⟩
  unfold sTry at h
  cases e : mb u o with
  | bad => rw [e] at h; exact h.elim
  | nx u' st' => rw [e] at h; exact h
  | rt w st' => rw [e] at h; exact h
  | bk u' st' => rw [e] at h; exact h
  | ct u' st' => rw [e] at h; exact h
  | err c x u' st' =>
    rw [e] at h
    dsimp only at h
    intro B' s' z' cv dd b' l' w' sl' ex
    have cr := crel_of ex
    cases es : sub c with
    | none => rw [es] at h; exact h.elim
    | some k =>
      rw [es] at h
      refine ⟨k, by rw [cr.1]; exact hsub c k es, fun hk a ha => ?_, fun hk => ?_⟩
      · subst hk
        dsimp only at h
        split at h
        · rename_i hne
          refine ⟨c, x, cr, B0, B', s', st', u'.set i (some (.exn c x)), rfl, b', w', (Slo.hx sl' hne).exn (xfld_of ex) i, ?_⟩
          unfold sSuite at h
          dsimp only at h
          have dn : ∀ {u2 : Sl3} {B2 : Addr → Prop} {s2 : S3} {z2 : L2.St}, Slo P.G (some (a, c, x, dd)) B0 B2 s2 u2 z2 → noExn (u2.set i none) = true → Slo P.G P.hx B0 B2 s2 (u2.set i none) (z2.set i none) := fun q n => Slo.hx (q.del i none) n
          cases e2 : ms (u'.set i (some (.exn c x))) st' with
          | bad => rw [e2] at h; exact h.elim
          | err _ _ _ _ => rw [e2] at h; exact h.elim
          | rt w st2 => rw [e2] at h; exact fun B2 s2 v b2 l2 w2 r2 => h B2 s2 v b2 (l'.trans l2) w2 r2
          | nx u2 st2 =>
            rw [e2] at h
            dsimp only at h
            split at h
            · rename_i n2; exact fun B2 s2 z2 b2 l2 w2 q2 => h B2 s2 _ b2 (l'.trans l2) w2 (dn q2 n2)
            · exact h.elim
          | bk u2 st2 =>
            rw [e2] at h
            dsimp only at h
            split at h
            · rename_i n2; exact fun B2 s2 z2 b2 l2 w2 q2 => h B2 s2 _ b2 (l'.trans l2) w2 (dn q2 n2)
            · exact h.elim
          | ct u2 st2 =>
            rw [e2] at h
            dsimp only at h
            split at h
            · rename_i n2; exact fun B2 s2 z2 b2 l2 w2 q2 => h B2 s2 _ b2 (l'.trans l2) w2 (dn q2 n2)
            · exact h.elim
        · exact h.elim
      · subst hk
        exact h B' s' z' cv dd b' l' w' sl' ex
theorem ms_tryOnly {x : Str} {c0 : Value} {body suite : List Stmt} {b0s : Stmt} {mb ms : SM} {sub : String → Option Bool} (hs : P.X.stack = P.X.env :: P.X.outer) (hf : P.X.env.frame = some P.X.env.locals)
    (hc : Names P.X x c0) (tk : Takes P.X P.wx) (hsub : ∀ c b, sub c = some b → PySem.W.exmOne P.X.K (cvOf P.G c) c0 = some b)
    (hb : ∀ (W : WX) (pn : List (Addr × Obj)) (xe : Value → Shared → Prop), Takes (P.X.tr pn xe) W → PassesOwn (model P.X.prog P.X.w) P.X.A P.X.env xe → MSs (P.tr pn xe W) body mb)
    (hsu : ∀ (a : Addr) (oe : Obj) (cv : Value) (dd : Option Addr) (pn : List (Addr × Obj)) (c : String) (x : D), Zc cv dd oe → (∃ vs, oe.data = .fields vs) → CRel P.G c cv dd → MSs (P.su a oe pn c x dd) (b0s :: suite) ms) :
    MS P (.Try body [.ExceptHandler (some (.Name x np)) none (b0s :: suite) pos'] [] [] pos) (sTry none sub mb ms) := by
  refine MS.mk' (ps_try_only (tb := fun W => tS P.G P.hx W mb) (ts := tSu P.G ms) (Wout := P.wx) hs hf hc tk (fun W pn xe t o => (hb W pn xe t o).pss) (su_pss hsu)) fun B0 B s o u z D b0 wd sl h => ?_
  refine ⟨B0, B, s, o, u, rfl, b0, wd, sl, ?_⟩
  unfold sTry at h
  cases e : mb u o with
  | bad => rw [e] at h; exact h.elim
  | nx u' st' => rw [e] at h; exact h
  | rt w st' => rw [e] at h; exact h
  | bk u' st' => rw [e] at h; exact h
  | ct u' st' => rw [e] at h; exact h
  | err c x u' st' =>
    rw [e] at h
    dsimp only at h
    intro B' s' z' cv dd b' l' w' sl' ex
    have cr := crel_of ex
    cases es : sub c with
    | none => rw [es] at h; exact h.elim
    | some k =>
      rw [es] at h
      refine ⟨k, by rw [cr.1]; exact hsub c k es, fun hk a ha => ?_, fun hk => ?_⟩
      · subst hk
        dsimp only at h
        split at h
        · rename_i hne
          refine ⟨c, x, cr, B0, B', s', st', u', rfl, b', w', Slo.hx sl' hne, ?_⟩
          unfold sSuite at h
          dsimp only at h
          cases e2 : ms u' st' with
          | bad => rw [e2] at h; exact h.elim
          | err _ _ _ _ => rw [e2] at h; exact h.elim
          | rt w st2 => rw [e2] at h; exact fun B2 s2 v b2 l2 w2 r2 => h B2 s2 v b2 (l'.trans l2) w2 r2
          | nx u2 st2 =>
            rw [e2] at h
            dsimp only at h
            split at h
            · rename_i n2; exact fun B2 s2 z2 b2 l2 w2 q2 => h B2 s2 _ b2 (l'.trans l2) w2 (Slo.hx q2 n2)
            · exact h.elim
          | bk u2 st2 =>
            rw [e2] at h
            dsimp only at h
            split at h
            · rename_i n2; exact fun B2 s2 z2 b2 l2 w2 q2 => h B2 s2 _ b2 (l'.trans l2) w2 (Slo.hx q2 n2)
            · exact h.elim
          | ct u2 st2 =>
            rw [e2] at h
            dsimp only at h
            split at h
            · rename_i n2; exact fun B2 s2 z2 b2 l2 w2 q2 => h B2 s2 _ b2 (l'.trans l2) w2 (Slo.hx q2 n2)
            · exact h.elim
        · exact h.elim
      · subst hk
        exact h B' s' z' cv dd b' l' w' sl' ex
end

/-! ### isinstance(e, Y), e the exception that the suite holds -/
def eIsE (i : Nat) (tab : String → Option Bool) : EM := fun u st => match u[i]? with
  | some (some (.exn c _)) => match tab c with
    | some b => .ok (.val (.bl b)) st
    | none => .bad
  | _ => .bad
/-- what is asked of the classes in the table -/
structure IsE (K : PySem.W.Frag) (G : G3) (yv : Value) (tab : String → Option Bool) : Prop where
  ok : ∀ c b, tab c = some b → ∃ C, G.cls c = some C ∧ ExcC K C ∧ PySem.W.kitOne K (.ref C) yv = some b
/-- the dict of the exception stands in the heap -/
def XdAt (dd : Option Addr) (H : Hp) : Prop := ∀ d, dd = some d → ∃ fs, H d = some (.xd fs)
theorem inst_exn {P : Program} {w : World} {K : PySem.W.Frag} {H : Hp} {h : Heap} {a D : Addr} {oe : Obj} {dd : Option Addr} (hok : HOk P w H h) (hget : h.get? a = some oe) (hz : Zc (.ref D) dd oe) (hf : ∃ vs, oe.data = .fields vs) (hx : XdAt dd H) : ∃ od, PySem.W.InstAt h a oe D od := by
  obtain ⟨vs, hv⟩ := hf
  have nc : PySem.W.notCls oe = true := by
    unfold PySem.W.notCls
    rw [hv]
  cases hd : dd with
  | none => exact ⟨none, hget, hz.1, nc, by rw [hz.2, hd]; trivial⟩
  | some d =>
    obtain ⟨fs, e⟩ := hx d hd
    have o : ObjOk P w H h d (.xd fs) := hok d _ e
    obtain ⟨mA, hns, _⟩ := o
    obtain ⟨od, ho, _⟩ := lookIn_ns hns
    exact ⟨some od, hget, hz.1, nc, by rw [hz.2, hd]; exact ho⟩
theorem call_isX {X : Cx} {a D : Addr} {oe : Obj} {dd : Option Addr} {pn : List (Addr × Obj)} (C : ExcC X.K D) (hz : Zc (.ref D) dd oe) (hf : ∃ vs, oe.data = .fields vs) :
    CallR (X.suite a ((a, oe) :: pn)) (.builtin "isinstance") (fun xs H Q => XdAt dd H ∧ rIsE X.K D a xs H Q) := by
  rintro pins s z H xs us Q I r ⟨hx, c, cv, b, rfl, hcv, e, q⟩
  cases r with
  | cons r1 rr =>
    cases rr with
    | cons r2 rr =>
      cases rr
      cases r1
      obtain rfl := hcv _ r2
      have hget := (I.pin (a, oe) (List.mem_append_left _ List.mem_cons_self)).1
      obtain ⟨od, J⟩ := inst_exn (K := X.K) I.hok hget hz hf hx
      have hc : (PySem.W.clsIn X.K D).isSome = true := by
        have z := C.hd
        unfold PySem.W.hasDictIn at z
        cases q : PySem.W.clsIn X.K D with
        | none => rw [q] at z; cases z
        | some cd => rfl
      exact PySem.W.kia_one (PySem.W.kitx_exc hc C.hg C.hk C.hs C.ha C.hn C.ht C.hm) I.kIn J e (fun z => nomatch z) fun tk => ⟨.bl b, H, I.kept (t' := tk) fun _ _ z => z, rfl, q⟩
section
variable {P : P3} {pos p p1 p2 : Pos}
theorem me_isE {a : Addr} {oe : Obj} {pn : List (Addr × Obj)} {c : String} {x : D} {cv : Value} {dd : Option Addr} (i : Nat) {n y : Str} {V0 : V} {yv : Value} {tab : String → Option Bool} (T : IsE P.X.K P.G yv tab) (hz : Zc cv dd oe) (hfd : ∃ vs, oe.data = .fields vs) (cr : CRel P.G c cv dd)
    (hy : PE (P.su a oe pn c x dd).X (.Name y p2) (tC V0)) (hyv : ∀ u, RelV V0 u → u = yv) (hg : Gl P.X "isinstance") (hm : P.X.mg "isinstance" = none) (hN : P.X.N[i]? = some n := by rfl) (hv : Vis P.X.env.scope n := by first | exact Or.inl rfl | exact Or.inr (Or.inl rfl) | exact Or.inr (Or.inr rfl))
    (hd : (n == ("__debug__" : Str)) = false := by decide) (hcd : (n == ("__classdict__" : Str)) = false := by decide)
    (he : starEach [.Name n p1, .Name y p2] P.X.env = (false, eval (.Name n p1) P.X.env) :: starEach [.Name y p2] P.X.env := by rfl) (he2 : starEach [.Name y p2] P.X.env = (false, eval (.Name y p2) P.X.env) :: starEach [] P.X.env := by rfl) (hpl : (backTo pos (starEach [.Name y p2] P.X.env)).any (·.1) = false := by rfl) :
    ME (P.su a oe pn c x dd) (.Call (.Name "isinstance" p) [.Name n p1, .Name y p2] [] pos) (eIsE i tab) := by
  constructor
  constructor
  rintro pins s0 z H Q I ⟨B0, B, s, st, u, rfl, wd, sl, hp⟩
  unfold eIsE at hp
  split at hp
  · rename_i c' x' eu
    obtain ⟨v, ez, a', dd', ea, rfl, xf⟩ := sl.get eu
    cases ea
    split at hp
    · rename_i b et
      obtain ⟨C, gc, ec, ko⟩ := T.ok c b et
      have hcv : cv = .ref C := by rw [cr.1]; unfold cvOf; rw [gc]
      subst hcv
      have hx : XdAt dd s.H := fun d e => by
        cases hf : P.G.fld c with
        | none => rw [cr.2.1 (by rw [gc]; rfl) hf] at e; cases e
        | some f =>
          obtain ⟨d', fs, v, q1, q2, _⟩ := xf C f gc hf
          rw [q1] at e
          cases e
          exact ⟨fs, wd.sub _ _ q2⟩
      have hvar : PE (P.su a oe pn c x dd).X (.Name n p1) _ := pe_var hN hv hd hcd
      refine (pe_callB (call_isX (X := P.X) ec hz hfd) hg hm (show bootBuiltins "isinstance" = some (.builtin "isinstance") by decide +kernel) (pa_cons hvar (pa_cons hy pa_nil he2) he) (by decide) (by decide) he hpl).run pins s0 z s.H Q I ?_
      exact ⟨.ref a, ez, hx, V0, yv, b, rfl, hyv, ko, hp.pure wd .bl⟩
    · exact hp.elim
  · exact hp.elim

/-! ### e.f, the field of the exception that the suite holds -/
def eXf (i : Nat) (cs : List String) : EM := fun u st => match u[i]? with
  | some (some (.exn c x)) => if c ∈ cs then .ok (.val x) st else .bad
  | _ => .bad
structure XfE (K : PySem.W.Frag) (G : G3) (f : Str) (cs : List String) : Prop where
  ok : ∀ c ∈ cs, ∃ C, G.cls c = some C ∧ G.fld c = some f ∧ XfC K C ∧ PySem.W.findIn K (.ref C) f = some none
theorem me_xf {a : Addr} {oe : Obj} {pn : List (Addr × Obj)} {c : String} {x : D} {cv : Value} {dd : Option Addr} (i : Nat) {n f : Str} {cs : List String} (T : XfE P.X.K P.G f cs) (hz : Zc cv dd oe) (hfd : ∃ vs, oe.data = .fields vs) (cr : CRel P.G c cv dd)
    (hN : P.X.N[i]? = some n := by rfl) (hv : Vis P.X.env.scope n := by first | exact Or.inl rfl | exact Or.inr (Or.inl rfl) | exact Or.inr (Or.inr rfl))
    (hd : (n == ("__debug__" : Str)) = false := by decide) (hcd : (n == ("__classdict__" : Str)) = false := by decide) (hb : attributeBase (.Name n p) f P.X.env (eval (.Name n p) P.X.env) = eval (.Name n p) P.X.env := by rfl) :
    ME (P.su a oe pn c x dd) (.Attribute (.Name n p) f pos) (eXf i cs) := by
  constructor
  constructor
  rintro pins s0 z H Q I ⟨B0, B, s, st, u, rfl, wd, sl, hp⟩
  unfold eXf at hp
  split at hp
  · rename_i c' x' eu
    obtain ⟨v, ez, a', dd', ea, rfl, xf⟩ := sl.get eu
    cases ea
    split at hp
    · rename_i et
      obtain ⟨C, gc, gf, ec, no⟩ := T.ok c et
      have hcv : cv = .ref C := by rw [cr.1]; unfold cvOf; rw [gc]
      subst hcv
      obtain ⟨d', fs, v, q1, q2, q3, q4⟩ := xf C f gc gf
      have hvar : PE (P.su a oe pn c x dd).X (.Name n p) _ := pe_var hN hv hd hcd
      exact (pe_xf ec no hz hfd hvar hb).run pins s0 z s.H Q I ⟨.ref a, ez, rfl, rfl, d', fs, v, q1, wd.sub _ _ q2, q3, hp.pure wd q4⟩
    · exact hp.elim
  · exact hp.elim
end
end M3


/-! dicts whose keys are tuples: DkO -/
namespace M3
open PySem PySem.Spec PyProof.Rows L2

/-! ### data as keys -/
section
variable {K : KW} {F H : Hp} {io : Io} {P : Program} {w : World} {h : Heap}
mutual
theorem nk_ok (hs : Same F H) (ok : HOk P w H h) : ∀ {d : D} {v : V} {k : NestedKey} {u : Value}, Rep K F io d v → d.nk = some k → RelV v u → NestedIs h k u
  | _, _, _, _, .non, e, r => by rw [D.nk] at e; cases e; cases (show _ = Value.none from r); exact .none
  | _, _, _, _, .bl, e, r => by rw [D.nk] at e; cases e; cases (show _ = Value.bool _ from r); exact .bool rfl
  | _, _, _, _, .int, e, r => by rw [D.nk] at e; cases e; obtain ⟨t, rfl⟩ := r; exact .int _ _
  | _, _, _, _, .str, e, r => by rw [D.nk] at e; cases e; obtain ⟨t, rfl⟩ := r; exact .text _ _
  | _, _, _, _, .ty, e, _ => by simp [D.nk] at e
  | _, _, _, _, .ref _, e, _ => by simp [D.nk] at e
  | _, _, _, _, .fn _ _ _ _ _, e, _ => by simp [D.nk] at e
  | _, _, _, _, .dict _ _ _, e, _ => by simp [D.nk] at e
  | _, _, _, _, .dd _ _ _ _ _, e, _ => by simp [D.nk] at e
  | _, _, _, _, .ctup _ _, e, _ => by simp [D.nk] at e
  | _, _, _, _, .lst _ _, e, _ => by simp [D.nk] at e
  | _, _, _, _, .ro _ _, e, _ => by simp [D.nk] at e
  | .tup xs, _, k, _, .tup s q, e, r => by
    rw [D.nk] at e
    cases hx : D.nks xs with
    | none => rw [hx] at e; cases e
    | some ks =>
      rw [hx] at e
      cases e
      cases (show _ = Value.ref _ from r)
      obtain ⟨o, hq, _⟩ := s
      obtain ⟨hg, z, its, vs, o', h1, h2, n, h3⟩ := ok _ _ (hs _ _ hq)
      exact .tup h1 h2 h3 (by rw [List.toList_toArray]; exact nks_ok hs ok q hx vs)
theorem nks_ok (hs : Same F H) (ok : HOk P w H h) : ∀ {ds : List D} {vs : List V} {ks : List NestedKey} {us : List Value}, RepL K F io ds vs → D.nks ds = some ks → Vals vs us → NestedAll h ks us
  | [], _, _, _, .nil, e, .nil => by rw [D.nks] at e; cases e; exact .nil
  | d :: ds, _, ks, _, .cons r t, e, .cons q qs => by
    rw [D.nks] at e
    cases h1 : D.nk d with
    | none => rw [h1] at e; cases e
    | some k =>
      cases h2 : D.nks ds with
      | none => rw [h1, h2] at e; cases e
      | some ks' => rw [h1, h2] at e; cases e; exact .cons (nk_ok hs ok r h1 q) (nks_ok hs ok t h2 qs)
end
end
/-- at b stands the key k -/
def KeyH (H : Hp) (k : NestedKey) (b : Addr) : Prop := ∀ (P : Program) (w : World) (h : Heap), HOk P w H h → (nestedKind P w).is h k b
theorem tk_ok {K : KW} {F H : Hp} {io : Io} {d : D} {v : V} {k : NestedKey} (hs : Same F H) (r : Rep K F io d v) (e : d.tk = some k) : ∃ b, v = .ref b ∧ KeyH H k b := by
  unfold D.tk at e
  split at e
  · rename_i xs
    split at e
    · rename_i ks h1
      split at e
      · rename_i hd
        cases e
        cases r with
        | tup s q => exact ⟨_, rfl, fun P w h ok => ⟨nk_ok (d := .tup xs) hs ok (.tup s q) (by rw [D.nk, h1]; rfl) rfl, hd⟩⟩
      · cases e
    · cases e
  · cases e
theorem DkR.keyH {K : KW} {F H : Hp} {io : Io} (hs : Same F H) : ∀ {ks us : List D} {xs : DkX}, DkR K F io ks us xs → ∀ x ∈ xs, KeyH H x.1 x.2.1 := by
  intro ks us xs h
  have h1 := h.keys
  have h2 := h.tk
  clear h
  induction xs generalizing ks with
  | nil => intro x hx; cases hx
  | cons x xs ih =>
    cases ks with
    | nil => cases h1
    | cons k ks =>
      rw [List.map_cons] at h1
      cases h1 with
      | cons r t =>
        simp only [List.map_cons, List.cons.injEq] at h2
        intro y hy
        rcases List.mem_cons.mp hy with e | hy
        · subst e
          obtain ⟨b, eb, hb⟩ := tk_ok hs r h2.1
          cases eb
          exact hb
        · exact ih t h2.2 y hy

/-! ### what a dict holds, as data -/
def ddAt : List D → List D → NestedKey → Option D
  | k :: ks, d :: ds, x => if k.tk = some x then some d else ddAt ks ds x
  | _, _, _ => none
def ddSet : List D → List D → NestedKey → D → List D
  | k :: ks, d :: ds, x, y => (if k.tk = some x then y else d) :: ddSet ks ds x y
  | _, ds, _, _ => ds
def ddHas (ks : List D) (x : NestedKey) : Bool := ks.any fun k => decide (k.tk = some x)
def ddPut (ks us : List D) (kd : D) (x : NestedKey) (d : D) : List D × List D := if ddHas ks x = true then (ks, ddSet ks us x d) else (ks ++ [kd], us ++ [d])
section
variable {K : KW} {F H : Hp} {io : Io}
theorem dd_at {x : NestedKey} : ∀ {ks us : List D} {xs : DkX}, DkR K F io ks us xs → (∀ d, ddAt ks us x = some d → ∃ b u v, atKey xs x = some (b, u) ∧ RelV v u ∧ Rep K F io d v) ∧ (atKey xs x).isSome = ddHas ks x ∧ ((ddAt ks us x).isSome = ddHas ks x) := by
  intro ks us xs h
  obtain ⟨h1, h2, vs, h3, h4⟩ := h
  induction xs generalizing ks us vs with
  | nil =>
    cases ks with
    | nil => exact ⟨fun d e => by simp [ddAt] at e, rfl, by simp [ddAt, ddHas]⟩
    | cons k ks => cases h1
  | cons y xs ih =>
    cases ks with
    | nil => cases h1
    | cons k ks =>
      rw [List.map_cons] at h1
      cases h1 with
      | cons r t =>
        rw [List.map_cons] at h3
        cases h3 with
        | cons q qs =>
          cases h4 with
          | cons g gs =>
            simp only [List.map_cons, List.cons.injEq] at h2
            obtain ⟨i1, i2, i3⟩ := ih t h2.2 _ qs gs
            unfold ddAt ddHas atKey
            by_cases e : y.1 = x
            · rw [h2.1, e, if_pos rfl]
              simp only [List.find?_cons, e, decide_true, List.any_cons, h2.1]
              exact ⟨fun d z => by cases z; exact ⟨y.2.1, y.2.2, _, rfl, q, g⟩, rfl, rfl⟩
            · have e2 : ¬ (k.tk = some x) := by rw [h2.1]; exact fun z => e (by injection z)
              rw [if_neg e2]
              simp only [List.find?_cons, e, decide_false, List.any_cons, e2, Bool.false_or]
              exact ⟨i1, i2, i3⟩
theorem dd_put {x : NestedKey} {kd : D} {b : Addr} {d : D} {v : V} {u : Value} (hk : kd.tk = some x) (rk : Rep K F io kd (.ref b)) (rv : RelV v u) (rd : Rep K F io d v) {ks us : List D} {xs : DkX} (h : DkR K F io ks us xs) :
    DkR K F io (ddPut ks us kd x d).1 (ddPut ks us kd x d).2 (storedH xs x b u) := by
  have hh := (dd_at (x := x) h).2.1
  unfold ddPut storedH
  rw [hh]
  by_cases e : ddHas ks x = true
  · rw [if_pos e, if_pos e]
    clear hh e
    obtain ⟨h1, h2, vs, h3, h4⟩ := h
    induction xs generalizing ks us vs with
    | nil =>
      cases ks with
      | nil => cases h3; cases h4; exact ⟨.nil, rfl, [], .nil, .nil⟩
      | cons k ks => cases h1
    | cons y xs ih =>
      cases ks with
      | nil => cases h1
      | cons k ks =>
        rw [List.map_cons] at h1
        cases h1 with
        | cons r t =>
          rw [List.map_cons] at h3
          cases h3 with
          | cons q qs =>
            cases h4 with
            | cons g gs =>
              simp only [List.map_cons, List.cons.injEq] at h2
              obtain ⟨j1, j2, ws, j3, j4⟩ := ih t h2.2 _ qs gs
              simp only [List.map_cons, ddSet]
              by_cases e : y.1 = x
              · rw [show putAt x u y = (y.1, y.2.1, u) from if_pos e, if_pos (by rw [h2.1, e])]
                exact ⟨.cons r j1, by simp only [List.map_cons, h2.1]; rw [j2], v :: ws, .cons rv j3, .cons rd j4⟩
              · rw [show putAt x u y = y from if_neg e, if_neg (by rw [h2.1]; exact fun z => e (by injection z))]
                exact ⟨.cons r j1, by simp only [List.map_cons, h2.1]; rw [j2], _ :: ws, .cons q j3, .cons g j4⟩
  · rw [if_neg e, if_neg e]
    obtain ⟨h1, h2, vs, h3, h4⟩ := h
    refine ⟨?_, ?_, vs ++ [v], ?_, h4.append (.cons rd .nil)⟩
    · rw [List.map_append]; exact h1.append (.cons rk .nil)
    · rw [List.map_append, List.map_append, h2]; simp [hk]
    · rw [List.map_append]; exact Paired.snoc h3 rv
theorem dd_len {ks us : List D} {xs : DkX} (h : DkR K F io ks us xs) : ks.length = xs.length ∧ us.length = xs.length := by
  obtain ⟨h1, _, vs, h3, h4⟩ := h
  refine ⟨by have := h1.length; simpa using this, ?_⟩
  rw [h4.length, Paired.length h3]; simp
end

/-! ### in the heap -/
theorem dkO_of {P : Program} {w : World} {H : Hp} {h : Heap} {a : Addr} {xs : DkX} (ok : HOk P w H h) (e : Rd H a (DkO w a xs)) (hk : ∀ x ∈ xs, KeyH H x.1 x.2.1) :
    (a == sysModules) = false ∧ xs.length ≤ sizeLine ∧ h.DictOfH (nestedKind P w) a xs := by
  obtain ⟨⟨h1, h2, h3, o, es, ep, g1, g2, g3, g4⟩, _, _⟩ := e.ok ok
  exact ⟨h1, h3, o, es, ep, g1, g2, g3, g4, fun x hx => hk x hx P w h ok, h2⟩
theorem dkO_new {P : Program} {w : World} {H' : Hp} {h' : Heap} {a : Addr} {xs : DkX} (h1 : (a == sysModules) = false) (h3 : xs.length ≤ sizeLine) (dd : h'.DictOfH (nestedKind P w) a xs) : ObjOk P w H' h' a (DkO w a xs) := by
  obtain ⟨o, es, ep, g1, g2, g3, g4, _, g5⟩ := dd
  exact ⟨⟨h1, g5, h3, o, es, ep, g1, g2, g3, g4⟩, ⟨o, g1⟩, fun k1 k2 ⟨q1, q2, q3, o, es, ep, f1, f2⟩ hk => ⟨q1, q2, q3, o, es, ep, hk o f1, f2⟩⟩
theorem nroom {A : Around} (hu : A.units + 65 < cLine) {P : Program} {w : World} : (nestedKind P w).room A.in1 := by
  show A.units + 1 + 8 < cLine
  omega
def rInD (w : World) (neg : Bool) : R2 := fun x y H Q => ∃ a b xs k, x = .ref b ∧ y = .ref a ∧ Rd H a (DkO w a xs) ∧ (∀ x ∈ xs, KeyH H x.1 x.2.1) ∧ KeyH H k b ∧ Q (.bl (if neg then !(atKey xs k).isSome else (atKey xs k).isSome)) H
theorem op_inDD {X : Cx} (hu : X.A.units + 65 < cLine) : OpR X (compareOp .In) (rInD X.w false) := by
  intro pins s σ H x y v u Q I rx ry ⟨a, b, xs, k, ex, ey, hr, hk, kb, q⟩
  subst ex ey
  cases (show v = Value.ref b from rx)
  cases (show u = Value.ref a from ry)
  obtain ⟨hd, _, dd⟩ := dkO_of I.hok hr hk
  exact wpAny_in_heap (nroom hu) (kb _ _ _ I.hok) hd dd ⟨V.bl _, H, I.tok _, rfl, q⟩
theorem op_notinDD {X : Cx} (hu : X.A.units + 65 < cLine) : OpR X (compareOp .NotIn) (rInD X.w true) := by
  intro pins s σ H x y v u Q I rx ry ⟨a, b, xs, k, ex, ey, hr, hk, kb, q⟩
  subst ex ey
  cases (show v = Value.ref b from rx)
  cases (show u = Value.ref a from ry)
  obtain ⟨hd, _, dd⟩ := dkO_of I.hok hr hk
  show wpAny _ _ (do return Value.bool (!(← contains (.ref a) (.ref b)))) _ _ s
  exact wpAny_bind (wpAny_contains_heap (nroom hu) (kb _ _ _ I.hok) hd dd (wpAny_pure ⟨V.bl _, H, I.tok _, rfl, q⟩))
def rGetDD (w : World) : R2 := fun x y H Q => ∃ a b xs k c u v, x = .ref a ∧ y = .ref b ∧ Rd H a (DkO w a xs) ∧ (∀ x ∈ xs, KeyH H x.1 x.2.1) ∧ KeyH H k b ∧ atKey xs k = some (c, u) ∧ RelV v u ∧ Q v H
theorem pe_getDD {X : Cx} {pos : Pos} {o i : Expr} {to ti : TE} (hu : X.A.units + 65 < cLine) (ho : PE X o to) (hi : PE X i ti) (hs : NoSl i) : PE X (.Subscript o i pos) (tOp (rGetDD X.w) to ti) :=
  ⟨fun pins now σ H Q inv wish => subD_of PySem.F.slot_dict_getitem.lookup hs (thn (ho.run pins now σ H _ inv wish) fun v mid ⟨x, H1, J, rx, rest⟩ =>
    thn (hi.run pins mid σ H1 _ J rest) fun iv last ⟨y, H2, L, ry, a, b, xs, k, c, u, v', ex, ey, hr, hk, kb, ea, rv, q⟩ => by
      subst ex ey
      cases (show v = Value.ref a from rx)
      cases (show iv = Value.ref b from ry)
      obtain ⟨hd, _, dd⟩ := dkO_of L.hok hr hk
      exact ⟨dd.typeIs, wpAny_getItem_heap (nroom hu) (kb _ _ _ L.hok) dd ea ⟨v', H2, L.tok _, rv, q⟩⟩)⟩
def rSetDD (w : World) : TSet := fun o i v H Q => ∃ a b xs k, o = .ref a ∧ i = .ref b ∧ H a = some (DkO w a xs) ∧ (∀ x ∈ xs, KeyH H x.1 x.2.1) ∧ KeyH H k b ∧ xs.length < sizeLine ∧ ∀ u, RelV v u → Q (upd H a (DkO w a (storedH xs k b u)))
theorem set_DD {X : Cx} (hu : X.A.units + 65 < cLine) : PSet X (rSetDD X.w) := by
  intro pins s σ H o i v ov iv u Q I ro ri rv ⟨a, b, xs, k, eo, ei, hr, hk, kb, hz, q⟩
  subst eo ei
  cases (show ov = Value.ref a from ro)
  cases (show iv = Value.ref b from ri)
  obtain ⟨hd, hl, dd⟩ := dkO_of I.hok (.inl hr) hk
  have hl2 : (storedH xs k b u).length ≤ sizeLine := by
    unfold storedH
    split <;> simp <;> omega
  refine wpAny_setItem_heap (hsz := hl) (nroom hu) (kb _ _ _ I.hok) dd fun h' dd' sb => ?_
  have he : ∃ q, h'.get? a = some q := let ⟨q, _, _, hq, _⟩ := dd'; ⟨q, hq⟩
  exact ⟨_, d_write I (by rw [hr]; exact True.intro) sb he (dkO_new hd hl2 dd'), q u rv⟩

/-! ### a dict with tuple keys, where it is -/
/-- a container as it is read -/
def ddOf (w : W) : M (List D × List D) := fun st => match w with
  | .val (.dd ks us) => .ok (ks, us) st
  | .bdd ks us => .ok (ks, us) st
  | .val (.ref k) => match st[k]? with
    | some (.ddi ks us) => .ok (ks, us) st
    | _ => .bad
  | _ => .bad
section
variable {α β : Type} {G : G3} {X : Hex} {B : Addr → Prop} {s : S3} {st : Store} {R : S3 → α → β → Prop} {E : XK} {Q : β → Hp → Prop}
theorem Post.of_dd {w : M3.W} {v : V} {f : List D × List D → M α} (wd : Wd G B st s) (r : RepW G X B s w v) (h : Post G B R E s Q (M.bind (ddOf w) f st)) :
    ∃ ks us a xs, ddOf w st = .ok (ks, us) st ∧ v = .ref a ∧ Rd s.H a (DkO G.w a xs) ∧ DkR G.R s.F s.io ks us xs ∧ Post G B R E s Q (f (ks, us) st) := by
  cases w with
  | val d =>
    cases d with
    | dd ks us =>
      cases r with
      | dd hF hk ht hv hr => exact ⟨ks, us, _, _, rfl, rfl, .inr ⟨_, wd.sub _ _ hF⟩, ⟨hk, ht, _, hv, hr⟩, h⟩
    | ref k =>
      unfold M.bind ddOf at h
      cases e : st[k]? with
      | none => simp only [e] at h; exact h.elim
      | some o =>
        cases o with
        | ddi ks us =>
          simp only [e] at h
          cases r with
          | ref eio =>
            obtain ⟨a, e1, b1, f1, xs, o1, o2⟩ := wd.obj _ _ e rfl
            rw [eio] at e1
            cases e1
            exact ⟨ks, us, _, xs, by unfold ddOf; simp only [e], rfl, .inl o1, o2, h⟩
        | _ => simp only [e] at h; exact h.elim
    | _ => exact h.elim
  | bdd ks us =>
    obtain ⟨p, xs, rfl, _, hp, hr⟩ := r
    exact ⟨ks, us, p, xs, rfl, rfl, .inl hp, hr, h⟩
  | _ => exact h.elim
end
/-- k in d -/
def eInDD (neg : Bool) (mk md : EM) : EM := fun u => M.bind (mk u) fun k => M.bind (md u) fun d => M.bind (M.of k.d) fun kd => M.bind (M.of kd.tk) fun x => M.bind (ddOf d) fun q => M.pure (.val (.bl (if neg then !ddHas q.1 x else ddHas q.1 x)))
/-- d[k] -/
def eGetDD (md mk : EM) : EM := fun u => M.bind (md u) fun d => M.bind (mk u) fun k => M.bind (M.of k.d) fun kd => M.bind (M.of kd.tk) fun x => M.bind (ddOf d) fun q => M.bind (M.of (ddAt q.1 q.2 x)) fun y => M.pure (.val y)
theorem d_val {w : W} {d : D} (e : w.d = some d) : w = .val d := by cases w <;> cases e; rfl
section
variable {P : P3} {pos : Pos} {a b : Expr} {ma mb : EM}
theorem me_opDD {op : CmpOp} {neg : Bool} (h : OpR P.X (compareOp op) (rInD P.X.w neg)) (ha : ME P a ma) (hb : ME P b mb) (hm : behindInMarks op b = false) : ME P (.Compare a [op] [b] pos) (eInDD neg ma mb) := by
  obtain ⟨ta, pa, ha⟩ := ha.out
  obtain ⟨tb, pb, hb⟩ := hb.out
  refine ME.mk' (pe_cmpR h pa pb hm) fun B0 B s st u z Q wd sl hp => ha B0 B s st u z _ wd sl (Post.bind hp fun w1 st1 s1 v1 l1 wd1 r1 h1 => ?_)
  refine hb B0 B s1 st1 u z _ wd1 (sl.mono l1) (Post.bind h1 fun w2 st2 s2 v2 l2 wd2 r2 h2 => ?_)
  obtain ⟨kd, ek, h3⟩ := Post.of_of h2
  obtain ⟨x, ex, h4⟩ := Post.of_of h3
  obtain ⟨ks, us, c, xs, _, rfl, hr, dr, h5⟩ := Post.of_dd wd2 r2 h4
  clear h2 h3 h4
  obtain rfl := d_val ek
  obtain ⟨bb, rfl, kb⟩ := tk_ok (H := s2.H) (l2.fr.trans wd2.sub) (Rep.mono (Same.refl _) l2.io r1) ex
  refine ⟨c, bb, xs, x, rfl, rfl, by rw [P.hw]; exact hr, dr.keyH wd2.sub, kb, ?_⟩
  rw [(dd_at (x := x) dr).2.1]
  exact h5.pure wd2 .bl
theorem me_inDD (hu : P.X.A.units + 65 < cLine) (ha : ME P a ma) (hb : ME P b mb) (hm : behindInMarks .In b = false := by with_unfolding_all rfl) : ME P (.Compare a [.In] [b] pos) (eInDD false ma mb) := me_opDD (op_inDD hu) ha hb hm
theorem me_notinDD (hu : P.X.A.units + 65 < cLine) (ha : ME P a ma) (hb : ME P b mb) (hm : behindInMarks .NotIn b = false := by with_unfolding_all rfl) : ME P (.Compare a [.NotIn] [b] pos) (eInDD true ma mb) := me_opDD (op_notinDD hu) ha hb hm
theorem me_getDD (hu : P.X.A.units + 65 < cLine) (ha : ME P a ma) (hb : ME P b mb) (hs : NoSl b := by intro _ _; rfl) : ME P (.Subscript a b pos) (eGetDD ma mb) := by
  obtain ⟨ta, pa, ha⟩ := ha.out
  obtain ⟨tb, pb, hb⟩ := hb.out
  refine ME.mk' (pe_getDD hu pa pb hs) fun B0 B s st u z Q wd sl hp => ha B0 B s st u z _ wd sl (Post.bind hp fun w1 st1 s1 v1 l1 wd1 r1 h1 => ?_)
  refine hb B0 B s1 st1 u z _ wd1 (sl.mono l1) (Post.bind h1 fun w2 st2 s2 v2 l2 wd2 r2 h2 => ?_)
  obtain ⟨kd, ek, h3⟩ := Post.of_of h2
  obtain ⟨x, ex, h4⟩ := Post.of_of h3
  obtain ⟨ks, us, c, xs, _, rfl, hr, dr, h5⟩ := Post.of_dd wd2 (r1.mono l2) h4
  obtain ⟨y, ey, h6⟩ := Post.of_of h5
  clear h2 h3 h4 h5
  obtain rfl := d_val ek
  obtain ⟨bb, rfl, kb⟩ := tk_ok (H := s2.H) wd2.sub r2 ex
  obtain ⟨cc, uu, v, e1, e2, e3⟩ := (dd_at (x := x) dr).1 y ey
  exact ⟨c, bb, xs, x, cc, uu, v, rfl, rfl, by rw [P.hw]; exact hr, dr.keyH wd2.sub, kb, e1, e2, h6.pure wd2 e3⟩
end
end M3
namespace M3
open PySem PySem.Spec PyProof.Rows L2
/-! ### the keys, walked -/
def ItkD (w : World) (d : Addr) (o : Obj) (xs : DkX) : It where
  go i H := H d = some (.frz o (DkO w d xs)) ∧ i < xs.length
  yld i H x H' := H' = H ∧ ∃ y, xs[i]? = some y ∧ x = .ref y.2.1
  stop i H := H d = some (.frz o (DkO w d xs)) ∧ xs.length ≤ i
theorem frzDD {X : Cx} {pins : List (Addr × Obj)} {σ : L2.St} {H : Hp} {s : Shared} {d : Addr} {o : Obj} {xs : DkX} (I : Inv X pins σ H s) (h : H d = some (.frz o (DkO X.w d xs))) :
    (d == sysModules) = false ∧ s.heap.get? d = some o ∧ o.ExactDict ∧ ∃ (es : Array DictEntry) (ep : Nat), o.data = .dict es ep ∧ es.size = xs.length ∧ ∀ (i : Nat) (y : NestedKey × Addr × Value), xs[i]? = some y → ∃ en : DictEntry, es[i]? = some en ∧ en.key = .ref y.2.1 := by
  obtain ⟨hd, ⟨h1, h2, h3, o', es, ep, g1, g2, g3, g4⟩, _, _⟩ := I.hok d _ h
  rw [hd] at g1
  cases g1
  refine ⟨h1, hd, g2, es, ep, g3, by rw [← Array.length_toList, g4, List.length_map], fun i y hy => ?_⟩
  exact ⟨_, by rw [← Array.getElem?_toList, g4, List.getElem?_map, hy]; rfl, rfl⟩
theorem turn_DD {P : Program} {w : World} {K : PySem.W.Frag} {tg : Expr} {d : Addr} {o : Obj} {es : Array DictEntry} {ep : Nat} {xs : DkX} (it : Addr) (hod : o.data = .dict es ep) :
    Turn P w K tg (ItkD w d o xs) [it] it (fun i h => h.IsKeyIter it d i xs.length ep) := by
  have T := turn_keys (P := P) (w := w) (K := K) (tg := tg) (d := d) (kvs := xs.map fun _ => ((.inl 0 : Key), V.non)) it hod
  rw [List.length_map] at T
  refine ⟨T.mem, T.obj, T.keep, ?_, ?_, T.self⟩
  · intro X eP eW eK calm i pins now σ H E I fp st ⟨hd, hi⟩
    subst eP eW eK
    obtain ⟨f0, f1, f2, f3, f4, f5⟩ := fp it List.mem_cons_self
    obtain ⟨_, hg, _, es', ep', e1, e2, ent⟩ := frzDD I hd
    obtain ⟨rfl, rfl⟩ := dict_ep hod e1
    have hy : xs[i]? = some xs[i] := List.getElem?_eq_getElem hi
    obtain ⟨en, h1, h2⟩ := ent i _ hy
    refine next_key_item st hg hod e2 h1 fun h' st' sb => ⟨en.key, rfl, ?_⟩
    obtain ⟨oi, q1, q2, q3⟩ := id st'
    refine go_of (s := { now with heap := h' }) q1 q2 q3 (by decide) ⟨.ref xs[i].2.1, H, I.turned (t' := now.toks) (fun b ob hb e => (sb.2 b hb).trans e) f0 f1 f3 f4 f5, h2, ⟨rfl, _, hy, rfl⟩, st', fun b hb => (fp b hb).1⟩
  · intro X eP eW eK calm i pins now σ H E I fp st ⟨hd, hi⟩
    subst eP eW eK
    obtain ⟨f0, f1, f2, f3, f4, f5⟩ := fp it List.mem_cons_self
    obtain ⟨_, hg, _, es', ep', e1, e2, ent⟩ := frzDD I hd
    obtain ⟨rfl, rfl⟩ := dict_ep hod e1
    exact next_key_end (I.ok.hd calm) st hg hod e2 hi fun h' eb => ⟨rfl, I.turned (t' := now.toks) (fun b ob hb e => eb b ob hb e) f0 f1 f3 f4 f5⟩
def iKeysDDr (w : World) (td : TE) : TI := fun σ H R => td σ H fun x H1 => ∃ d o xs, x = .ref d ∧ H1 d = some (.frz o (DkO w d xs)) ∧ R (ItkD w d o xs) H1
theorem pi_keysDD {X : Cx} {tg e : Expr} {td : TE} (he : PE X e td) : PI X tg e (iKeysDDr X.w td) :=
  ⟨fun pins now σ H R inv wish => thn (he.run pins now σ H _ inv wish) fun v mid ⟨x, H1, J, rx, d, o, xs, ex, hd, q⟩ => by
    subst ex
    cases (show v = Value.ref d from rx)
    obtain ⟨h1, hg, hx, es, ep, e1, e2, ent⟩ := frzDD J hd
    exact iter_keys h1 hg hx e1 (pi_one (tk := mid.toks) J _ (turn_DD _ e1) ⟨_, Heap.get?_push_size _ rfl, rfl, by rw [e2]; rfl⟩ q)⟩
def iKeysDD (m : EM) : FM := fun u => M.bind (m u) fun w => match w with
  | .val (.dd ks _) => M.pure ks
  | _ => M.bad
theorem mi_keysDD {P : P3} {tg e : Expr} {m : EM} (he : ME P e m) : MI P tg e (iKeysDD m) := by
  obtain ⟨t, pt, ht⟩ := he.out
  refine MI.mk' (pi_keysDD pt) fun B0 B s st u z R wd sl h => ht B0 B s st u z _ wd sl (Post.bind h fun w st1 s1 v l1 wd1 r1 h1 => ?_)
  cases w with
  | val d =>
    cases d with
    | dd ks us =>
      cases r1 with
      | @dd _ _ p od xs vs hF hk ht hv hr =>
        refine ⟨p, od, xs, rfl, by rw [P.hw]; exact wd1.sub _ _ hF, h1 s1 _ (Le.refl _) wd1 ?_⟩
        have ln : ks.length = xs.length := by have := hk.length; simpa using this
        refine ⟨fun s' io ff sb i hi => ⟨by rw [P.hw]; exact sb _ _ (ff _ _ hF), by omega⟩, ?_, fun s' io ff sb i hi => ⟨by rw [P.hw]; exact sb _ _ (ff _ _ hF), by omega⟩⟩
        rintro s' io ff sb i x H' hi ⟨rfl, y, hy, rfl⟩
        obtain ⟨d, e1, e2⟩ := hk.get' (i := i) (v := .ref y.2.1) (by rw [List.getElem?_map, hy]; rfl)
        exact ⟨rfl, d, e1, e2.mono ff io⟩
    | _ => exact h1.elim
  | _ => exact h1.elim

/-! ### one's own: laid, stored into, let go -/
theorem upd2 {H : Hp} {p : Addr} {a b : HO} : upd (upd H p a) p b = upd H p b := upd_upd
theorem pe_newDD {X : Cx} {pos : Pos} : PE X (.Dict [] [] pos) (fun _ H Q => ∀ p, H p = none → Q (.ref p) (upd H p (DkO X.w p []))) :=
  ⟨fun pins now σ H Q inv wish => thn (pe_dnewK.run pins now σ H (fun v H' => ∃ p, v = .ref p ∧ H p = none ∧ H' = upd H p (.dK [])) inv fun p hp => ⟨p, rfl, hp, rfl⟩) fun v mid ⟨x, H1, J, rx, p, ex, hp, eH⟩ => by
    subst ex eH
    obtain ⟨z, hd, vs, rel, o, es, ep, g1, g2, g3, _, g5, _⟩ := dk_of (a := p) J.hok upd_same
    have hv : vs = [] := by cases rel; rfl
    subst hv
    have hes : es.toList = [] := by generalize es.toList = l at g5; cases g5; rfl
    have J2 := d_write (a := p) (h' := mid.heap) (t' := mid.toks) (ob := DkO X.w p []) J (by rw [upd_same]; exact True.intro) ⟨rfl, fun _ _ => rfl⟩ ⟨o, g1⟩ (dkO_new hd (by simp) ⟨o, es, ep, g1, g2, g3, by rw [hes]; rfl, by simp, List.nodup_nil⟩)
    rw [upd2] at J2
    exact ⟨.ref p, _, J2, rx, wish p hp⟩⟩
def sOwnDD (i : Nat) : SM := fun u st => .nx (u.set i (some (.bdd [] []))) st
def eNewDD : EM := fun _ st => .ok (.val (.ref st.length)) (st ++ [.ddi [] []])
theorem dkR_nil {K : KW} {F : Hp} {io : Io} : DkR K F io [] [] [] := ⟨.nil, rfl, [], .nil, .nil⟩
section
variable {P : P3} {pos : Pos}
theorem ms_ownDD (i : Nat) {x : Str} {p dp : Pos} (hN : P.X.N.Nodup) (hi : P.X.N[i]? = some x := by rfl) (hx : Loc P.X.env.scope x := by first | exact Or.inl rfl | exact Or.inr rfl) (hs : swapsWith (.Dict [] [] dp) (some (.Name x p)) pos.line P.X.env = pure false := by rfl)
    (hf : P.X.fn x = true ∨ P.X.env.scope.names.lookup x = some .local := by first | exact .inl rfl | exact .inr rfl | assumption) : MS P (.Assign [.Name x p] (.Dict [] [] dp) pos) (sOwnDD i) := by
  refine MS.mk' (ps_set hN hi hx pe_newDD hs hf) fun B0 B s o u z D b0 wd sl h => fun p hp => ?_
  rw [P.hw]
  obtain ⟨w2, l2⟩ := own_wd (ho := DkO P.G.w p []) wd hp
  have nb := wd.freshB hp
  exact h (plus B p) ⟨s.io, s.F, upd s.H p (DkO P.G.w p [])⟩ _ (fun a q => .inl (b0 a q)) (l2.less b0) w2 ((sl.mono' l2).ownW (w0 := .bdd [] []) nb (fun q => nb (b0 p q)) ⟨p, [], rfl, .inr rfl, upd_same, dkR_nil⟩ i)
theorem me_newDD : ME P (.Dict [] [] pos) eNewDD := by
  refine ME.mk' pe_newDD fun B0 B s st u z Q wd sl h => fun p hp => ?_
  rw [P.hw]
  obtain ⟨w2, l2, e2⟩ := wd.newO (o := .ddi [] []) (H' := upd s.H p (DkO P.G.w p [])) hp (same_upd hp) ⟨[], upd_same, dkR_nil⟩
  exact h _ _ l2 w2 (.ref e2)
/-- the dict of a slot is let go -/
def sFrzDD (i : Nat) : SM := fun u st => match u[i]? with
  | some (some (.bdd ks us)) => .nx (u.set i (some (.val (.dd ks us)))) st
  | _ => .bad
theorem ms_frzDD {st : Stmt} {m : SM} (i : Nat) (h : MS P st m) : MS P st (sSeq (sFrzDD i) m) := by
  obtain ⟨t, pt, ht⟩ := h.out
  refine MS.mk' (ps_lockOn pt) fun B0 B s o u z D b0 wd sl h => ?_
  have eu : ∃ ks us, u[i]? = some (some (.bdd ks us)) ∧ PostS P.G P.hx P.wx B0 s D (m (u.set i (some (.val (.dd ks us)))) o) := by
    unfold sSeq sFrzDD at h
    cases eu : u[i]? with
    | none => rw [eu] at h; exact h.elim
    | some ow =>
      rw [eu] at h
      cases ow with
      | none => exact h.elim
      | some w =>
        cases w with
        | bdd ks us => exact ⟨ks, us, rfl, h⟩
        | _ => exact h.elim
  obtain ⟨ks, us, eu, h⟩ := eu
  obtain ⟨p, ez, bp, nb, ⟨p', xs, e', _, hp, dr⟩, fz⟩ := sl.frzG b0 wd eu rfl
  cases e'
  refine .inr ⟨p, _, hp, True.intro, fun od => ?_⟩
  have hF := (wd.hid p bp).1
  have dr' := dr.mono (F' := upd s.F p (.frz od (DkO P.G.w p xs))) (same_upd hF) (IoLe.refl _)
  obtain ⟨vs, hv, hr⟩ := dr'.vals
  obtain ⟨B', s', eH, b', le, wd', sl'⟩ := fz (.frz od (DkO P.G.w p xs)) (.dd ks us) (by exact ⟨fun _ q => (by cases q), fun _ _ q => (by first | exact dkO_code q | exact cellO_code q | (unfold LamX.CodeO at q; cases q))⟩) (.dd upd_same dr'.keys dr'.tk hv hr)
  rw [← eH]
  exact ht B0 B' s' o _ z D b' wd' sl' (PostS.mono le h)
/-- x[k] = e, x a dict of one's own -/
def sSetDD (i : Nat) (mi me : EM) : SM := fun u st => match u[i]? with
  | some (some (.bdd ks us)) => match me u st with
    | .ok (.val d) st1 => match mi u st1 with
      | .ok (.val k) st2 => match k.tk with
        | some x => if ks.length < 1000000 then .nx (u.set i (some (.bdd (ddPut ks us k x d).1 (ddPut ks us k x d).2))) st2 else .bad
        | none => .bad
      | .err c x st2 => .err c x u st2
      | _ => .bad
    | .err c x st1 => .err c x u st1
    | _ => .bad
  | _ => .bad
theorem ms_setDD (i : Nat) {x : Str} {px ipos : Pos} {ei e : Expr} {mi me : EM} (hu : P.X.A.units + 65 < cLine) (hi : ME P ei mi) (he : ME P e me) (hN : P.X.N[i]? = some x := by rfl) (hv : Vis P.X.env.scope x := by first | exact Or.inl rfl | exact Or.inr (Or.inl rfl) | exact Or.inr (Or.inr rfl)) (hd : (x == ("__debug__" : Str)) = false := by decide)
    (hcd : (x == ("__classdict__" : Str)) = false := by decide)
    (ha : SubParts P.X (.Name x px) ei ipos := by intro _; rfl)
    (hs : swapsWithSole [.Subscript (.Name x px) ei ipos] e pos.line P.X.env = pure false := by rfl) (hw : swappedStores [.Subscript (.Name x px) ei ipos] e P.X.env = pure none := by rfl)
    (h1 : (assignEach [.Subscript (.Name x px) ei ipos] P.X.env).map (·.2) = [assign (.Subscript (.Name x px) ei ipos) P.X.env] := by rfl) :
    MS P (.Assign [.Subscript (.Name x px) ei ipos] e pos) (sSetDD i mi me) := by
  obtain ⟨t, pt, ht⟩ := he.out
  obtain ⟨ti, pi, hti⟩ := hi.out
  refine MS.mk' (ps_asg pt (pg_sub (pe_var hN hv hd hcd) pi (set_DD hu) ha) hs hw h1) fun B0 B s o u z D b0 wd sl h => ht B0 B s o u z _ wd sl ?_
  unfold sSetDD at h
  split at h
  · rename_i ks us eu
    obtain ⟨p, ez, bp, nb, _, _⟩ := sl.changeW wd eu rfl
    cases e : me u o with
    | bad => rw [e] at h; exact h
    | err c x st' => rw [e] at h; exact fun s' cv dd l w q => h B s' z cv dd b0 (l.less b0) w (sl.mono' l) q
    | ok w st1 =>
      rw [e] at h
      cases w with
      | val d =>
        dsimp only at h
        intro s1 v l1 wd1 r1
        refine ⟨.ref p, ez, hti B0 B s1 st1 u z _ wd1 (sl.mono' l1) ?_⟩
        cases e3 : mi u st1 with
        | bad => rw [e3] at h; exact h
        | err c x st' => rw [e3] at h; exact fun s' cv dd l w q => h B s' z cv dd b0 ((l1.trans l).less b0) w (sl.mono' (l1.trans l)) q
        | ok w2 st2 =>
          rw [e3] at h
          cases w2 with
          | val kd =>
            dsimp only at h
            cases ek : kd.tk with
            | none => rw [ek] at h; exact h.elim
            | some k =>
              rw [ek] at h
              dsimp only at h
              by_cases hz : ks.length < 1000000
              · rw [if_pos hz] at h
                intro s2 v2 l2 wd2 r2
                obtain ⟨p', ez', bp', nb', ⟨p2, xs, ep2, _, hp, dr⟩, ch⟩ := (sl.mono' (l1.trans l2)).changeW wd2 eu rfl
                rw [ez] at ez'
                cases ez'
                cases ep2
                obtain ⟨b, eb, kb⟩ := tk_ok (H := s2.H) wd2.sub r2 ek
                subst eb
                refine ⟨p, b, xs, k, rfl, rfl, by rw [P.hw]; exact hp, dr.keyH wd2.sub, kb, by rw [← (dd_len dr).1]; exact szl hz, fun uv ruv => ?_⟩
                obtain ⟨sl3, w3, l3⟩ := ch (.bdd (ddPut ks us kd k d).1 (ddPut ks us kd k d).2) (DkO P.G.w p (storedH xs k b uv)) rfl ⟨p, _, rfl, bp, upd_same, dd_put ek r2 ruv (Rep.mono l2.fr l2.io r1) dr⟩
                rw [P.hw]
                exact h B _ z b0 (((l1.trans l2).less b0).trans l3) w3 sl3
              · rw [if_neg hz] at h; exact h.elim
          | _ => exact h.elim
      | _ => exact h.elim
  · exact h.elim
end
end M3


/-! dict comprehensions over dicts with tuple keys -/
namespace M3
open PySem PySem.Spec PyProof.Rows L2
/-- storing the pair (y, z) into the dict at D, in the words of the heap -/
abbrev StepD := Addr → V → V → Hp → (Hp → Prop) → Prop
def StoresD (P : Program) (w : World) (A : Around) (put : StepD) : Prop := ∀ (Y : Cx), Y.prog = P → Y.w = w → ∀ (pins : List (Addr × Obj)) (σ : L2.St) (H : Hp) (s : Shared) (D : Addr) (y z : V) (u r : Value) (Nx : Hp → Prop) (Q : Unit → Shared → Prop) (E : Value → Shared → Prop),
  Inv Y pins σ H s → RelV y u → RelV z r → put D y z H Nx → (∀ H' s', Inv Y pins σ H' s' → Nx H' → Q () s') → wpAny (model P w) A (dictSet D u r) Q E s
section
variable {X : Cx}
/-- one turn of the comprehension -/
def turnD (J : It) (g : TG) (tt : TT) (tk tv : TE) (put : StepD) (σ : L2.St) (own : List Nat) (D : Addr) (W : Nat → Nat → Hp → Prop) (i m : Nat) (H : Hp) : Prop :=
  J.go i H ∧ ∃ Nx : Hp → Prop, (∀ H', Nx H' → ∃ m', m' < m ∧ W (i + 1) m' H') ∧ ∀ x H', J.yld i H x H' → g x (wipe σ own) H' fun σ2 H2 => wipe σ2 own = wipe σ own ∧ tt σ2 H2 fun b H3 =>
    if b = true then tk σ2 H3 fun y H4 => tv σ2 H4 fun z H5 => put D y z H5 Nx else Nx H3
def tDcG (o0 : Addr → HO) (put : StepD) (wi : TI) (g : TG) (tt : TT) (tk tv : TE) (own : List Nat) : TE := fun σ H Q => wi σ H fun J H1 => ∀ D, H1 D = none →
  ∃ W : Nat → Nat → Hp → Prop, (∃ m, W 0 m (upd H1 D (o0 D))) ∧ ∀ i m H, W i m H → (J.stop i H ∧ Q (.ref D) H) ∨ turnD J g tt tk tv put σ own D W i m H
theorem pe_dcG {o0 : Addr → HO} {put : StepD} {kx vx tg iter : Expr} {ifs : List Expr} {scope : Scope} {own : List (Str × Nat)} {pos : Pos} {wi : TI} {g : TG} {tt : TT} {tk tv : TE}
    (h0 : ∀ (h : Heap) (H' : Hp), sysModules < h.objs.size → ObjOk X.prog X.w H' (h.push { cls := .type "dict", data := .dict #[] }) h.objs.size (o0 h.objs.size)) (hput : StoresD X.prog X.w X.A put)
    (calm : X.calm = true) (nd : X.N.Nodup) (hi : PI X tg iter wi) (ok : BlkOk X.N X.env.scope scope own)
    (hg : ∀ (s : Shared) (H : Hp) (C : Addr) (cl : List (Str × Addr)) (fp : List Addr), PG (X.blk s H scope (compEnvC scope cl C X.env) fp) tg g)
    (hc : ∀ (s : Shared) (H : Hp) (C : Addr) (cl : List (Str × Addr)) (fp : List Addr), PTs (X.blk s H scope (compEnvC scope cl C X.env) fp) ifs tt)
    (hkey : ∀ (s : Shared) (H : Hp) (C : Addr) (cl : List (Str × Addr)) (fp : List Addr), PE (X.blk s H scope (compEnvC scope cl C X.env) fp) kx tk)
    (hval : ∀ (s : Shared) (H : Hp) (C : Addr) (cl : List (Str × Addr)) (fp : List Addr), PE (X.blk s H scope (compEnvC scope cl C X.env) fp) vx tv)
    (nofold : ∀ x, foldedSetIterable iter X.env x = pure x := by intro _; rfl) :
    PE X (.DictComp kx vx [⟨tg, iter, ifs, 0⟩] scope pos) (tDcG o0 put wi g tt tk tv (own.map (·.2))) := by
  constructor
  intro pins now σ H Q inv wish
  rw [arm_eval_DictComp]
  have cells : ∀ y ∈ scope.names, y.2 = .free → ∃ c, X.env.cells.lookup y.1 = some c := fun y hy e => inv.ok.has _ (ok.free y hy e)
  refine wpAny_comprehension_free (use := none) rfl nofold (closure_ok cells) ok.kind (fun y hy e => (ok.uniq y hy).trans (congrArg some e)) (thn (hi.run pins now σ H _ inv wish) fun src mid got => thn got fun itv mid2 begun => ?_)
  obtain ⟨it, fp, tn, J, Hi, rfl, Ji, turns, stands, feet, rest⟩ := begun
  refine wpAny_newObj_type (newEnv_comp ?_)
  have laid := Ji.laid (a := mid2.heap.objs.size) (o := o0 mid2.heap.objs.size) (t' := mid2.toks) (h' := mid2.heap.push { cls := .type "dict", data := .dict #[] }) (fun b o e => Heap.get?_push_of_some _ e) (Nat.le_refl _) (h0 mid2.heap _ Ji.big)
  obtain ⟨W, ⟨m0, w0⟩, turn⟩ := rest mid2.heap.objs.size (Ji.hok.fresh (Nat.le_refl _))
  have below : ∀ b ∈ fp, b < mid2.heap.objs.size := fun b hb => let ⟨_, e, _⟩ := turns.obj _ _ stands b hb; Heap.lt_size e
  revert laid turn w0
  generalize eD : mid2.heap.objs.size = D
  generalize eS : ({ mid2 with heap := mid2.heap.push { cls := .type "dict", data := .dict #[] } } : Shared) = start
  intro laid turn w0
  have size : start.heap.objs.size = D + 1 := by rw [← eS, ← eD]; exact Heap.size_push ..
  have older : ∀ b o, mid2.heap.get? b = some o → start.heap.get? b = some o := fun b o e => by rw [← eS]; exact Heap.get?_push_of_some _ e
  have feet2 : ∀ b ∈ fp, FpOk X pins (upd Hi D (o0 D)) b ∧ b < start.heap.objs.size := fun b hb => by
    have lt : b < D := eD ▸ below b hb
    exact ⟨⟨(upd_ne (Nat.ne_of_lt lt)).trans (feet b hb).1, (feet b hb).2⟩, by rw [size]; exact Nat.lt_succ_of_lt lt⟩
  have inside := block_start laid ok nd feet2
  show codeAny _ _ (.compStart (.DictComp kx vx [⟨tg, iter, ifs, 0⟩] scope pos) 0 (.ref it) (.ref D) (compEnvC scope (cellsFrom (start.heap.objs.size + 1) scope.names (cloFrom X.env.cells scope.names [])) start.heap.objs.size X.env)) _ { start with heap := pushCells (start.heap.push { cls := .type "dict", data := .dict #[] }) scope.names }
  have gG := hg start (upd Hi D (o0 D)) start.heap.objs.size (cellsFrom (start.heap.objs.size + 1) scope.names (cloFrom X.env.cells scope.names [])) fp
  have gC := hc start (upd Hi D (o0 D)) start.heap.objs.size (cellsFrom (start.heap.objs.size + 1) scope.names (cloFrom X.env.cells scope.names [])) fp
  have gK := hkey start (upd Hi D (o0 D)) start.heap.objs.size (cellsFrom (start.heap.objs.size + 1) scope.names (cloFrom X.env.cells scope.names [])) fp
  have gV := hval start (upd Hi D (o0 D)) start.heap.objs.size (cellsFrom (start.heap.objs.size + 1) scope.names (cloFrom X.env.cells scope.names [])) fp
  have stands1 : tn 0 (pushCells (start.heap.push { cls := .type "dict", data := .dict #[] }) scope.names) := turns.keep _ _ _ stands fun b _ o e => pushCells_keeps _ _ _ _ (Heap.get?_push_of_some _ (older b o e))
  generalize eE : compEnvC scope (cellsFrom (start.heap.objs.size + 1) scope.names (cloFrom X.env.cells scope.names [])) start.heap.objs.size X.env = env1 at inside gG gC gK gV ⊢
  have eL : env1.locals = start.heap.objs.size := by rw [← eE]; rfl
  have clear0 : ∀ b ∈ fp, upd Hi D (o0 D) b = none := fun b hb => (feet2 b hb).1.1
  generalize upd Hi D (o0 D) = Hd at laid inside gG gC gK gV w0 clear0 feet2
  generalize eF : ({ start with heap := pushCells (start.heap.push { cls := .type "dict", data := .dict #[] }) scope.names } : Shared) = first at inside ⊢
  have stands1 : tn 0 first.heap := by rw [← eF]; exact stands1
  have footing : ∀ {τ : L2.St} {H' : Hp} {s' : Shared}, Inv (X.blk start Hd scope env1 fp) [] τ H' s' → (∀ b ∈ fp, H' b = none) → ∀ b ∈ fp, FpOk (X.blk start Hd scope env1 fp) [] H' b := fun {τ H' s'} I' n b hb =>
    ⟨n b hb, (I'.ok.exf b hb).1, I'.ok.exfs b hb, .inl hb, fun x c e => (I'.ok.exf b hb).2 x c e, fun p hp => by cases hp⟩
  refine (fun loop => codeAny_compStart_dict loop (turns.self X.A 0 _ _ _ stands1 loop)) ?_
  refine compLoop_anyD (fun n s' => ∃ i H', Inv (X.blk start Hd scope env1 fp) [] (wipe σ (own.map (·.2))) H' s' ∧ tn i s'.heap ∧ (∀ b ∈ fp, H' b = none) ∧ W i n H') ?_ m0 ⟨0, Hd, inside, stands1, clear0, w0⟩
  rintro n here ⟨i, Hh, Ih, sth, clh, wh⟩
  rcases turn i n Hh wh with ⟨stop, q⟩ | ⟨go, Nx, falls, step⟩
  · refine thnF (turns.done (X.blk start Hd scope env1 fp) rfl rfl rfl calm i [] here _ Hh (fun _ _ => False) Ih (footing Ih clh) sth stop) fun r last ⟨er, Il⟩ => ?_
    subst er
    have back : Inv X pins σ Hh last := laid.call' (ch := fp) Il.os Il.base Il.hok Il.bare fun b hb => let f := (feet2 b hb).1; ⟨f.2.2.2.1, f.2.1, f.2.2.2.2.1, f.2.2.2.2.2⟩
    have noL : Hh start.heap.objs.size = none := eL ▸ Il.free
    obtain ⟨m, hn, _⟩ := Il.loc
    refine ⟨m, eL ▸ hn, fun h'' sb => ?_⟩
    obtain ⟨f0, f1, f2, f3, f4, f5⟩ := laid.fpOk (Nat.le_refl _) noL
    exact ⟨.ref D, Hh, back.turned (t' := last.toks) (fun b o hb e => (sb.2 b hb).trans e) f0 f1 f3 f4 f5, rfl, q⟩
  · refine thnF (turns.item (X.blk start Hd scope env1 fp) rfl rfl rfl calm i [] here _ Hh (fun _ _ => False) Ih (footing Ih clh) sth go) fun r s1 ⟨u, er, h1⟩ => ?_
    subst er
    refine thnF h1 fun _ s2 ⟨x, H2, I2, r2, y2, st2, n2⟩ => ?_
    have I2p := I2.pinned (footing I2 n2) (turns.obj _ _ st2)
    refine thnF (gG.run _ s2 _ H2 x u _ I2p r2 (step x H2 y2)) fun _ s3 ⟨τ, H3, I3, same, q3⟩ => ?_
    have fin : ∀ {s' : Shared} {H' : Hp}, Inv (X.blk start Hd scope env1 fp) ([] ++ pinsAt fp s2.heap) τ H' s' → Nx H' → ∃ m, m < n ∧ ∃ i H', Inv (X.blk start Hd scope env1 fp) [] (wipe σ (own.map (·.2))) H' s' ∧ tn i s'.heap ∧ (∀ b ∈ fp, H' b = none) ∧ W i m H' := by
      intro s' H' I' nx
      obtain ⟨m', less, w'⟩ := falls H' nx
      have held : ∀ b ∈ fp, ∀ o, s2.heap.get? b = some o → s'.heap.get? b = some o ∧ H' b = none := fun b hb o e => by
        have z := I'.pin (b, o) (List.mem_append_right _ (List.mem_append_right _ (mem_pinsAt hb e)))
        exact ⟨z.1, z.2.1⟩
      refine ⟨m', less, i + 1, H', (I'.unpinned (pins := [])).weak (by rw [← same, wipe_length]) (fun j v e => ?_), turns.keep _ _ _ st2 fun b hb o e => (held b hb o e).1, fun b hb => ?_, w'⟩
      · rw [← same] at e
        exact (wipe_some e).1
      · obtain ⟨o, e, _⟩ := turns.obj _ _ st2 b hb
        exact (held b hb o e).2
    refine thnF (gC.run _ s3 τ H3 _ I3 q3) fun b s4 ⟨H4, I4, q4⟩ => ?_
    cases b with
    | false =>
      rw [if_neg Bool.false_ne_true] at q4 ⊢
      exact fin I4 q4
    | true =>
      rw [if_pos rfl] at q4 ⊢
      refine thnF (gK.run _ s4 τ H4 _ I4 q4) fun z s5 ⟨yk, H5, I5, r5, q5⟩ => ?_
      refine thnF (gV.run _ s5 τ H5 _ I5 q5) fun z2 s6 ⟨yv, H6, I6, r6, q6⟩ => ?_
      exact hput (X.blk start Hd scope env1 fp) rfl rfl _ _ _ _ _ _ _ _ _ _ _ _ I6 r5 r6 q6 fun H' s' I' nx => fin I' nx
end
/-- .. where the dict is DkO -/
def putDD (w : World) : StepD := fun D y z H Nx => ∃ b xs k, y = .ref b ∧ H D = some (DkO w D xs) ∧ (∀ x ∈ xs, KeyH H x.1 x.2.1) ∧ KeyH H k b ∧ xs.length < sizeLine ∧ ∀ u, RelV z u → Nx (upd H D (DkO w D (storedH xs k b u)))
theorem stores_DD {P : Program} {w : World} {A : Around} (hu : A.units + 65 < cLine) : StoresD P w A (putDD w) := by
  rintro Y eP eW pins σ H s D y z u r Nx Q E I ry rz ⟨b, xs, k, rfl, hD, hk, kb, hz, nx⟩ fin
  subst eP eW
  cases (show u = Value.ref b from ry)
  obtain ⟨hd, hl, dd⟩ := dkO_of I.hok (.inl hD) hk
  refine wpAny_dictSet_heap (hsz := hl) (show A.units + 8 < cLine by omega) (kb _ _ _ I.hok) dd fun h' dd' sb => ?_
  have hl2 : (storedH xs k b r).length ≤ sizeLine := by
    unfold storedH
    split <;> simp <;> omega
  exact fin _ _ (d_write I (by rw [hD]; exact True.intro) sb (let ⟨q, _, _, hq, _⟩ := dd'; ⟨q, hq⟩) (dkO_new hd hl2 dd')) (nx r rz)
theorem new_DD {P : Program} {w : World} (h : Heap) (H' : Hp) (big : sysModules < h.objs.size) : ObjOk P w H' (h.push { cls := .type "dict", data := .dict #[] }) h.objs.size (DkO w h.objs.size []) :=
  dkO_new (by rw [beq_eq_false_iff_ne]; exact Nat.ne_of_gt big) (by simp) (Heap.DictOfH.new h)
end M3
namespace M3
open PySem PySem.Spec PyProof.Rows L2
/-- turn by turn -/
def dcL (g : GM) (c : TM) (ek ev : EM) (u0 : Sl3) : List D → List D → List D → M (List D × List D)
  | [], ks, us => M.pure (ks, us)
  | d :: ds, ks, us => M.bind (M.of (g d u0)) fun u1 => M.bind (M.quiet (c u1)) fun b =>
    if b = true then M.bind (M.quiet (ek u1)) fun kw => M.bind (M.quiet (ev u1)) fun vw => M.bind (M.of kw.d) fun k => M.bind (M.of vw.d) fun v => M.bind (M.of k.tk) fun x => M.bind (M.chk (ks.length < 1000000)) fun _ =>
      dcL g c ek ev u0 ds (ddPut ks us k x v).1 (ddPut ks us k x v).2
    else dcL g c ek ev u0 ds ks us
/-- {..}: let go -/
def eDc (mi : FM) (g : GM) (c : TM) (ek ev : EM) (own : List Nat) : EM := fun u => M.bind (mi u) fun ds => M.bind (dcL g c ek ev (wipe3 u own) ds [] []) fun q => M.pure (.val (.dd q.1 q.2))
section
variable {P : P3} {pos : Pos}
theorem of_quietE {α β : Type} {m : M α} {f : α → M β} {st : Store} {γ : Type} {R : S3 → β → γ → Prop} {G : G3} {B : Addr → Prop} {E : XK} {s : S3} {Q : γ → Hp → Prop} (h : Post G B R E s Q (M.bind (M.quiet m) f st)) : ∃ a st', m st = .ok a st' ∧ Post G B R E s Q (f a st') := by
  unfold M.bind M.quiet at h
  cases e : m st with
  | ok a st' => rw [e] at h; exact ⟨a, st', rfl, h⟩
  | err c x st' => rw [e] at h; exact h.elim
  | bad => rw [e] at h; exact h.elim
theorem me_dc {kx vx tg iter : Expr} {ifs : List Expr} {scope : Scope} {own : List (Str × Nat)} {mi : FM} {g : GM} {gs : List Nat} {c : TM} {mk mv : EM} (hu : P.X.A.units + 65 < cLine) (hc : P.X.calm = true) (hN : P.X.N.Nodup) (hi : MI P tg iter mi) (ok : BlkOk P.X.N P.X.env.scope scope own)
    (hg : ∀ (s : Shared) (H : Hp) (C : Addr) (cl : List (Str × Addr)) (fp : List Addr), MG (P.blk s H scope C cl fp) tg g gs) (ht : ∀ (s : Shared) (H : Hp) (C : Addr) (cl : List (Str × Addr)) (fp : List Addr), MIfs (P.blk s H scope C cl fp) ifs c)
    (hk : ∀ (s : Shared) (H : Hp) (C : Addr) (cl : List (Str × Addr)) (fp : List Addr), ME (P.blk s H scope C cl fp) kx mk) (hv : ∀ (s : Shared) (H : Hp) (C : Addr) (cl : List (Str × Addr)) (fp : List Addr), ME (P.blk s H scope C cl fp) vx mv)
    (hgs : ∀ i ∈ gs, i ∈ own.map (·.2) := by decide) (hs : ∀ x, foldedSetIterable iter P.X.env x = pure x := by intro _; rfl) :
    ME P (.DictComp kx vx [⟨tg, iter, ifs, 0⟩] scope pos) (eDc mi g c mk mv (own.map (·.2))) := by
  obtain ⟨ti, pi, hti⟩ := hi.out
  refine ME.mk' (pe_lockOn (pe_dcG (own := own) (o0 := fun p => DkO P.X.w p []) (put := putDD P.X.w) (g := tG P.G P.hx g gs) (tt := tT P.G P.hx noW c) (tk := tE P.G P.hx noW mk) (tv := tE P.G P.hx noW mv) (fun h H' big => new_DD h H' big) (stores_DD hu) hc hN pi ok
    (fun s H C cl fp => (hg s H C cl fp).pg) (fun s H C cl fp => (ht s H C cl fp).pts) (fun s H C cl fp => (hk s H C cl fp).pe) (fun s H C cl fp => (hv s H C cl fp).pe) hs)) fun B0 B s st u z Q wd sl h => ?_
  refine hti B0 B s st u z _ wd sl (Post.bind h fun ds st1 s1 J l1 wd1 im h1 => ?_)
  intro p hp
  rw [P.hw]
  obtain ⟨wd2, l2⟩ := own_wd (ho := DkO P.G.w p []) wd1 hp
  have nb : ¬ B p := wd1.freshB hp
  -- at the end
  have fin : ∀ (s' : S3) (st' : Store) (ks us : List D) (xs : DkX), Le B s1 s' → Wd P.G (plus B p) st' s' → s'.H p = some (DkO P.G.w p xs) → DkR P.G.R s'.F s'.io ks us xs → Post P.G B (RepW P.G P.hx B) (fun c d H => P.wx c d z H) s' Q (M.pure (.val (.dd ks us)) st') →
      ∃ d u, V.ref p = .ref d ∧ s'.H d = some u ∧ Mut (some u) ∧ ∀ od, Q (.ref p) (upd s'.H d (.frz od u)) := by
    intro s' st' ks us xs l' w' hq dr pf
    refine ⟨p, _, rfl, hq, True.intro, fun od => ?_⟩
    have hF := (w'.hid p (.inr rfl)).1
    have dr' := dr.mono (F' := upd s'.F p (.frz od (DkO P.G.w p xs))) (same_upd hF) (IoLe.refl _)
    obtain ⟨vs, hv, hr⟩ := dr'.vals
    have wd1 : Wd P.G B st' ⟨s'.io, upd s'.F p (.frz od (DkO P.G.w p xs)), upd s'.H p (.frz od (DkO P.G.w p xs))⟩ := freeze_wd (own_put w' nb _) nb upd_same
    exact pf ⟨s'.io, upd s'.F p (.frz od (DkO P.G.w p xs)), upd s'.H p (.frz od (DkO P.G.w p xs))⟩ (.ref p) ⟨IoLe.refl _, same_upd hF, fun a ba => upd_ne fun y => nb (y ▸ ba)⟩ wd1 (show Rep _ _ _ (.dd ks us) (.ref p) from .dd upd_same dr'.keys dr'.tk hv hr)
  refine ⟨fun i n H' => n = ds.length - i ∧ i ≤ ds.length ∧ ∃ (s' : S3) (st' : Store) (ks us : List D) (xs : DkX), s'.H = H' ∧ Le B s1 s' ∧ Wd P.G (plus B p) st' s' ∧ s'.H p = some (DkO P.G.w p xs) ∧ DkR P.G.R s'.F s'.io ks us xs ∧
      Post P.G B (RepW P.G P.hx B) (fun c d H => P.wx c d z H) s' Q (M.bind (dcL g c mk mv (wipe3 u (own.map (·.2))) (ds.drop i) ks us) (fun q => M.pure (.val (.dd q.1 q.2))) st'),
    ⟨_, rfl, Nat.zero_le _, _, st1, [], [], [], rfl, l2, wd2, upd_same, dkR_nil, Post.mono l2 h1⟩, ?_⟩
  rintro i n H' ⟨rfl, hi, s', st', ks, us, xs, rfl, l', w', hq, dr, pf⟩
  rcases Nat.lt_or_ge i ds.length with hlt | hge
  · right
    refine ⟨im.go s' l'.io l'.fr w'.sub i hlt, fun H2 => i + 1 ≤ ds.length ∧ ∃ (s' : S3) (st' : Store) (ks us : List D) (xs : DkX), s'.H = H2 ∧ Le B s1 s' ∧ Wd P.G (plus B p) st' s' ∧ s'.H p = some (DkO P.G.w p xs) ∧ DkR P.G.R s'.F s'.io ks us xs ∧
      Post P.G B (RepW P.G P.hx B) (fun c d H => P.wx c d z H) s' Q (M.bind (dcL g c mk mv (wipe3 u (own.map (·.2))) (ds.drop (i + 1)) ks us) (fun q => M.pure (.val (.dd q.1 q.2))) st'), fun H2 q => ⟨_, by omega, rfl, q.1, q.2⟩, fun x H2 y => ?_⟩
    obtain ⟨rfl, d, ed, rd⟩ := im.yld s' l'.io l'.fr w'.sub i x _ hlt y
    rw [List.drop_eq_getElem_cons hlt] at pf
    have ed' : ds[i] = d := by rw [List.getElem?_eq_getElem hlt] at ed; cases ed; rfl
    rw [ed'] at pf
    unfold dcL at pf
    have assoc : ∀ {α β γ : Type} (m : M α) (f : α → M β) (f2 : β → M γ) (st : Store), M.bind (M.bind m f) f2 st = M.bind m (fun a => M.bind (f a) f2) st := fun m f f2 st => by
      unfold M.bind
      cases m st <;> rfl
    rw [assoc] at pf
    obtain ⟨u1, eg, pf⟩ := Post.of_of pf
    have slw : Slo P.G P.hx B0 (plus B p) s' (wipe3 u (own.map (·.2))) (L2.wipe z (own.map (·.2))) := ((sl.mono' (l1.trans l')).more fun a b => .inl b).wipe _
    refine ⟨B0, plus B p, s', st', wipe3 u (own.map (·.2)), d, u1, rfl, w', slw, rd, eg, fun z2 sl2 b2 => ⟨?_, ?_⟩⟩
    · rw [b2.wipe hgs, lc_ok.wipe_wipe]
    · rw [assoc] at pf
      obtain ⟨k, st3, ek, pf⟩ := of_quietE pf
      refine ⟨B0, plus B p, s', st', u1, rfl, w', sl2, ?_⟩
      rw [ek]
      intro s3 k' l3 w3 rk
      subst rk
      have hq3 : s3.H p = some (DkO P.G.w p xs) := (l3.hid p (.inr rfl)).trans hq
      have dr3 := dr.mono l3.fr l3.io
      have pf := Post.mono (plus_le l3) pf
      cases k with
      | false => exact ⟨hlt, s3, st3, ks, us, xs, rfl, l'.trans (plus_le l3), w3, hq3, dr3, pf⟩
      | true =>
        rw [if_pos rfl] at pf ⊢
        rw [assoc] at pf
        obtain ⟨kw, st4, ekw, pf⟩ := of_quietE pf
        refine ⟨B0, plus B p, s3, st3, u1, rfl, w3, sl2.mono' l3, ?_⟩
        rw [ekw]
        intro s4 v4 l4 w4 r4
        rw [assoc] at pf
        obtain ⟨vw, st5, evw, pf⟩ := of_quietE pf
        refine ⟨B0, plus B p, s4, st4, u1, rfl, w4, (sl2.mono' l3).mono' l4, ?_⟩
        rw [evw]
        intro s5 v5 l5 w5 r5
        rw [assoc] at pf
        obtain ⟨k, hk, pf1⟩ := Post.of_of pf
        clear pf
        rw [assoc] at pf1
        obtain ⟨v, hv, pf2⟩ := Post.of_of pf1
        clear pf1
        rw [assoc] at pf2
        obtain ⟨x, hx, pf3⟩ := Post.of_of pf2
        clear pf2
        rw [assoc] at pf3
        obtain ⟨hz, pf9⟩ := Post.of_chk pf3
        clear pf3
        have ekd := d_val hk
        have evd := d_val hv
        subst ekd evd
        have dr5 := (dr3.mono l4.fr l4.io).mono l5.fr l5.io
        have hq5 : s5.H p = some (DkO P.G.w p xs) := (l5.hid p (.inr rfl)).trans ((l4.hid p (.inr rfl)).trans hq3)
        have r4' : Rep P.G.R s5.F s5.io k v4 := Rep.mono l5.fr l5.io r4
        obtain ⟨b, eb, kb⟩ := tk_ok (H := s5.H) w5.sub r4' hx
        subst eb
        refine ⟨b, xs, x, rfl, hq5, dr5.keyH w5.sub, kb, by rw [← (dd_len dr5).1]; exact szl hz, fun uv ruv => ?_⟩
        have w6 := own_put w5 nb (DkO P.G.w p (storedH xs x b uv))
        have l6 : Le B s5 ⟨s5.io, s5.F, upd s5.H p (DkO P.G.w p (storedH xs x b uv))⟩ := ⟨IoLe.refl _, Same.refl _, fun a ba => upd_ne fun y => nb (y ▸ ba)⟩
        exact ⟨hlt, _, st5, _, _, _, rfl, (((l'.trans (plus_le l3)).trans (plus_le l4)).trans (plus_le l5)).trans l6, w6, upd_same, (dd_put hx r4' ruv r5 dr5), Post.mono (((plus_le l4).trans (plus_le l5)).trans l6) pf9⟩
  · left
    have e : ds.drop i = [] := List.drop_eq_nil_of_le hge
    rw [e] at pf
    exact ⟨im.stop s' l'.io l'.fr w'.sub i hge, fin s' st' ks us xs l' w' hq dr pf⟩
end
end M3


namespace M3
open PySem PySem.Spec PyProof.Rows L2

/-! ### keywords -/
structure MK (P : P3) (kws : List Keyword) (m : AM) : Prop where
  pk : PK P.X kws (tA P.G P.hx P.wx m)
section
variable {P : P3} {pos p kpos : Pos} {x : Str} {e : Expr} {es : List Expr} {kws : List Keyword} {m : EM} {ma mk : AM} {nm : Option Str}
theorem mk_nil : MK P [] aNil := ⟨⟨fun pos pins s0 z H Q I ⟨B0, B, s, st, u, e, wd, sl, p⟩ => by subst e; exact pk_nil.run pos pins s0 z _ Q I (p.pure wd .nil)⟩⟩
theorem mk_cons (he : ME P e m) (hs : MK P kws mk) : MK P (⟨nm, e, kpos⟩ :: kws) (aCons m mk) := by
  obtain ⟨t, pt, ht⟩ := he.out
  refine ⟨⟨fun pos pins s0 z H Q I ⟨B0, B, s, st, u, eH, wd, sl, h⟩ => ?_⟩⟩
  subst eH
  refine (pk_cons pt hs.pk).run pos pins s0 z _ Q I (ht B0 B s st u z _ wd sl (Post.bind h fun w st1 s1 v l1 wd1 r1 h1 => ?_))
  exact ⟨B0, B, s1, st1, u, rfl, wd1, sl.mono l1, Post.bind h1 fun ws st2 s2 vs l2 wd2 r2 h2 => h2.pure wd2 (.cons (r1.mono l2) r2)⟩
/-- a def called with keywords: arr puts the values in the parameters' order -/
structure CalK (Pg : Program) (w : World) (K : PySem.W.Frag) (mg : Str → Option Value) (base : Heap) (G : G3) (k : Nat) (x : Str) (n : Nat) (ks : List Str) (arr : List D → List D → List D) (N : Nat) (mf : List D → M D) : Prop where
  ex : ∃ f fd ps g gV, mg x = some (.ref f) ∧ PySem.W.keepIn K (.ref f) = true ∧ KBn K fd ps n ks g gV ∧ (∀ F io vs zs ds es, RepL G.R F io ds vs → RepL G.R F io es zs → ds.length = n → es.length = ks.length → RepL G.R F io (arr ds es) (gV vs zs)) ∧
    FnOk Pg w K mg base (L2.CX Pg w) k f fd ps (spM G N mf)
/-- .. a class -/
structure MkOkK (Pg : Program) (w : World) (K : PySem.W.Frag) (mg : Str → Option Value) (base : Heap) (G : G3) (k : Nat) (x : Str) (c : String) (n : Nat) (ks : List Str) (arr : List D → List D → List D) (N : Nat) (mf : List D → M D) : Prop where
  ex : ∃ (C f : Addr) (fd : FuncData) (ps : List Str) (g : List Value → List Value → List Value) (gV hV : List V → List V → List V), mg x = some (.ref C) ∧ G.cls c = some C ∧ Mk K C f ∧ KBn K fd ps (n + 1) ks g gV ∧
    (∀ v vs zs, gV (v :: vs) zs = v :: hV vs zs) ∧ (∀ F io vs zs ds es, RepL G.R F io ds vs → RepL G.R F io es zs → ds.length = n → es.length = ks.length → RepL G.R F io (arr ds es) (hV vs zs)) ∧ (∀ ds es, ds.length = n → es.length = ks.length → (arr ds es).length = N) ∧
    FnOk Pg w K mg base (L2.CX Pg w) k f fd ps (spM G (N + 1) mf)
def eCallK (n m N : Nat) (arr : List D → List D → List D) (mf : List D → M D) (ma mk : AM) : EM := fun u => M.bind (ma u) fun ws => M.bind (mk u) fun zs => M.bind (M.of (asDs ws)) fun ds => M.bind (M.of (asDs zs)) fun es => M.bind (M.chk (ds.length = n ∧ es.length = m ∧ (arr ds es).length = N)) fun _ =>
  M.bind (mf (arr ds es)) fun d => M.pure (.val d)
def eMkK (c : String) (n m : Nat) (arr : List D → List D → List D) (mf : List D → M D) (ma mk : AM) : EM := fun u => M.bind (ma u) fun ws => M.bind (mk u) fun zs => M.bind (M.of (asDs ws)) fun ds => M.bind (M.of (asDs zs)) fun es => M.bind (M.chk (ds.length = n ∧ es.length = m)) fun _ => mMake c mf (arr ds es)
theorem pe_callKw {X : Cx} {CX : CXT} {k n : Nat} {f : Addr} {fd : FuncData} {ps ks : List Str} {sp : Sp} {E : L2.St → XK} {t tk : TA} {g : List Value → List Value → List Value} {gV : List V → List V → List V}
    (F : FnOk X.prog X.w X.K X.mg X.base CX k f fd ps sp) (hr : Room k X.A) (hg : Gl X x) (hm : X.mg x = some (.ref f)) (hk : PySem.W.keepIn X.K (.ref f) = true) (hb : KBn X.K fd ps n ks g gV) (hx : ∀ σ, PassesAt CX X σ (E σ)) (ha : PA X (e :: es) t) (hkw : PK X kws tk)
    (hall : (backToKw pos (keywordEach kws X.env)).all (·.1.isSome) = true) (hks : (backToKw pos (keywordEach kws X.env)).filterMap (·.1) = ks) (hdb : (x == ("__debug__" : Str)) = false) (he : starEach (e :: es) X.env = (false, eval e X.env) :: starEach es X.env)
    (hpl : ((backTo pos (starEach (e :: es) X.env)).any (·.1) || (backToKw pos (keywordEach kws X.env)).any (·.1.isNone)) = false) :
    PE X (.Call (.Name x p) (e :: es) kws pos) (fun σ H Q => t σ H fun vs H1 => tk σ H1 fun zs H2 => vs.length = n ∧ zs.length = ks.length ∧ sp (gV vs zs) H2 Q (E σ)) :=
  ⟨fun pins now σ H Q inv wish => wpAny_Call_Name_kw (ld_glob inv hg hm (PySem.W.callWith_KW (h₀ := X.base) inv.ok.mod.kin hk hall (thn (ha.run pos pins now σ H _ inv wish) fun us mid ⟨vs, H1, J, r, q⟩ =>
    thn (hkw.run pos pins mid σ H1 _ J q) fun ws last ⟨zs, H2, L, rz, l1, l2, q2⟩ => ⟨L.kIn, by
      rw [hks]
      refine wpAny_call (codeAny_mono (F.run X.A X.stack last H2 ⟨us, ks.zip ws⟩ (g us ws) (gV vs zs) Q (E σ) hr L.env0 (hb.to last us ws L.kIn (r.length.symm.trans l1) (rz.length.symm.trans l2)) (hb.rel r rz) q2) fun res s' got => ?_)
      match res, got with
      | .error er, got => exact hx σ pins H2 last er s' L got
      | .ok (.ret u), got => exact L.after got
      | .ok .next, got => exact got.elim
      | .ok .brk, got => exact got.elim
      | .ok .cont, got => exact got.elim⟩) hpl he) hdb)⟩
theorem me_callK {k j n m N : Nat} {ks : List Str} {arr : List D → List D → List D} {mf : List D → M D} (c : CalK P.X.prog P.X.w P.X.K P.X.mg P.X.base P.G k x n ks arr N mf) (hr : Room j P.X.A) (hk : k ≤ j) (tk : Takes P.X P.wx) (hg : Gl P.X x) (ha : MA P (e :: es) ma) (hkw : MK P kws mk) (hlk : ks.length = m := by rfl)
    (hall : (backToKw pos (keywordEach kws P.X.env)).all (·.1.isSome) = true := by rfl) (hks : (backToKw pos (keywordEach kws P.X.env)).filterMap (·.1) = ks := by rfl) (hdb : (x == ("__debug__" : Str)) = false := by decide) (he : starEach (e :: es) P.X.env = (false, eval e P.X.env) :: starEach es P.X.env := by rfl)
    (hpl : ((backTo pos (starEach (e :: es) P.X.env)).any (·.1) || (backToKw pos (keywordEach kws P.X.env)).any (·.1.isNone)) = false := by rfl) : ME P (.Call (.Name x p) (e :: es) kws pos) (eCallK n m N arr mf ma mk) := by
  obtain ⟨f, fd, ps, g, gV, hm, hkp, hb, rel, F⟩ := c.ex
  obtain ⟨t, pt, ht⟩ := ha.out
  subst hlk
  refine ME.mk' (pe_callKw F (hr.mono hk) hg hm hkp hb (fun σ => passAt tk σ) pt hkw.pk hall hks hdb he hpl) fun B0 B s st u z Q wd sl h => ht B0 B s st u z _ wd sl (Post.bind h fun ws st1 s1 vs l1 wd1 r1 h1 => ?_)
  refine ⟨B0, B, s1, st1, u, rfl, wd1, sl.mono l1, Post.bind h1 fun zs st2 s2 vz l2 wd2 r2 h2 => ?_⟩
  obtain ⟨ds, e, h2⟩ := Post.of_of h2
  obtain ⟨es', e', h2⟩ := Post.of_of h2
  obtain ⟨⟨hl, hl2, hN⟩, h2⟩ := Post.of_chk h2
  have rl := (asDs_ok r1 e).mono l2.fr l2.io
  have rz := asDs_ok r2 e'
  exact ⟨by rw [← rl.length]; exact hl, by rw [← rz.length]; exact hl2, call_post wd2 (rel _ _ _ _ _ _ rl rz hl hl2) hN h2⟩
theorem pe_mkKw {X : Cx} {CX : CXT} {k n : Nat} {f C : Addr} {fd : FuncData} {ps ks : List Str} {sp : Sp} {E : L2.St → XK} {t tk : TA} {g : List Value → List Value → List Value} {gV : List V → List V → List V}
    (M : Mk X.K C f) (F : FnOk X.prog X.w X.K X.mg X.base CX k f fd ps sp) (hr : Room (k + 1) X.A) (hg : Gl X x) (hm : X.mg x = some (.ref C)) (hb : KBn X.K fd ps (n + 1) ks g gV) (hx : ∀ σ, PassesAt CX X σ (E σ)) (ha : PA X (e :: es) t) (hkw : PK X kws tk)
    (hall : (backToKw pos (keywordEach kws X.env)).all (·.1.isSome) = true) (hks : (backToKw pos (keywordEach kws X.env)).filterMap (·.1) = ks) (hdb : (x == ("__debug__" : Str)) = false) (he : starEach (e :: es) X.env = (false, eval e X.env) :: starEach es X.env)
    (hpl : ((backTo pos (starEach (e :: es) X.env)).any (·.1) || (backToKw pos (keywordEach kws X.env)).any (·.1.isNone)) = false) :
    PE X (.Call (.Name x p) (e :: es) kws pos) (fun σ H Q => t σ H fun vs H1 => tk σ H1 fun zs H2 => vs.length = n ∧ zs.length = ks.length ∧ ∀ x dx, H2 x = none → H2 dx = none → dx ≠ x → sp (gV (.ref x :: vs) zs) (upd (upd H2 dx (.own x)) x (.ins C dx [])) (fun v H3 => v = .non ∧ Q (.ref x) H3) (E σ)) :=
  ⟨fun pins now σ H Q inv wish => wpAny_Call_Name_kw (ld_glob inv hg hm (PySem.W.callWith_KW (h₀ := X.base) inv.ok.mod.kin M.kp hall (thn (ha.run pos pins now σ H _ inv wish) fun us mid ⟨vs, H1, J, r, q⟩ =>
    thn (hkw.run pos pins mid σ H1 _ J q) fun ws last ⟨zs, H2, L, rz, l1, l2, q2⟩ => ⟨L.kIn, by
      rw [hks]
      have free := L.hok.fresh (Nat.le_refl last.heap.objs.size)
      have free1 := L.hok.fresh (Nat.le_succ last.heap.objs.size)
      have J2 := Inv.made (C := C) L
      have rself : Vals (V.ref (last.heap.objs.size + 1) :: vs) (Value.ref (last.heap.objs.size + 1) :: us) := .cons rfl r
      have len : (Value.ref (last.heap.objs.size + 1) :: us).length = n + 1 := by rw [List.length_cons, ← r.length, l1]
      refine wpAny_call (make_map (f := f) L.kIn M.makes M.init (beq_iff_eq.mp M.fn) (codeAny_mono (F.run _ X.stack _ _ ⟨Value.ref (last.heap.objs.size + 1) :: us, ks.zip ws⟩ (g (Value.ref (last.heap.objs.size + 1) :: us) ws) _ _ (E σ) (hr.make C us (ks.zip ws))
        (J2.env0.make C us (ks.zip ws)) (hb.to _ _ ws J2.kIn len (rz.length.symm.trans l2)) (hb.rel rself rz) (q2 _ _ free1 free (Nat.ne_of_lt (Nat.lt_succ_self _)))) fun res s' got => ?_))
      match res, got with
      | .error er, got => exact hx σ pins _ _ er s' J2 got
      | .ok (.ret u), got =>
        obtain ⟨v, H', J', rv, ev, q⟩ := J2.after got
        subst ev
        exact ⟨rv, V.ref (last.heap.objs.size + 1), H', J', rfl, q⟩
      | .ok .next, got => exact got.elim
      | .ok .brk, got => exact got.elim
      | .ok .cont, got => exact got.elim⟩) hpl he) hdb)⟩
theorem me_mkK {k j n m N : Nat} {c : String} {ks : List Str} {arr : List D → List D → List D} {mf : List D → M D} (h : MkOkK P.X.prog P.X.w P.X.K P.X.mg P.X.base P.G k x c n ks arr N mf) (hr : Room j P.X.A) (hk : k + 1 ≤ j) (tk : Takes P.X P.wx) (hg : Gl P.X x) (ha : MA P (e :: es) ma) (hkw : MK P kws mk) (hlk : ks.length = m := by rfl)
    (hall : (backToKw pos (keywordEach kws P.X.env)).all (·.1.isSome) = true := by rfl) (hks : (backToKw pos (keywordEach kws P.X.env)).filterMap (·.1) = ks := by rfl) (hdb : (x == ("__debug__" : Str)) = false := by decide) (he : starEach (e :: es) P.X.env = (false, eval e P.X.env) :: starEach es P.X.env := by rfl)
    (hpl : ((backTo pos (starEach (e :: es) P.X.env)).any (·.1) || (backToKw pos (keywordEach kws P.X.env)).any (·.1.isNone)) = false := by rfl) : ME P (.Call (.Name x p) (e :: es) kws pos) (eMkK c n m arr mf ma mk) := by
  obtain ⟨C, f, fd, ps, g, gV, hV, hm, hc, M, hb, hgv, rel, hN, F⟩ := h.ex
  obtain ⟨t, pt, ht⟩ := ha.out
  subst hlk
  refine ME.mk' (pe_mkKw M F (hr.mono hk) hg hm hb (fun σ => passAt tk σ) pt hkw.pk hall hks hdb he hpl) fun B0 B s st u z Q wd sl h => ht B0 B s st u z _ wd sl (Post.bind h fun ws st1 s1 vs l1 wd1 r1 h1 => ?_)
  refine ⟨B0, B, s1, st1, u, rfl, wd1, sl.mono l1, Post.bind h1 fun zs st2 s2 vz l2 wd2 r2 h2 => ?_⟩
  obtain ⟨ds, e, h2⟩ := Post.of_of h2
  obtain ⟨es', e', h2⟩ := Post.of_of h2
  obtain ⟨⟨hl, hl2⟩, h2⟩ := Post.of_chk h2
  have rl := (asDs_ok r1 e).mono l2.fr l2.io
  have rz := asDs_ok r2 e'
  refine ⟨by rw [← rl.length]; exact hl, by rw [← rz.length]; exact hl2, fun x dx hx hdx ne => ?_⟩
  rw [hgv]
  exact make_post (n := N) hc wd2 (rel _ _ _ _ _ _ rl rz hl hl2) (hN _ _ hl hl2) h2 hx hdx ne
/-! ### stores -/
/-- x op= e -/
def sAug (i : Nat) (f : W → W → Option W) (me : EM) : SM := fun u st => match u[i]? with
  | some (some w) => match M.bind (me u) (fun y => M.of (f w y)) st with
    | .ok (.val d) st' => .nx (u.set i (some (.val d))) st'
    | .err c x st' => .err c x u st'
    | _ => .bad
  | _ => .bad
/-- an in-place operation by values -/
def IpM (P : P3) (op : Operator) (f : W → W → Option W) : Prop := ∃ r, PIp P.X op r ∧ ∀ (B : Addr → Prop) (s : S3) (w y z : W) (x v : V) (Q : VK), RepW P.G P.hx B s w x → RepW P.G P.hx B s y v → f w y = some z → (∀ u, RepW P.G P.hx B s z u → Q u s.H) → r x v s.H Q
def addI : W → W → Option W
  | .val (.int i), .val (.int j) => some (.val (.int (i + j)))
  | _, _ => none
def subI : W → W → Option W
  | .val (.int i), .val (.int j) => some (.val (.int (i - j)))
  | _, _ => none
theorem im_add : IpM P .Add addI := ⟨_, ip_add, fun B s w y z x v Q r1 r2 e k => by
  unfold addI at e
  split at e
  · cases e; cases r1; cases r2; exact ⟨_, _, rfl, rfl, k _ .int⟩
  · cases e⟩
theorem im_sub : IpM P .Sub subI := ⟨_, ip_sub, fun B s w y z x v Q r1 r2 e k => by
  unfold subI at e
  split at e
  · cases e; cases r1; cases r2; exact ⟨_, _, rfl, rfl, k _ .int⟩
  · cases e⟩
theorem ms_aug (i : Nat) {op : Operator} {f : W → W → Option W} {me : EM} {pos' : Pos} (hN : P.X.N.Nodup) (ho : IpM P op f) (he : ME P e me) (hi : P.X.N[i]? = some x := by rfl) (hx : Loc P.X.env.scope x := by first | exact Or.inl rfl | exact Or.inr rfl)
    (hf : P.X.fn x = true ∨ P.X.env.scope.names.lookup x = some .local := by first | exact .inl rfl | exact .inr rfl | assumption) : MS P (.AugAssign (.Name x pos') op e pos) (sAug i f me) := by
  obtain ⟨t, pt, ht⟩ := he.out
  obtain ⟨r, hr, hq⟩ := ho
  refine MS.mk' (ps_aug hN hi hx pt hr hf) fun B0 B s o u z D b0 wd sl h => ?_
  unfold sAug at h
  cases eu : u[i]? with
  | none => rw [eu] at h; exact h.elim
  | some ow =>
    rw [eu] at h
    cases ow with
    | none => exact h.elim
    | some w =>
      dsimp only at h
      obtain ⟨v, ez, _⟩ := sl.get eu
      refine ⟨v, ez, ht B0 B s o u z _ wd sl ?_⟩
      cases em : me u o with
      | bad => rw [show M.bind (me u) (fun y => M.of (f w y)) o = .bad from by unfold M.bind; rw [em]] at h; exact h
      | err c x st' => rw [show M.bind (me u) (fun y => M.of (f w y)) o = .err c x st' from by unfold M.bind; rw [em]] at h; exact fun s' cv dd l w q => h B s' z cv dd b0 (l.less b0) w (sl.mono' l) q
      | ok y st' =>
        rw [show M.bind (me u) (fun y => M.of (f w y)) o = M.of (f w y) st' from by unfold M.bind; rw [em]] at h
        cases ef : f w y with
        | none => rw [ef] at h; exact h.elim
        | some zz =>
          rw [ef] at h
          cases zz with
          | val d =>
            intro s' v2 l w2 r2
            obtain ⟨v', ez', rv⟩ := (sl.mono' l).get eu
            rw [ez] at ez'
            cases ez'
            exact hq B s' w y (.val d) v v2 _ rv r2 ef fun uu ru => h B s' _ b0 (l.less b0) w2 ((sl.mono' l).set ru i)
          | _ => exact h.elim
theorem ddOf_ref {j : Nat} {st st' : Store} {q : List D × List D} (e : ddOf (.val (.ref j)) st = .ok q st') : st[j]? = some (.ddi q.1 q.2) := by
  unfold ddOf at e
  dsimp only at e
  cases ej : st[j]? with
  | none => rw [ej] at e; cases e
  | some o =>
    rw [ej] at e
    cases o with
    | ddi ks us => cases e; rfl
    | _ => cases e
/-- o[k] = e, o a dict of the store -/
def sSetDS (mo mi me : EM) : SM := fun u st => match M.bind (me u) (fun w => M.bind (M.of w.d) fun d => M.bind (mo u) fun ow => M.bind (mi u) fun k => M.bind (M.of k.d) fun kd => M.bind (M.of kd.tk) fun x => M.bind (ddOf ow) fun q => M.bind (M.chk (q.1.length < 1000000)) fun _ => fun st => match ow with
    | .val (.ref j) => .ok () (st.set j (.ddi (ddPut q.1 q.2 kd x d).1 (ddPut q.1 q.2 kd x d).2))
    | _ => .bad) st with
  | .ok _ st' => .nx u st'
  | .err c x st' => .err c x u st'
  | .bad => .bad
theorem ms_setDS {o ei : Expr} {ipos : Pos} {mo mi me : EM} (hu : P.X.A.units + 65 < cLine) (ho : ME P o mo) (hi : ME P ei mi) (he : ME P e me) (ha : SubParts P.X o ei ipos := by intro _; rfl)
    (hs : swapsWithSole [.Subscript o ei ipos] e pos.line P.X.env = pure false := by rfl) (hw : swappedStores [.Subscript o ei ipos] e P.X.env = pure none := by rfl)
    (h1 : (assignEach [.Subscript o ei ipos] P.X.env).map (·.2) = [assign (.Subscript o ei ipos) P.X.env] := by rfl) :
    MS P (.Assign [.Subscript o ei ipos] e pos) (sSetDS mo mi me) := by
  obtain ⟨t, pt, ht⟩ := he.out
  obtain ⟨to, po, hto⟩ := ho.out
  obtain ⟨ti, pi, hti⟩ := hi.out
  refine MS.mk' (ps_asg pt (pg_sub po pi (set_DD hu) ha) hs hw h1) fun B0 B s o u z D b0 wd sl h => ht B0 B s o u z _ wd sl ?_
  unfold sSetDS at h
  generalize hm : M.bind (me u) (fun w => M.bind (M.of w.d) fun d => M.bind (mo u) fun ow => M.bind (mi u) fun k => M.bind (M.of k.d) fun kd => M.bind (M.of kd.tk) fun x => M.bind (ddOf ow) fun q => M.bind (M.chk (q.1.length < 1000000)) fun _ => fun st => match ow with
    | .val (.ref j) => Res.ok () (st.set j (.ddi (ddPut q.1 q.2 kd x d).1 (ddPut q.1 q.2 kd x d).2))
    | _ => .bad) = mm at h
  have hp : Post P.G B (fun _ (_ : Unit) (_ : Unit) => True) (fun c d H => P.wx c d z H) s (fun (_ : Unit) H' => D.nx z H') (mm o) := by
    cases e : mm o with
    | ok _ st' => rw [e] at h; exact fun s' _ l w _ => h B s' z b0 (l.less b0) w (sl.mono' l)
    | err c x st' => rw [e] at h; exact fun s' cv dd l w q => h B s' z cv dd b0 (l.less b0) w (sl.mono' l) q
    | bad => rw [e] at h; exact h
  rw [← hm] at hp
  refine Post.bind hp fun w st1 s1 v l1 wd1 r1 g1 => ?_
  obtain ⟨d, ed, g2⟩ := Post.of_of g1
  refine hto B0 B s1 st1 u z _ wd1 (sl.mono' l1) (Post.bind g2 fun ow st2 s2 v2 l2 wd2 r2 g3 => ?_)
  refine hti B0 B s2 st2 u z _ wd2 (sl.mono' (l1.trans l2)) (Post.bind g3 fun k st3 s3 v3 l3 wd3 r3 g4 => ?_)
  obtain ⟨kd, ek, g5⟩ := Post.of_of g4
  obtain ⟨x, ex, g6⟩ := Post.of_of g5
  obtain ⟨ks, us, c, xs, eo, ev, hr, dr, g7⟩ := Post.of_dd wd3 (r2.mono l3) g6
  obtain ⟨hz, g8⟩ := Post.of_chk g7
  clear g1 g2 g3 g4 g5 g6 g7
  have e1 := d_val ed
  have e2 := d_val ek
  subst e1 e2
  subst ev
  cases ow with
  | val od =>
    cases od with
    | ref j =>
      have ej := ddOf_ref eo
      have eio : s3.io j = some c := by
        have r2' := r2.mono l3
        cases r2' with
        | ref q => exact q
      obtain ⟨a, e1, nb, hF, xs', o1, o2⟩ := wd3.obj _ _ ej rfl
      rw [eio] at e1
      cases e1
      obtain ⟨b, eb, kb⟩ := tk_ok (H := s3.H) wd3.sub r3 ex
      subst eb
      refine ⟨c, b, xs', x, rfl, rfl, by rw [P.hw]; exact o1, o2.keyH wd3.sub, kb, by rw [← (dd_len o2).1]; exact szl hz, fun uv ruv => ?_⟩
      have rd : Rep P.G.R s3.F s3.io d v := Rep.mono (l2.fr.trans l3.fr) (l2.io.trans l3.io) r1
      obtain ⟨w4, l4⟩ := wd3.setO (o' := .ddi (ddPut ks us kd x d).1 (ddPut ks us kd x d).2) (ho := DkO P.G.w c (storedH xs' x b uv)) eio nb hF ⟨_, upd_same, dd_put ex r3 ruv rd o2⟩ ej
      rw [P.hw]
      exact g8 _ () l4 w4 trivial
    | _ => exact g8.elim
  | _ => exact g8.elim
/-- {}: an empty dict that never changes, its keys tuples -/
theorem me_dd0 : ME P (.Dict [] [] pos) (eC (.dd [] [])) := by
  refine ME.mk' (pe_lockOn pe_newDD) fun B0 B s st u z Q wd sl h => fun p hp => ?_
  refine ⟨p, _, rfl, upd_same, True.intro, fun od => ?_⟩
  rw [upd2, P.hw]
  obtain ⟨w2, l2⟩ := wd.froz hp (.frz od (DkO P.G.w p []))
  exact h ⟨s.io, upd s.F p (.frz od (DkO P.G.w p [])), upd s.H p (.frz od (DkO P.G.w p []))⟩ (.ref p) l2 w2 (show Rep _ _ _ (.dd [] []) (.ref p) from .dd upd_same .nil rfl .nil .nil)
end
/-! ### isinstance(d, T), d a dict with tuple keys -/
section
variable {P : P3}
def isi2F : List W → Option W
  | [.val (.dd _ _), .val (.ty T)] => (kitB "dict" T).map fun b => .val (.bl b)
  | ws => isiF ws
theorem cm_isi2 : CallM P (.builtin "isinstance") isi2F := by
  obtain ⟨r, hr, hq⟩ := cm_isi (P := P)
  refine ⟨fun vs H Q => r vs H Q ∨ ∃ p T b xs, vs = [.ref p, .ty T] ∧ Rd H p (DkO P.X.w p xs) ∧ kitB "dict" T = some b ∧ Q (.bl b) H, ?_, fun B s st ws w vs Q wd rs e k => ?_⟩
  · rintro pins s σ H vs us Q I rv (h | ⟨p, T, b, xs, rfl, hp, e, q⟩)
    · exact hr pins s σ H vs us Q I rv h
    · obtain ⟨u1, u2, rfl, r1, r2⟩ := vals2 rv
      cases (show u1 = Value.ref p from r1)
      cases (show u2 = Value.type T from r2)
      obtain ⟨⟨h1, h2, h3, o, es, ep, g1, g2, g3, g4⟩, _, _⟩ := hp.ok I.hok
      exact PySem.W.kia_one PySem.W.kitx_dict I.kIn ⟨o, g1, g2.1⟩ (kit_ty e) (fun z => nomatch z) fun tk => ⟨.bl b, H, I.tok tk, rfl, q⟩
  · unfold isi2F at e
    split at e
    · rename_i ks us T
      cases rs with
      | cons r1 rs =>
        cases rs with
        | cons r2 rs =>
          cases rs
          cases r2
          cases h3 : kitB "dict" T with
          | none => rw [h3] at e; cases e
          | some b =>
            rw [h3] at e
            cases e
            cases r1 with
            | dd hF hk ht hv hrr => exact .inr ⟨_, _, b, _, rfl, by rw [P.hw]; exact .inr ⟨_, wd.sub _ _ hF⟩, h3, k s _ (Le.refl _) wd .bl⟩
    · exact .inl (hq B s st ws w vs Q wd rs e k)
end
end M3


/-! what the printed walks lean on -/
namespace M3
open PySem PySem.Spec PyProof.Rows L2
theorem two {α : Type} {p : α → Prop} {a b : α} (h : p a) (h' : p b) : ∀ c ∈ [a, b], p c := fun c hc => by
  rcases List.mem_cons.mp hc with rfl | hc
  · exact h
  · exact List.mem_singleton.mp hc ▸ h'
theorem nil_all {α : Type} {p : α → Prop} : ∀ c ∈ ([] : List α), p c := fun _ h => by cases h
theorem cons_all {α : Type} {p : α → Prop} {a : α} {l : List α} (h : p a) (t : ∀ c ∈ l, p c) : ∀ c ∈ a :: l, p c := fun c hc => by
  rcases List.mem_cons.mp hc with rfl | hc
  · exact h
  · exact t c hc
theorem exm_ty {K : PySem.W.Frag} {cls : Value} {T : String} {b : Bool} (h : PySem.W.subIn K cls (.type T) = some b) (h1 : (PySem.fastBuiltinMro T).any (fun l => l.contains (.type "BaseException")) = true) (h2 : PySem.W.kitMeta T = true) : PySem.W.exmOne K cls (.type T) = some b := by
  unfold PySem.W.exmOne PySem.W.kitCls
  have e : (PySem.W.subIn K (.type T) (.type "BaseException") == some true) = true := by
    unfold PySem.W.subIn
    cases q : PySem.fastBuiltinMro T with
    | none => rw [q] at h1; cases h1
    | some l => rw [q] at h1; simp only [Option.any_some] at h1; dsimp only; rw [q, Option.map_some, h1]; rfl
  rw [if_pos e]
  dsimp only
  rw [if_pos h2]
  exact h
theorem kit_ref {K : PySem.W.Frag} {C D : Addr} {b : Bool} (ne : (Value.ref C == Value.ref D) = false) (hd : PySem.W.hasDictIn K D = true) (ht : PySem.W.typeIn K (.ref D) = some (.type "type")) (h : PySem.W.subIn K (.ref C) (.ref D) = some b) : PySem.W.kitOne K (.ref C) (.ref D) = some b := by
  unfold PySem.W.kitOne PySem.W.kitCls
  rw [if_neg (by intro z; rw [ne] at z; cases z)]
  dsimp only
  have hc : (PySem.W.clsIn K D).isSome = true := by
    unfold PySem.W.hasDictIn at hd
    cases q : PySem.W.clsIn K D with
    | none => rw [q] at hd; cases hd
    | some d => rfl
  rw [if_pos (by rw [hc, ht]; rfl)]
  exact h
theorem exm_ref' {K : PySem.W.Frag} {C : Addr} {cls : Value} {b : Bool} (h1 : PySem.W.subIn K (.ref C) (.type "BaseException") = some true) (hd : PySem.W.hasDictIn K C = true) (ht : PySem.W.typeIn K (.ref C) = some (.type "type")) (h4 : PySem.W.subIn K cls (.ref C) = some b) : PySem.W.exmOne K cls (.ref C) = some b :=
  PySem.W.exm_ref h1 hd ht h4
theorem kit_same {K : PySem.W.Frag} {C : Addr} : PySem.W.kitOne K (.ref C) (.ref C) = some true := by
  unfold PySem.W.kitOne
  rw [if_pos (beq_self_eq_true _)]
theorem kit_ty' {K : PySem.W.Frag} {C : Addr} {T : String} {b : Bool} (h2 : PySem.W.kitMeta T = true) (h : PySem.W.subIn K (.ref C) (.type T) = some b) : PySem.W.kitOne K (.ref C) (.type T) = some b := by
  unfold PySem.W.kitOne PySem.W.kitCls
  rw [if_neg (by intro z; cases z)]
  dsimp only
  rw [if_pos h2]
  exact h
/-- an exception's classes, by a table -/
def subT (tab : List (String × Bool)) : String → Option Bool := fun c => tab.lookup c
theorem subT_ok {tab : List (String × Bool)} {p : String × Bool → Prop} (h : ∀ q ∈ tab, p q) : ∀ c b, subT tab c = some b → p (c, b) := fun c b e => h _ (lookup_mem e)
theorem isE_of {K : PySem.W.Frag} {G : G3} {yv : Value} {tab : List (String × Bool)} (h : ∀ q ∈ tab, ∃ C, G.cls q.1 = some C ∧ ExcC K C ∧ PySem.W.kitOne K (.ref C) yv = some q.2) : IsE K G yv (subT tab) :=
  ⟨fun c b e => h (c, b) (lookup_mem e)⟩
/-- a class as a value -/
def vOf (G : G3) (c : String) : V := match G.cls c with
  | some C => .ref C
  | none => .ty c
theorem vOf_rel (G : G3) (c : String) : RelV (vOf G c) (cvOf G c) := by
  unfold vOf cvOf
  cases G.cls c <;> rfl
theorem vOf_eq (G : G3) (c : String) : ∀ u, RelV (vOf G c) u → u = cvOf G c := by
  unfold vOf cvOf
  cases G.cls c <;> exact fun u h => h
section
variable {P : Program} {w : World} {K : PySem.W.Frag} {mg : Str → Option Value} {base : Heap}
theorem fn_okD {G : G3} (hK : K = G.K) (hw : w = G.w) {x qual : Str} {st : Stmt} {dvs : List V} {kws : List (Str × V)} {f : Addr} {fd : FuncData} {N ps : List Str} {k : Nat} {mb : SM} (F : FunD K x qual (defArgs st) (defBody st) (defScope st) dvs kws f fd) (S : FnScope N ps (defScope st))
    (h : ∀ (cdv : Value) (A : Around) (outer : List Env) (s : Shared) (H : Hp) (E : XK), Room k (A.deeper (envOfC qual (defScope st) s.heap.objs.size f cdv)) →
      MSs ⟨cxOf (L2.CX P w) P w K mg base N qual (defScope st) f cdv A outer s H E, G, none, fun cls d _ H => E cls d H, hK, hw⟩ (defBody st) mb) :
    FnOk P w K mg base (L2.CX P w) (k + 1) f fd ps (spM G ps.length (mfn N.length mb)) := by
  refine F.ok S (fun vs H Q E h => h.1) fun cdv A outer s0 H vs Q E hr ⟨hl, B, s, o, ds, e, wd, rl, hp⟩ => ?_
  subst e
  obtain ⟨t, pt, ht⟩ := (h cdv A outer s0 s.H E hr).out
  refine ⟨t, pt, ht B B s o _ _ _ (fun _ b => b) wd (slo_start (N := N) rl) ?_⟩
  unfold mfn at hp
  cases em : mb (ds.map (fun d => some (.val d)) ++ List.replicate (N.length - ds.length) none) o with
  | nx u' st' => rw [em] at hp; exact fun B' s' z' b l w sl => hp s' .non l (w.less b) .non
  | rt w st' =>
    rw [em] at hp
    cases w with
    | val d => exact fun B' s' v b l w r => hp s' v l (w.less b) r
    | bor xs =>
      rintro B' s' v b l w ⟨p, vs', rfl, bp, nb, hq, r⟩
      have w' : Wd G (plus B p) st' s' := w.less fun a q => q.elim (b a) fun z => z ▸ bp
      exact hp ⟨s'.io, upd s'.F p (.lst vs'), s'.H⟩ (.ref p) (l.trans (freeze_le w')) (freeze_wd w' nb hq) (.lst upd_same (r.mono (freeze_le w').fr (freeze_le w').io))
    | _ => exact hp.elim
  | bk u' st' => rw [em] at hp; exact hp.elim
  | ct u' st' => rw [em] at hp; exact hp.elim
  | err c x u' st' => rw [em] at hp; exact fun B' s' z' cv dd b l w sl q => hp s' cv dd l (w.less b) q
  | bad => rw [em] at hp; exact hp.elim
end
end M3


/-! sum(ls, []), ls a list of lists -/
namespace PySem
open Sem (wp)
/-- the list object at a: what stands in it -/
def LsAt (h : Heap) (a : Addr) (xs : List Value) : Prop := ∃ n, h.get? a = some { cls := .type "list", data := .seq xs.toArray n }
theorem LsAt.is {h : Heap} {a : Addr} {xs : List Value} (l : LsAt h a xs) : h.IsList a xs.toArray := by obtain ⟨n, e⟩ := l; exact ⟨_, e, rfl, n, rfl⟩
theorem LsAt.lt {h : Heap} {a : Addr} {xs : List Value} (l : LsAt h a xs) : a < h.objs.size := by obtain ⟨n, e⟩ := l; exact Heap.lt_size e
/-- what the loop leaves alone -/
def Kept2 (I S : Addr) (h h' : Heap) : Prop := ∀ b o, b ≠ I → b ≠ S → h.get? b = some o → h'.get? b = some o
section
variable {prog : Program} {w : World} {A : Around} {R : Result → Shared → Prop} {I S ax : Addr} {refs : List Addr} {segs : List (List Value)}
theorem sum_lists_loop (hh : A.handled = none) (hIS : I ≠ S) (haI : ax ≠ I) (haS : ax ≠ S) (base : Nat) (hlen : refs.length = segs.length) (hz : (segs.map (·.length)).sum ≤ 1000000) :
    ∀ (k i : Nat) (s : Shared) (T : Addr) (c : Nat) (acc : List Value), segs.length - i = k → i ≤ segs.length → base ≤ s.heap.objs.size → s.heap.IsListIter I ax i → s.heap.IsList ax (refs.map Value.ref).toArray →
      (∀ (j : Nat) (b : Addr) (xs : List Value), refs[j]? = some b → segs[j]? = some xs → b ≠ I ∧ b ≠ S ∧ LsAt s.heap b xs) →
      s.heap.get? S = some { cls := .type "list", data := .seq #[.ref T] c } → T ≠ I → T ≠ S → LsAt s.heap T acc → acc.length ≤ ((segs.take i).map (·.length)).sum → (i = 0 ∨ base ≤ T) →
      (∀ (s' : Shared) (T' : Addr), Kept2 I S s.heap s'.heap → s' = { s with heap := s'.heap, toks := s'.toks } → LsAt s'.heap T' (acc ++ (segs.drop i).flatten) → (T' = T ∨ base ≤ T') → (i < segs.length → base ≤ T') → R (.ok (.ret (.ref T'))) s') →
      codeAny (model prog w) A (.builtin "sum.loop" ⟨[.ref I, .ref S, rawInt 2, rawInt 0], []⟩) R s := by
  intro k
  induction k with
  | zero =>
    intro i s T c acc hk hi hb hit hl hs hS hTI hTS hT ha hbT hR
    have hin : i = segs.length := by omega
    apply codeAny_builtin F.entry_sum_loop; rw [Around.under_plainId F.plain_sum_loop]; change wpAny _ A.in1 (seqItems? (.ref S) >>= _) _ _ s
    apply wpAny_bind; apply wpAny_seqItems hS rfl; change wpAny _ A.in1 (tryCatch (pyNext (.ref I)) _ >>= _) _ _ s
    refine wpAny_bind (wpAny_tryCatch (wpAny_pyNext_list_end (A := A.in1) hh hit hl (by simp [hlen, hin]) fun h' eb => ?_))
    refine wpAny_pure (hR { s with heap := h' } T (fun b o b1 b2 e => eb b o b1 e) rfl ?_ (.inl rfl) (by omega))
    obtain ⟨n, e⟩ := hT
    rw [List.drop_eq_nil_of_le (by omega)]
    exact ⟨n, by simpa using eb T _ hTI e⟩
  | succ k ih =>
    intro i s T c acc hk hi hb hit hl hs hS hTI hTS hT ha hbT hR
    have hlt : i < segs.length := by omega
    have hlr : i < refs.length := by omega
    have hx : (refs.map Value.ref).toArray[i]? = some (.ref refs[i]) := by simp [hlr]
    obtain ⟨rI, rS, hr⟩ := hs i refs[i] segs[i] (List.getElem?_eq_getElem hlr) (List.getElem?_eq_getElem hlt)
    have hsum : ((segs.take (i + 1)).map (·.length)).sum = ((segs.take i).map (·.length)).sum + segs[i].length := by
      rw [List.take_succ_eq_append_getElem hlt, List.map_append, List.sum_append, List.map_singleton, List.sum_singleton]
    have hle : ((segs.take (i + 1)).map (·.length)).sum ≤ (segs.map (·.length)).sum := by
      conv => rhs; rw [← List.take_append_drop (i + 1) segs]
      rw [List.map_append, List.sum_append]; omega
    apply codeAny_builtin F.entry_sum_loop; rw [Around.under_plainId F.plain_sum_loop]; change wpAny _ A.in1 (seqItems? (.ref S) >>= _) _ _ s
    apply wpAny_bind; apply wpAny_seqItems hS rfl; change wpAny _ A.in1 (tryCatch (pyNext (.ref I)) _ >>= _) _ _ s
    refine wpAny_bind (wpAny_tryCatch (wpAny_pyNext_list_item (A := A.in1) hit hl hx fun h' hit' sb => ?_))
    show wpAny _ A.in1 ((holding [Value.ref refs[i]] (binaryOp .Add (.ref T) (.ref refs[i]))).attempt >>= _) _ _ _
    have kp : ∀ b o, b ≠ I → s.heap.get? b = some o → h'.get? b = some o := fun b o hb e => (sb.2 b hb).trans e
    obtain ⟨nT, eT⟩ := hT
    obtain ⟨nr, er⟩ := hr
    refine wpAny_bind (wpAny_attempt (wpAny_holding (PySem.P.add_list (s := { s with heap := h' }) (kp _ _ hTI eT) (kp _ _ rI er) ?_ (by simp only [List.size_toArray]; rw [sizeLine_eq]; omega))))
    have ht' : h'.objs.size = s.heap.objs.size := sb.1
    have sI : S ≠ I := fun z => hIS z.symm
    have hS1 : (h'.push { cls := .type "list", data := .seq (acc.toArray ++ segs[i].toArray) }).get? S = some { cls := .type "list", data := .seq #[.ref T] c } := Heap.get?_push_of_some _ (kp _ _ sI hS)
    show wpAny _ A.in1 (updateSeq S (fun _ => #[.ref h'.objs.size]) >>= _) _ _ _
    refine wpAny_bind (wpAny_updateSeq hS1 rfl ?_)
    have hS2 := Heap.get?_update_self (Obj.mapSeq fun _ => #[Value.ref h'.objs.size]) hS1 rfl
    apply wpAny_bind; apply wpAny_letGo
    have up : ∀ {h : Heap} {f : Obj → Obj} {b : Addr} {o : Obj}, b ≠ S → h.get? b = some o → (h.update S f).get? b = some o := fun {h f b o} hb e => (Heap.get?_update_other _ _ (Ne.symm hb)).trans e
    have k1 : ∀ b o, b ≠ S → h'.get? b = some o → (((h'.push { cls := .type "list", data := .seq (acc.toArray ++ segs[i].toArray) }).update S (Obj.mapSeq fun _ => #[Value.ref h'.objs.size])).update S (Obj.mapSeq fun _ => #[Value.ref h'.objs.size])).get? b = some o :=
      fun b o hb e => up hb (up hb (Heap.get?_push_of_some _ e))
    have nS : h'.objs.size ≠ S := Nat.ne_of_gt (Heap.lt_size (kp _ _ sI hS))
    have nI : h'.objs.size ≠ I := by
      obtain ⟨o, e, _⟩ := id hit'
      exact Nat.ne_of_gt (Heap.lt_size e)
    have kN := up (f := Obj.mapSeq fun _ => #[Value.ref h'.objs.size]) nS (up (f := Obj.mapSeq fun _ => #[Value.ref h'.objs.size]) nS (Heap.get?_push_size h' (o := { cls := .type "list", data := .seq (acc.toArray ++ segs[i].toArray) }) rfl))
    have sz := Heap.lt_size kN
    refine wpAny_bind (wpAny_updateSeq hS2 rfl (wpAny_pure ⟨plainId_quiet F.plain_sum_loop _, ih (i + 1) _ h'.objs.size _ (acc ++ segs[i]) (by omega) hlt (Nat.le_trans (by rw [ht']; exact hb) (Nat.le_of_lt sz)) (hit'.at fun o e => k1 _ _ hIS e) (hl.at fun o e => k1 _ _ haS (kp _ _ haI e))
      (fun j b xs e1 e2 => ?_) (Heap.get?_update_self _ hS2 rfl) nI nS ⟨_, by rw [← List.append_toArray]; exact kN⟩ (by rw [List.length_append, hsum]; omega) (.inr (by rw [ht']; exact hb)) fun s' T' q1 q2 q3 q4 q5 => ?_⟩))
    · obtain ⟨z1, z2, n, z3⟩ := hs j b xs e1 e2
      exact ⟨z1, z2, n, k1 _ _ z2 (kp _ _ z1 z3)⟩
    · refine hR s' T' (fun b o b1 b2 e => q1 b o b1 b2 (k1 _ _ b2 (kp _ _ b1 e))) q2 ?_ (.inr ?_) fun _ => ?_
      · rw [List.drop_eq_getElem_cons hlt, List.flatten_cons, ← List.append_assoc]; exact q3
      · rcases q4 with z | z
        · rw [z, ht']; exact hb
        · exact z
      · rcases q4 with z | z
        · rw [z, ht']; exact hb
        · exact z
end
section
variable {prog : Program} {w : World} {A : Around} {E : Value → Shared → Prop} {s : Shared} {ax st : Addr} {refs : List Addr} {segs : List (List Value)} {acc : List Value} {Q : Value → Shared → Prop}
theorem args_sum2 (a b : Value) : argsOk "sum" ⟨[a, b], []⟩ := by unfold argsOk; kernel_rfl
theorem call_sum_lists (hh : A.handled = none) (hl : s.heap.IsList ax (refs.map Value.ref).toArray) (hlen : refs.length = segs.length) (hz : (segs.map (·.length)).sum ≤ 1000000)
    (hs : ∀ (j : Nat) (b : Addr) (xs : List Value), refs[j]? = some b → segs[j]? = some xs → LsAt s.heap b xs) (hst : LsAt s.heap st [])
    (h : ∀ (s' : Shared) (T : Addr), (∀ b o, s.heap.get? b = some o → s'.heap.get? b = some o) → s' = { s with heap := s'.heap, toks := s'.toks } → LsAt s'.heap T segs.flatten → (T = st ∧ segs = [] ∨ s.heap.objs.size ≤ T) → Q (.ref T) s') :
    wpAny (model prog w) A (call (.builtin "sum") [.ref ax, .ref st]) Q E s := by
  refine call_function_tree F.kind_sum F.plain_sum F.entry_sum (args_sum2 _ _) ?_
  unfold Builtin.«sum»
  simp only [List.length_nil, List.length_cons, show ¬ (0 + 1 + 1 + 0 > 2) by decide, if_false]
  refine wpAny_bind (wpAny_of_eq (show Builtin.Builtins.bindParams "sum" ["start"] 0 ⟨[.ref st], []⟩ = pure [some (.ref st)] from rfl) ?_)
  refine wpAny_bind (L2.iter_any hl fun s₂ e2 hit hne => ?_)
  apply wpAny_bind; apply wpAny_pure
  have hst2 : LsAt s₂.heap st [] := by
    obtain ⟨n, e⟩ := hst
    exact ⟨n, by rw [e2]; exact Heap.get?_push_of_some _ e⟩
  have ty : s₂.TypeIs (.ref st) "list" := by
    obtain ⟨n, e⟩ := hst2
    exact ⟨_, e, rfl⟩
  simp only [List.forIn_nil, List.forIn_cons]
  refine wpAny_bind (wpAny_bind (wpAny_bind (wpAny_isInstance (T := "list") (b := false) ty F.sub_list_str ?_)))
  rw [if_neg (Bool.false_ne_true ·)]
  refine wpAny_pure (wpAny_bind (wpAny_bind (wpAny_isInstance (T := "list") (b := false) ty F.sub_list_bytes ?_)))
  rw [if_neg (Bool.false_ne_true ·)]
  refine wpAny_pure (wpAny_bind (wpAny_bind (wpAny_isInstance (T := "list") (b := false) ty F.sub_list_bytearray ?_)))
  rw [if_neg (Bool.false_ne_true ·)]
  apply wpAny_pure; apply wpAny_pure; refine wpAny_bind <| wpAny_newObj_type ?_
  have e2' : s₂.heap = s.heap.push { cls := .type "list_iterator", data := .fields #[.ref ax, .int 0 0] } := by rw [e2]
  have z2 : s₂.heap.objs.size = s.heap.objs.size + 1 := by rw [e2', Heap.size_push]
  have k2 : ∀ {b : Addr} {o : Obj}, s.heap.get? b = some o → s₂.heap.get? b = some o := fun {b o} e => by rw [e2']; exact Heap.get?_push_of_some _ e
  have hax : ax < s.heap.objs.size := by
    obtain ⟨o, e, _⟩ := hl
    exact Heap.lt_size e
  have lt2 : ∀ {b : Addr}, b < s.heap.objs.size → b ≠ s₂.heap.objs.size := fun {b} hb => Nat.ne_of_lt (by rw [z2]; exact Nat.lt_succ_of_lt hb)
  refine wpAny_pure ⟨plainId_quiet F.plain_sum_loop _, sum_lists_loop (A := A) (I := s.heap.objs.size) (S := s₂.heap.objs.size) hh (Nat.ne_of_lt (by rw [z2]; exact Nat.lt_succ_self _)) hne (lt2 hax) s.heap.objs.size hlen hz segs.length 0 _ st 0 [] rfl (Nat.zero_le _)
    ?_ (hit.1.at fun o e => Heap.get?_push_of_some _ e) (hit.2.at fun o e => Heap.get?_push_of_some _ e) (fun j b xs e1 e3 => ?_) (Heap.get?_push_size _ rfl) (Nat.ne_of_lt hst.lt) (lt2 hst.lt) ?_ (Nat.zero_le _) (.inl rfl) fun s' T' q1 q2 q3 q4 q5 => ?_⟩
  · show s.heap.objs.size ≤ (s₂.heap.push _).objs.size
    rw [Heap.size_push, z2]
    exact Nat.le_trans (Nat.le_succ _) (Nat.le_succ _)
  · have lb := hs j b xs e1 e3
    obtain ⟨n, e⟩ := lb
    exact ⟨Nat.ne_of_lt (Heap.lt_size e), lt2 (Heap.lt_size e), n, Heap.get?_push_of_some _ (k2 e)⟩
  · obtain ⟨n, e⟩ := hst2
    exact ⟨n, Heap.get?_push_of_some _ e⟩
  · refine h s' T' (fun b o e => q1 b o (Nat.ne_of_lt (Heap.lt_size e)) (lt2 (Heap.lt_size e)) (Heap.get?_push_of_some _ (k2 e))) ?_ (by simpa using q3) ?_
    · rw [q2, e2]
    · rcases q4 with z | z
      · cases hsg : segs with
        | nil => exact .inl ⟨z, rfl⟩
        | cons a l => exact .inr (q5 (by rw [hsg]; exact Nat.succ_pos _))
      · exact .inr z
end
end PySem

namespace M3
open PySem PySem.Spec PyProof.Rows L2
section
variable {X : Cx} {s : Shared} {H : Hp} {σ : L2.St} {pins : List (Addr × Obj)}
theorem vals_refs : ∀ (bs : List Addr) {its : List Value}, Vals (bs.map V.ref) its → its = bs.map Value.ref
  | [], _, r => by cases r; rfl
  | b :: bs, _, r => by
    rw [List.map_cons] at r
    cases r with
    | cons r t => cases r; rw [vals_refs bs t]; rfl
theorem segs_of (I : Inv X pins σ H s) : ∀ (bs : List Addr) (zs : List (List V)), bs.length = zs.length → (∀ (j : Nat) (b : Addr) (z : List V), bs[j]? = some b → zs[j]? = some z → H b = some (.lst z)) →
    ∃ segs : List (List Value), bs.length = segs.length ∧ (∀ (j : Nat) (b : Addr) (xs : List Value), bs[j]? = some b → segs[j]? = some xs → LsAt s.heap b xs) ∧ Vals zs.flatten segs.flatten ∧ (segs.map (·.length)).sum = (zs.map (·.length)).sum
  | [], [], _, _ => ⟨[], rfl, fun j b xs e => by simp at e, .nil, rfl⟩
  | b :: bs, z :: zs, hl, h => by
    obtain ⟨segs, e1, e2, e3, e4⟩ := segs_of I bs zs (by simpa using hl) fun j b z q1 q2 => h (j + 1) b z (by simpa using q1) (by simpa using q2)
    obtain ⟨_, its, n, r, hl2, e⟩ := I.lstM (h 0 b z rfl rfl)
    refine ⟨its :: segs, by simp [e1], fun j b' xs q1 q2 => ?_, ?_, by simp [e4, hl2]⟩
    · cases j with
      | zero => simp at q1 q2; subst q1 q2; exact ⟨n, e⟩
      | succ j => exact e2 j b' xs (by simpa using q1) (by simpa using q2)
    · rw [List.flatten_cons, List.flatten_cons]
      exact r.append e3
def rSumL (K : PySem.W.Frag) : List V → Hp → VK → Prop := fun xs H Q => ∃ (a st : Addr) (bs : List Addr) (zs : List (List V)), xs = [.ref a, .ref st] ∧ SqL K H a (bs.map V.ref) ∧ bs.length = zs.length ∧ (∀ (j : Nat) (b : Addr) (z : List V), bs[j]? = some b → zs[j]? = some z → H b = some (.lst z)) ∧
  H st = some (.lst []) ∧ (zs.map (·.length)).sum ≤ 1000000 ∧ (zs = [] → Q (.ref st) H) ∧ (∀ p, H p = none → Q (.ref p) (upd H p (.lst zs.flatten)))
theorem call_sumL (hc : X.calm = true) : CallR X (.builtin "sum") (rSumL X.K) := by
  rintro pins s σ H _ us Q I r ⟨a, sa, bs, zs, rfl, hq, hl, hb, hst, hz, q0, q1⟩
  cases r with
  | cons r1 r =>
    cases r with
    | cons r2 r =>
      cases r
      cases r1
      cases r2
      obtain ⟨its, rv, pl, _⟩ := I.list hq
      obtain ⟨segs, e1, e2, e3, e4⟩ := segs_of I bs zs hl hb
      obtain ⟨_, its0, n0, r0, hl0, e0⟩ := I.lstM hst
      cases r0
      have hi : its = bs.map Value.ref := vals_refs bs rv
      have isl : s.heap.IsList a (bs.map Value.ref).toArray := by rw [← hi]; exact pl.isList
      refine call_sum_lists (I.ok.hd hc) isl e1 (by rw [e4]; exact hz) e2 ⟨n0, e0⟩ fun s' T k es lt hT => ?_
      obtain ⟨m, eT⟩ := lt
      rw [es]
      rcases hT with ⟨z, hsg⟩ | hT
      · subst z
        refine ⟨V.ref _, H, I.kept k, rfl, q0 ?_⟩
        cases zs with
        | nil => rfl
        | cons z zs => rw [hsg] at e1; rw [e1] at hl; cases hl
      · refine ⟨.ref T, _, I.laid (o := .lst zs.flatten) k hT ⟨?_, segs.flatten, m, e3, eT⟩, rfl, q1 T (I.hok.fresh hT)⟩
        rw [List.length_flatten]
        exact szL hz
end
/-- lists of a list -/
def D.lists : List D → Option (List (List D))
  | [] => some []
  | .lst xs :: ds => (D.lists ds).map (xs :: ·)
  | _ :: _ => none
theorem lists_ok {K : KW} {F : Hp} {io : Io} : ∀ {ds : List D} {vs : List V} {xss : List (List D)}, RepL K F io ds vs → D.lists ds = some xss →
    ∃ (bs : List Addr) (zs : List (List V)), vs = bs.map V.ref ∧ bs.length = zs.length ∧ (∀ (j : Nat) (b : Addr) (z : List V), bs[j]? = some b → zs[j]? = some z → F b = some (.lst z)) ∧ RepL K F io xss.flatten zs.flatten ∧ (zs.map (·.length)).sum = xss.flatten.length ∧ xss.length = zs.length
  | [], _, _, .nil, e => by
    unfold D.lists at e
    cases e
    exact ⟨[], [], rfl, rfl, fun j b z q => by simp at q, .nil, rfl, rfl⟩
  | d :: ds, _, xss, .cons r t, e => by
    cases d with
    | lst xs =>
      unfold D.lists at e
      cases h : D.lists ds with
      | none => rw [h] at e; cases e
      | some yss =>
        rw [h] at e
        cases e
        obtain ⟨bs, zs, h1, h2, h3, h4, h5, h6⟩ := lists_ok t h
        cases r with
        | @lst _ vs p hp rl =>
          refine ⟨p :: bs, vs :: zs, by rw [h1]; rfl, by simp [h2], fun j b z q1 q2 => ?_, ?_, ?_, by simp [h6]⟩
          · cases j with
            | zero => simp at q1 q2; subst q1 q2; exact hp
            | succ j => exact h3 j b z (by simpa using q1) (by simpa using q2)
          · rw [List.flatten_cons, List.flatten_cons]; exact rl.append h4
          · rw [List.flatten_cons, List.length_append, List.map_cons, List.sum_cons, h5, rl.length]
    | _ => unfold D.lists at e; cases e
def sumLF : List W → Option W
  | [.val (.lst ds), .val (.lst [])] => (D.lists ds).bind fun xss => if xss.flatten.length ≤ 1000000 then some (.val (.lst xss.flatten)) else none
  | _ => none
theorem cm_sumL {P : P3} (hc : P.X.calm = true) : CallM P (.builtin "sum") sumLF := by
  refine ⟨_, call_sumL hc, fun B s st ws w vs Q wd r e k => ?_⟩
  unfold sumLF at e
  split at e
  · rename_i ds
    cases h : D.lists ds with
    | none => rw [h] at e; cases e
    | some xss =>
      rw [h, Option.bind_some] at e
      split at e
      · rename_i hz
        cases e
        cases r with
        | cons r1 r =>
          cases r with
          | cons r2 r =>
            cases r
            cases r1 with
            | lst h1 rl1 =>
              cases r2 with
              | lst h2 rl2 =>
                cases rl2
                obtain ⟨bs, zs, rfl, e2, e3, e4, e5, e6⟩ := lists_ok rl1 h
                refine ⟨_, _, bs, zs, rfl, .inl (.inl (wd.sub _ _ h1)), e2, fun j b z q1 q2 => wd.sub _ _ (e3 j b z q1 q2), wd.sub _ _ h2, by rw [e5]; exact hz, fun hzs => ?_, fun p hp => ?_⟩
                · have : xss = [] := by
                    cases xss with
                    | nil => rfl
                    | cons a l => rw [hzs] at e6; cases e6
                  subst this
                  exact k s _ (Le.refl _) wd (.lst h2 .nil)
                · obtain ⟨wd2, l2⟩ := wd.froz hp (.lst zs.flatten)
                  exact k _ _ l2 wd2 (.lst upd_same (e4.mono l2.fr l2.io))
      · cases e
  · cases e
end M3


/-! len(set(xs)), xs a list of texts -/
namespace PySem
open Sem (wp)
/-- how many of the texts are new behind acc -/
def newTexts : List Str → List Str → Nat
  | _, [] => 0
  | acc, x :: xs => (if x ∈ acc then 0 else 1) + newTexts (acc ++ [x]) xs
section
variable {prog : Program} {w : World} {A : Around} {R : Result → Shared → Prop} {I S ax : Addr} {vs : Array Value}
theorem texts_fill (hh : A.handled = none) (hIS : I ≠ S) (haI : ax ≠ I) (haS : ax ≠ S) : ∀ (rest acc : List Str) (s : Shared) (n : Nat), acc.length + rest.length = vs.size → vs.size ≤ 1000 →
    (∀ (j : Nat) (x : Str), (acc ++ rest)[j]? = some x → ∃ t, vs[j]? = some (.str x t)) → s.heap.IsListIter I ax acc.length → s.heap.IsList ax vs → s.heap.SetOf (strKind prog w) S (fun k => acc.any (· == k)) n → n ≤ acc.length →
    (∀ s' : Shared, Kept2 I S s.heap s'.heap → s' = { s with heap := s'.heap, toks := s'.toks } → s'.heap.SetOf (strKind prog w) S (fun k => (acc ++ rest).any (· == k)) (n + newTexts acc rest) → R (.ok (.ret .none)) s') →
    codeAny (model prog w) A (.builtin "set.update.loop" ⟨[.ref S, .ref I], []⟩) R s := by
  intro rest
  induction rest with
  | nil =>
    intro acc s n hl hz hv hit hls hS hn hR
    have sI : S ≠ I := fun z => hIS z.symm
    apply codeAny_builtin PyProof.Rows.F.entry_set_update_loop; rw [Around.under_plainId PyProof.Rows.F.plain_set_update_loop]; change wpAny _ A.in1 (pyNext (.ref I) >>= _) _ _ s
    refine wpAny_bind (wpAny_pyNext_list_end (A := A.in1) hh hit hls (by simp at hl; simp [hl]) fun h' eb => ?_)
    refine wpAny_pure (hR { s with heap := h' } (fun b o b1 _ e => eb b o b1 e) rfl ?_)
    obtain ⟨o, es, ep, t, ho, more⟩ := hS
    rw [List.append_nil]
    exact ⟨o, es, ep, t, eb S o sI ho, more⟩
  | cons x rest ih =>
    intro acc s n hl hz hv hit hls hS hn hR
    have sI : S ≠ I := fun z => hIS z.symm
    obtain ⟨t, hx⟩ := hv acc.length x (by simp)
    apply codeAny_builtin PyProof.Rows.F.entry_set_update_loop; rw [Around.under_plainId PyProof.Rows.F.plain_set_update_loop]; change wpAny _ A.in1 (pyNext (.ref I) >>= _) _ _ s
    refine wpAny_bind (wpAny_pyNext_list_item (A := A.in1) hit hls hx fun h' hit' sb => ?_)
    have hS1 : h'.SetOf (strKind prog w) S (fun k => acc.any (· == k)) n := by
      obtain ⟨o, es, ep, tb, ho, more⟩ := hS
      exact ⟨o, es, ep, tb, (sb.2 S sI).trans ho, more⟩
    change wpAny _ A.in1 (holding [Value.str x t] (setAdd S (.str x t)) >>= _) _ _ _
    apply wpAny_bind; apply wpAny_holding; unfold setAdd; apply wpAny_holding; apply wpAny_bind
    refine (strKind prog w).pyHash (k := x) (strKind_is _ _ _ _) ?_
    refine wpAny_setAddHashed_of (knd := strKind prog w) (strKind_is _ _ _ _) rfl hS1 (by unfold scanBound; simp at hl; omega) fun h2 sb2 hS2 => ?_
    have old : ∀ b o, b ≠ S → h'.get? b = some o → h2.get? b = some o := fun b o hb e => (sb2.2 b hb).trans e
    refine wpAny_pure ⟨plainId_quiet PyProof.Rows.F.plain_set_update_loop _, ih (acc ++ [x]) _ _ (by simp at hl ⊢; omega) hz (by simpa using hv) (by rw [List.length_append]; exact hit'.at fun o e => old _ _ hIS e) (hls.at fun o e => old _ _ haS ((sb.2 _ haI).trans e))
      (PyProof.Rows.SetOf_congr hS2 (fun k => ?_) rfl) (by simp; split <;> omega) fun s' q1 q2 q3 => hR s' (fun b o b1 b2 e => q1 b o b1 b2 (old b o b2 ((sb.2 b b1).trans e))) q2 ?_⟩
    · by_cases z : k = x
      · subst z; simp
      · have z' : (x == k) = false := by simpa using fun e : x = k => z e.symm
        simp [z, z']
    · have e : ∀ c : Nat, (if (acc.any fun y => y == x) = true then n else n + 1) + c = n + ((if x ∈ acc then 0 else 1) + c) := fun c => by
        by_cases z : x ∈ acc
        · rw [if_pos (List.any_eq_true.mpr ⟨x, z, by simp⟩), if_pos z]; omega
        · rw [if_neg (fun q => by obtain ⟨y, hy, e⟩ := List.any_eq_true.mp q; exact z (beq_iff_eq.mp e ▸ hy)), if_neg z]; omega
      rw [newTexts, ← e]
      simpa using q3
end
section
variable {prog : Program} {w : World} {A : Around} {E : Value → Shared → Prop} {s : Shared}
/-- the set just laid -/
abbrev newSetObj (led : Bool) : Obj := { cls := .type "set", dict := none, data := .set #[] 0 (.fresh 0 0 led) }
set_option maxHeartbeats 3200000 in
theorem call_set_texts {l : Addr} {items : Array Value} {xs : List Str} {Q : Value → Shared → Prop} (hh : A.handled = none) (hl : s.heap.IsList l items) (hi : PyProof.Rows.StrsAre items.toList xs) (hz : items.size ≤ 1000)
    (h : ∀ (h' : Heap) (tk : Nat), h'.SetOf (strKind prog w) s.heap.objs.size (fun k => xs.any (· == k)) (newTexts [] xs) → (∀ b o, b < s.heap.objs.size → s.heap.get? b = some o → h'.get? b = some o) → Q (.ref s.heap.objs.size) { s with heap := h', toks := tk }) :
    wpAny (model prog w) A (call (.type "set") [.ref l]) Q E s := by
  obtain ⟨mroHead, mroRest, hmro⟩ := F.called_set.mro
  have hmade := F.called_set.made
  have hsub := F.called_set.sub
  have hnt := F.called_set.notType
  have hcc := F.called_set.canCreate
  have hone := F.typeCall_set_1 (.ref l)
  apply wpAny_call; apply codeAny_of_tree; change wpAny _ _ (callAny (.type "set") _) _ _ _
  refine wpAny_pure ⟨Code.quiet_builtin _ (by decide +kernel), codeAny_builtin F.entry_type_call ?_⟩; rw [Around.under_plain (weight_type_call_type "set" [.ref l] []) rfl]
  repeat (any_goals (first | assumption | wp_step))
  refine codeAny_mono (code_set_new_1 (.ref l) (E := E) (Q₁ := fun obj s₁ => ∃ led : Bool, obj = .ref s.heap.objs.size ∧ s₁ = { s with heap := s.heap.push (newSetObj led) }) fun led => ⟨led, rfl, rfl⟩) fun r s₁ hr => ?_
  match r, hr with
  | .error e, hr => exact hr
  | .ok .next, hr => exact hr.elim
  | .ok .brk, hr => exact hr.elim
  | .ok .cont, hr => exact hr.elim
  | .ok (.ret obj), hr =>
  obtain ⟨led, rfl, rfl⟩ := hr
  have new : (s.heap.push (newSetObj led)).get? s.heap.objs.size = some (newSetObj led) := Heap.get?_push_size _ rfl
  have ty : Shared.TypeIs { s with heap := s.heap.push (newSetObj led) } (.ref s.heap.objs.size) "set" := ⟨_, new, rfl⟩
  have hli := F.called_set.init.lookup
  have hbi := F.called_set.init.bind (.ref s.heap.objs.size)
  repeat (any_goals (first | assumption | wp_step))
  have lt : l < s.heap.objs.size := hl.imp (fun _ q => Heap.lt_size q.1) |>.choose_spec
  let Done : Value → Shared → Prop := fun r s₂ => r = .none ∧ ∃ h' tk, s₂ = { s with heap := h', toks := tk } ∧ h'.SetOf (strKind prog w) s.heap.objs.size (fun k => xs.any (· == k)) (newTexts [] xs) ∧ ∀ b o, b < s.heap.objs.size → s.heap.get? b = some o → h'.get? b = some o
  refine codeAny_mono (codeAny_call_builtin (R := wants Done E) F.called_set.init.plain F.entry_set_init (check_set_init_1 ty ?_)) fun r₂ s₂ hr₂ => ?_
  · obtain ⟨⟨ocls, odict, odata, oslots⟩, there, isL, nl, body⟩ := hl
    dsimp only at isL body
    subst isL body
    have there1 : (s.heap.push (newSetObj led)).get? l = some { cls := .type "list", dict := odict, data := .seq items nl, slots := oslots } := Heap.get?_push_of_some _ there
    have lst1 : (s.heap.push (newSetObj led)).IsList l items := ⟨_, there1, rfl, nl, rfl⟩
    have nd : (Value.type "list" == Value.type "dict") = false := by decide
    have n1 := F.sub_list_set
    have n2 := F.sub_list_frozenset
    unfold Builtin.«set.__init__» noKeywords Builtin.Frozenset.updateFrom
    generalize walkIt : pyIter = it
    wp_walk
    subst walkIt
    refine wpAny_pyIter_list lst1 (wpAny_bind (wpAny_runValue ?_))
    have sz1 : (s.heap.push (newSetObj led)).objs.size = s.heap.objs.size + 1 := Heap.size_push ..
    have lenE : xs.length = items.size := by rw [← PyProof.Rows.StrsAre.len_eq hi, Array.length_toList]
    refine texts_fill (I := (s.heap.push (newSetObj led)).objs.size) (S := s.heap.objs.size) (ax := l) (vs := items) (by simp [hh]) (by rw [sz1]; exact Nat.succ_ne_self _) (by rw [sz1]; exact Nat.ne_of_lt (Nat.lt_succ_of_lt lt)) (Nat.ne_of_lt lt) xs [] _ 0 (by simpa using lenE) hz
      (fun j x e => ?_) ⟨_, Heap.get?_push_size _ rfl, rfl, rfl⟩ (lst1.push _) ?_ (Nat.le_refl _) fun s' q1 q2 q3 => ?_
    · have e : xs[j]? = some x := by simpa using e
      obtain ⟨lj, ej⟩ := List.getElem?_eq_some_iff.mp e
      have hj : j < items.size := by rw [← lenE]; exact lj
      obtain ⟨t, ht⟩ := SS.strs_at hi j items[j] (by simp [hj])
      exact ⟨t, by rw [Array.getElem?_eq_getElem hj, ht, List.getD_eq_getElem?_getD, e]; rfl⟩
    · have there2 : ((s.heap.push (newSetObj led)).push { cls := .type "list_iterator", data := .fields #[.ref l, .int 0 0] }).get? s.heap.objs.size = some (newSetObj led) := Heap.get?_push_of_some _ new
      exact PyProof.Rows.SetOf_congr ((PyProof.Rows.setObjOf_fresh (knd := strKind prog w) led).setOf there2 (by unfold scanBound; omega)) (fun _ => rfl) rfl
    · refine wpAny_pure (wpAny_pure ⟨rfl, s'.heap, s'.toks, by rw [q2], by simpa using q3, fun b o lb e => ?_⟩)
      exact q1 b o (by rw [sz1]; exact Nat.ne_of_lt (Nat.lt_succ_of_lt lb)) (Nat.ne_of_lt lb) (Heap.get?_push_of_some _ (Heap.get?_push_of_some _ e))
  · match r₂, hr₂ with
    | .error _, q => exact q
    | .ok .next, q => exact q.elim
    | .ok .brk, q => exact q.elim
    | .ok .cont, q => exact q.elim
    | .ok (.ret _), q =>
      obtain ⟨rfl, h', tk, rfl, hS', hk'⟩ := q
      repeat (any_goals (first | assumption | wp_step))
      exact h _ _ hS' hk'
end
end PySem

namespace M3
open PySem PySem.Spec PyProof.Rows L2
section
variable {X : Cx} {a : Expr} {ta : TE} {p p2 q pos : Pos}
/-- len(set(xs)), xs a list of texts -/
theorem pe_lenSet3 (hc : X.calm = true) (hg : Gl X "len") (hm : X.mg "len" = none) (hg2 : Gl X "set") (hm2 : X.mg "set" = none) (ha : PE X a ta) (na : starEach [a] X.env = (false, eval a X.env) :: starEach [] X.env := by rfl) :
    PE X (.Call (.Name "len" p) [.Call (.Name "set" p2) [a] [] q] [] pos) (fun σ H Q => ta σ H fun x H1 => ∃ (l : Addr) (xs : List Str), x = .ref l ∧ SqL X.K H1 l (xs.map V.str) ∧ xs.length ≤ 1000 ∧ Q (.int (newTexts [] xs)) H1) := by
  refine ⟨fun pins now σ H Q inv wish => Call_ (ld_blt inv hg hm boot_len (PyProof.Rows.callWith_builtin1 (PyProof.Rows.args_cons (Call_ (ld_blt inv hg2 hm2 boot_set ?_)) rfl) rfl rfl))⟩
  refine PyProof.Rows.callWith_type1 (PyProof.Rows.args_cons (thn (ha.run pins now σ H _ inv wish) fun v later got => PyProof.Rows.args_nil ?_) na) na rfl
  obtain ⟨_, H1, J, rx, l, xs, rfl, at_, few, rest⟩ := got
  obtain rfl : v = .ref l := rx
  obtain ⟨its, vals, lst, -⟩ := J.list at_
  have many : its.length = xs.length := by rw [← vals.length, List.length_map]
  refine call_set_texts (J.ok.hd hc) lst.isList (by simpa using strsAre_of vals) (by simpa [many] using few) fun h' tk made kept => PyProof.Rows.args_nil ?_
  have le : ∀ (ys acc : List Str), newTexts acc ys ≤ ys.length := fun ys => by
    induction ys with
    | nil => intro acc; exact Nat.le_refl _
    | cons y ys ih => intro acc; have := ih (acc ++ [y]); unfold newTexts; split <;> simp <;> omega
  have := le xs []
  obtain ⟨o, es, ep, t, ho, hex, hd, -, -, -, hf, hn⟩ := made
  have J2 : Inv X pins σ H1 { later with heap := h', toks := tk } := J.kept fun b o e => kept b o (Heap.lt_size e) e
  exact call_len_set ho hex hd hf (by rw [hn]; omega) ⟨.int _, H1, J2.tok _, ⟨_, by rw [hn]⟩, rest⟩
end
def lenSetF (w : W) : Option W := w.ls.bind fun ds => (D.strs ds).bind fun xs => if xs.length ≤ 1000 then some (.val (.int (newTexts [] xs))) else none
def eLenSet (m : EM) : EM := fun u => M.bind (m u) fun w => M.of (lenSetF w)
theorem me_lenSet {P : P3} {a : Expr} {m : EM} {p p2 q pos : Pos} (hc : P.X.calm = true) (hg : Gl P.X "len") (hm : P.X.mg "len" = none) (hg2 : Gl P.X "set") (hm2 : P.X.mg "set" = none) (ha : ME P a m) (na : starEach [a] P.X.env = (false, eval a P.X.env) :: starEach [] P.X.env := by rfl) :
    ME P (.Call (.Name "len" p) [.Call (.Name "set" p2) [a] [] q] [] pos) (eLenSet m) := by
  obtain ⟨t, pt, ht⟩ := ha.out
  refine ME.mk' (pe_lenSet3 hc hg hm hg2 hm2 pt na) fun B0 B s st u z Q wd sl h => ht B0 B s st u z _ wd sl (Post.bind h fun w st1 s1 v l1 wd1 r1 h1 => ?_)
  obtain ⟨w', e, h1⟩ := of_eq h1
  unfold lenSetF at e
  cases e1 : w.ls with
  | none => rw [e1] at e; cases e
  | some ds =>
    rw [e1, Option.bind_some] at e
    cases e2 : D.strs ds with
    | none => rw [e2] at e; cases e
    | some xs =>
      rw [e2, Option.bind_some] at e
      split at e
      · rename_i hz
        cases e
        obtain ⟨l, vs, rfl, hp, rl⟩ := ls_ok wd1 r1 e1
        obtain rfl := strs_ok rl e2
        exact ⟨l, xs, rfl, .inl (.inl hp), hz, h1.pure wd1 .int⟩
      · cases e
end M3


namespace M3
open PySem PySem.W PySem.Calls PyProof.Rows

theorem weight_mem {n : Int} : ∀ {ns : List Int}, n ∈ ns → (if n == 0 then 0 else n.natAbs.log2 + 1) ≤ WData.weightAll (ns.map WData.int)
  | m :: ns, h => by
    rw [List.map_cons, WData.weightAll, WData.weight]
    rcases List.mem_cons.mp h with e | h
    · rw [← e]; omega
    · have := weight_mem h; omega
theorem bits_of {ns : List Int} (h : WData.layableAll [WData.list (ns.map WData.int)] = true) : ∀ n ∈ ns, n.natAbs.log2 ≤ 1048576 := by
  intro n hn
  have h1 : (WData.list (ns.map WData.int)).layable = true := by simpa [WData.layableAll] using h
  have h2 := (layableW_iff.mp h1).2.2
  rw [WData.weight] at h2
  have h3 := weight_mem hn
  by_cases z : n = 0
  · subst z; decide
  · rw [if_neg (by simpa using z)] at h3; omega
/-- the end: the law's mirror says True at every script -/
theorem walk3 {l : OpenLaw} {n k : Nat} {q : Program} {loose : List Str} {XP : (Str → Option Value) → Heap → Prop} {YP : World → Heap → Prop} {d : DefRec} {K : Params → Frag} {x : Str} {m : List D → M D}
    (hn : l.most = some n) (hn2 : n ≤ sizeLine) (hdf : d.params.defaults = []) (hr : L2.Room k callerA) (hY : ∀ (w : World) (h : Heap), YP w h → (K w.params).In h)
    (F : ∀ (w : World) (mg : Str → Option Value) (fa : Addr) (h : Heap), (K w.params).In h → h.Ns mainGlobals mg → mg d.name = some (.ref fa) → ∃ (G : G3) (fd : FuncData), G.K = K w.params ∧ G.tabs = [] ∧ (∀ (s : Shared) (u : Value), BindsTo s fd ⟨[u], []⟩ [(x, u)]) ∧
        ∀ base : Heap, (K w.params).In base → base.Ns mainGlobals mg → L2.FnOk l.prog w (K w.params) mg base (L2.CX l.prog w) k fa fd [x] (spM G 1 m))
    (hm : ∀ ns : List Int, ns.length ≤ n → (∀ i ∈ ns, i.natAbs.log2 ≤ 1048576) → ∃ st, m [.ro (ns.map .int)] [] = .ok (.bl true) st) : WalkO q loose XP YP l.row.toRowW d [] (fun f vs => PySem.call f vs) := by
  intro w s₀ s₁ mg mb Gr Y fa o pm cd doc dV kV ho hd hcd hD hmg hg args vals as hpre hlay hrd hwl hlo
  cases Dflts.none hD hdf
  cases Dflts.noKw hD
  obtain ⟨a, vs, ns, rfl, rfl, hobj, hints, hlen⟩ := Att.script_of hn hpre hwl
  have KX := hY w _ Y
  obtain ⟨G, fd, hK, hT0, hb, hF⟩ := F w mg fa _ KX Gr.T.g hmg
  obtain ⟨st, hst⟩ := hm ns hlen (bits_of hlay)
  refine enter_call (codeAny_mono (L2.law_call (CX := L2.CX l.prog w) KX Gr.T.g Gr.T.b Gr.T.builtins Gr.T.nolimit hg hobj hints (Nat.le_trans hlen hn2) hr hF hb (fun H hO hS => ?_) fun H e s' hq => ?_) fun r s' hq => ?_)
  · refine ⟨rfl, fun _ => False, ⟨fun _ => none, H, H⟩, [], [.ro (ns.map .int)], rfl, ⟨fun _ _ e => e, fun _ z => z.elim, (fun b o e ps q => by subst q; rcases hO b with z | ⟨_, _, z⟩ <;> (rw [show H b = _ from e] at z; cases z)), (fun _ _ z => nomatch z), (fun _ _ _ _ _ z => nomatch z), (fun _ _ z => nomatch z), (fun _ _ z => nomatch z), (by rw [hT0]; exact fun _ z => nomatch z)⟩, .cons (.ro (by show L2.SqL G.K _ _ _; rw [hK]; exact hS) ?_) .nil, ?_⟩
    · clear hst hobj hints hlen hS hlay hrd hwl hpre
      induction ns with
      | nil => exact .nil
      | cons i ns ih => exact .cons .int ih
    · rw [hst]
      intro s2 v l2 w2 r2
      cases r2
      rfl
  · obtain ⟨_, _, _, _, _, _, _, _, _, _, _, _, z⟩ := hq
    exact z
  · obtain ⟨rfl, h2, h3, h4⟩ := hq
    exact ⟨.inl ⟨.bool true, .bool true, [], rfl, fun _ => rfl, .bool true, Att.post_true l _, fun _ => ⟨List.Pairwise.nil, fun _ hm => (nomatch hm)⟩⟩, h2, h3, h4⟩
end M3


/-! a mirror is run by rewriting: what is left to be done stands in named continuations -/
namespace M3
open PySem L2

def run {α : Type} (r : Res α) (k : Res α → Prop) : Prop := k r
def srun (r : SRes) (k : SRes → Prop) : Prop := k r
theorem of_run {α : Type} {r x : Res α} (h : run r (fun y => y = x)) : r = x := h
theorem run_mono {α : Type} {r : Res α} {k k' : Res α → Prop} (h : run r k) (i : ∀ r, k r → k' r) : run r k' := i _ h
theorem srun_mono {r : SRes} {k k' : SRes → Prop} (h : srun r k) (i : ∀ r, k r → k' r) : srun r k' := i _ h
section
variable {α β γ : Type} {k : Res α → Prop} {kb : Res β → Prop} {ks : SRes → Prop} {st : Store} {u : Sl3}
@[simp] theorem run_ok (a : α) : run (.ok a st) k = k (.ok a st) := rfl
@[simp] theorem run_err (c x) : run (.err c x st : Res α) k = k (.err c x st) := rfl
@[simp] theorem run_bad : run (.bad : Res α) k = k .bad := rfl
@[simp] theorem srun_nx : srun (.nx u st) ks = ks (.nx u st) := rfl
@[simp] theorem srun_rt (w) : srun (.rt w st) ks = ks (.rt w st) := rfl
@[simp] theorem srun_bk : srun (.bk u st) ks = ks (.bk u st) := rfl
@[simp] theorem srun_ct : srun (.ct u st) ks = ks (.ct u st) := rfl
@[simp] theorem srun_err (c x) : srun (.err c x u st) ks = ks (.err c x u st) := rfl
@[simp] theorem srun_bad : srun .bad ks = ks .bad := rfl
/-! the monad -/
def kBind (f : α → M β) (k : Res β → Prop) : Res α → Prop
  | .ok a st => run (f a st) k
  | .err c x st => k (.err c x st)
  | .bad => k .bad
@[simp] theorem kBind_ok (f : α → M β) (a) : kBind f kb (.ok a st) = run (f a st) kb := rfl
@[simp] theorem kBind_err (f : α → M β) (c x) : kBind f kb (.err c x st) = kb (.err c x st) := rfl
@[simp] theorem kBind_bad (f : α → M β) : kBind f kb .bad = kb .bad := rfl
@[simp] theorem run_bind (m : M α) (f : α → M β) : run (M.bind m f st) kb = run (m st) (kBind f kb) := by
  unfold run M.bind kBind
  cases m st <;> rfl
@[simp] theorem run_pure (a : α) : run (M.pure a st) k = k (.ok a st) := rfl
@[simp] theorem run_Mbad : run (M.bad st) k = k .bad := rfl
@[simp] theorem run_of_some (a : α) : run (M.of (some a) st) k = k (.ok a st) := rfl
@[simp] theorem run_of_none : run (M.of (none : Option α) st) k = k .bad := rfl
@[simp] theorem run_of_ite (p : Prop) [Decidable p] (a b : Option α) : run (M.of (if p then a else b) st) k = if p then run (M.of a st) k else run (M.of b st) k := by split <;> rfl
@[simp] theorem run_chk (p : Prop) [Decidable p] {k : Res Unit → Prop} : run (M.chk p st) k = if p then k (.ok () st) else k .bad := by unfold run M.chk; split <;> rfl
def kQuiet (k : Res α → Prop) : Res α → Prop
  | .ok a st => k (.ok a st)
  | _ => k .bad
@[simp] theorem kQuiet_ok (a) : kQuiet k (.ok a st) = k (.ok a st) := rfl
@[simp] theorem kQuiet_err (c x) : kQuiet k (.err c x st) = k .bad := rfl
@[simp] theorem kQuiet_bad : kQuiet k (.bad : Res α) = k .bad := rfl
@[simp] theorem run_quiet (m : M α) : run (M.quiet m st) k = run (m st) (kQuiet k) := by unfold run M.quiet kQuiet; cases m st <;> rfl
end
section
variable {k : Res W → Prop} {ka : Res (List W) → Prop} {kt : Res Bool → Prop} {kf : Res (List D) → Prop} {kd : Res D → Prop} {ki : Res (Option Int) → Prop} {ks : SRes → Prop} {st : Store} {u : Sl3} {a b c m : EM} {ma ms : AM} {fm : FM} {t t' : TM} {g g' : W → W → Option W}
/-! expressions -/
def kVar (st : Store) (k : Res W → Prop) : Option (Option W) → Prop
  | some (some w) => k (.ok w st)
  | _ => k .bad
@[simp] theorem kVar_some (w) : kVar st k (some (some w)) = k (.ok w st) := rfl
@[simp] theorem kVar_none : kVar st k (some none) = k .bad := rfl
@[simp] theorem kVar_out : kVar st k none = k .bad := rfl
@[simp] theorem run_eVar (i : Nat) : run (eVar i u st) k = kVar st k u[i]? := by
  unfold run eVar kVar
  cases u[i]? with
  | none => rfl
  | some o => cases o <;> rfl
@[simp] theorem run_eC (d : D) : run (eC d u st) k = k (.ok (.val d) st) := rfl
@[simp] theorem run_aNil : run (aNil u st) ka = ka (.ok [] st) := rfl
@[simp] theorem run_aCons : run (aCons m ms u st) ka = run (m u st) (kBind (fun w => M.bind (ms u) fun ws => M.pure (w :: ws)) ka) := run_bind _ _
@[simp] theorem run_eTup : run (eTup ma u st) k = run (ma u st) (kBind (fun ws => M.bind (M.of (asDs ws)) fun ds => M.bind (M.chk (ds.length ≤ 1000000)) fun _ => M.pure (.val (.tup ds))) k) := run_bind _ _
@[simp] theorem run_fLst : run (fLst ma u st) kf = run (ma u st) (kBind (fun ws => M.bind (M.of (asDs ws)) fun ds => M.bind (M.chk (ds.length ≤ 1000000)) fun _ => M.pure ds) kf) := run_bind _ _
@[simp] theorem run_eF : run (eF fm u st) k = run (fm u st) (kBind (fun xs => M.pure (.val (.lst xs))) k) := run_bind _ _
@[simp] theorem run_eBin : run (eBin g a b u st) k = run (a u st) (kBind (fun x => M.bind (b u) fun y => M.of (g x y)) k) := run_bind _ _
@[simp] theorem run_tOf : run (tOf m u st) kt = run (m u st) (kBind (fun w => M.of w.bool) kt) := run_bind _ _
@[simp] theorem run_tTru : run (tTru m u st) kt = run (m u st) (kBind (fun w => M.of w.tru) kt) := run_bind _ _
def kAnd (b : EM) (u : Sl3) (k : Res W → Prop) (w : W) (st : Store) : Bool → Prop
  | true => run (b u st) k
  | false => k (.ok w st)
def kOr (b : EM) (u : Sl3) (k : Res W → Prop) (w : W) (st : Store) : Bool → Prop
  | true => k (.ok w st)
  | false => run (b u st) k
def kTruW (f : W → Store → Bool → Prop) (kbad : Prop) (kerr : String → D → Store → Prop) : Res W → Prop
  | .ok w st => match w.tru with
    | some c => f w st c
    | none => kbad
  | .err c x st => kerr c x st
  | .bad => kbad
@[simp] theorem run_eAnd : run (eAnd a b u st) k = run (a u st) (kBind (fun w => M.bind (M.of w.tru) fun c => if c = true then b u else M.pure w) k) := run_bind _ _
@[simp] theorem run_eOr : run (eOr a b u st) k = run (a u st) (kBind (fun w => M.bind (M.of w.tru) fun c => if c = true then M.pure w else b u) k) := run_bind _ _
@[simp] theorem run_eNot : run (eNot a u st) k = run (a u st) (kBind (fun w => M.bind (M.of w.tru) fun c => M.pure (.val (.bl (!c)))) k) := run_bind _ _
@[simp] theorem run_tAnd3 : run (tAnd3 t t' u st) kt = run (t u st) (kBind (fun c => if c = true then t' u else M.pure false) kt) := run_bind _ _
@[simp] theorem run_tOr3 : run (tOr3 t t' u st) kt = run (t u st) (kBind (fun c => if c = true then M.pure true else t' u) kt) := run_bind _ _
@[simp] theorem run_tNot3 : run (tNot3 t u st) kt = run (t u st) (kBind (fun c => M.pure (!c)) kt) := run_bind _ _
@[simp] theorem run_ite {α : Type} {k : Res α → Prop} (p : Prop) [Decidable p] (x y : M α) : run ((if p then x else y) st) k = if p then run (x st) k else run (y st) k := by split <;> rfl
@[simp] theorem run_eChain : run (eChain g g' a b c u st) k = run (a u st) (kBind (fun x => M.bind (b u) fun y => M.bind (M.of (g x y)) fun q => M.bind (M.of q.bool) fun q => if q = true then M.bind (c u) fun w => M.of (g' y w) else M.pure (.val (.bl false))) k) := run_bind _ _
@[simp] theorem run_eIf : run (eIf t a b u st) k = run (t u st) (kBind (fun c => if c = true then a u else b u) k) := run_bind _ _
@[simp] theorem run_pNone : run (pNone u st) ki = ki (.ok none st) := rfl
@[simp] theorem run_pSome (i : Int) (h : m u st = .ok (.val (.int i)) st) : run (pSome m u st) ki = ki (.ok (some i) st) := by unfold run pSome M.bind; rw [h]; rfl
def kPart (k : Res (Option Int) → Prop) : Res W → Prop
  | .ok (.val (.int i)) st => k (.ok (some i) st)
  | .ok _ _ => k .bad
  | .err c x st => k (.err c x st)
  | .bad => k .bad
@[simp] theorem kPart_ok (i : Int) : kPart ki (.ok (.val (.int i)) st) = ki (.ok (some i) st) := rfl
@[simp] theorem run_pSome' : run (pSome m u st) ki = run (m u st) (kPart ki) := by
  unfold run pSome M.bind kPart
  cases m u st with
  | ok w st' =>
    cases w with
    | val d => cases d <;> rfl
    | _ => rfl
  | _ => rfl
/-- what a slice gives -/
def slA (x : W) (a b : Option Int) : Option W := match x.ls with
  | some xs => some (.val (.lst (cutD xs a b)))
  | none => slF x a b
@[simp] theorem slA_lst (xs a b) : slA (.val (.lst xs)) a b = some (.val (.lst (cutD xs a b))) := rfl
@[simp] theorem slA_bor (xs a b) : slA (.bor xs) a b = some (.val (.lst (cutD xs a b))) := rfl
@[simp] theorem slA_tup (xs a b) : slA (.val (.tup xs)) a b = some (.val (.tup (cutD xs a b))) := rfl
@[simp] theorem slA_str (z a b) : slA (.val (.str z)) a b = if z.length ≤ 1000000 then some (.val (.str (cutS z a b))) else none := rfl
@[simp] theorem run_eSlA {l h : Sl3 → M (Option Int)} : run (eSlA m l h u st) k = run (m u st) (kBind (fun x => M.bind (l u) fun a => M.bind (h u) fun b => M.of (slA x a b)) k) := by
  have e : eSlA m l h u = M.bind (m u) fun x => M.bind (l u) fun a => M.bind (h u) fun b => M.of (slA x a b) := by
    unfold eSlA slA
    congr 1
    funext x
    cases x.ls <;> rfl
  rw [e]; exact run_bind _ _
@[simp] theorem run_eB (g : List W → Option W) : run (eB g ma u st) k = run (ma u st) (kBind (fun ws => M.of (g ws)) k) := run_bind _ _
@[simp] theorem run_fB (g : List W → Option (List D)) : run (fB g ma u st) kf = run (ma u st) (kBind (fun ws => M.of (g ws)) kf) := run_bind _ _
@[simp] theorem run_eCall (n : Nat) (f : List D → M D) : run (eCall n f ma u st) k = run (ma u st) (kBind (fun ws => M.bind (M.of (asDs ws)) fun ds => M.bind (M.chk (ds.length = n)) fun _ => M.bind (f ds) fun d => M.pure (.val d)) k) := run_bind _ _
/-- what a for walks -/
def kSeqs (k : Res (List D) → Prop) : Res W → Prop
  | .ok (.val d) st => run (M.of d.walk st) k
  | .ok _ _ => k .bad
  | .err c x st => k (.err c x st)
  | .bad => k .bad
@[simp] theorem kSeqs_ok (d : D) : kSeqs kf (.ok (.val d) st) = run (M.of d.walk st) kf := rfl
@[simp] theorem run_iSeq : run (iSeq m u st) kf = run (m u st) (kSeqs kf) := by
  unfold run iSeq M.bind kSeqs
  cases m u st with
  | ok w st' => cases w <;> rfl
  | _ => rfl
@[simp] theorem rng1_int (j : Int) : rng1 [.val (.int j)] = if -1000000 ≤ j ∧ j ≤ 1000000 then some (rangeD 0 j.toNat) else none := rfl
@[simp] theorem rng2_int (i j : Int) : rng2 [.val (.int i), .val (.int j)] = if -1000000 ≤ i ∧ i ≤ 1000000 ∧ -1000000 ≤ j ∧ j ≤ 1000000 then some (rangeD i (j - i).toNat) else none := rfl
@[simp] theorem run_iRange1 : run (iRange1 ma u st) kf = run (ma u st) (kBind (fun ws => M.of (rng1 ws)) kf) := run_bind _ _
@[simp] theorem run_iRange2 : run (iRange2 ma u st) kf = run (ma u st) (kBind (fun ws => M.of (rng2 ws)) kf) := run_bind _ _
@[simp] theorem run_fLc {gm : GM} {own : List Nat} : run (fLc fm gm t m own u st) kf = run (fm u st) (kBind (fun ds => lcL gm t m (wipe3 u own) ds []) kf) := run_bind _ _
@[simp] theorem lcL_nil {gm : GM} {u0 : Sl3} (acc) : lcL gm t m u0 [] acc = M.pure acc := rfl
@[simp] theorem lcL_cons {gm : GM} {u0 : Sl3} (d ds acc) : run (lcL gm t m u0 (d :: ds) acc st) kf = run (M.of (gm d u0) st) (kBind (fun u1 => M.bind (M.quiet (t u1)) fun k =>
    if k = true then M.bind (M.quiet (m u1)) fun w => M.bind (M.of w.d) fun x => M.bind (M.chk (acc.length < 1000000)) fun _ => lcL gm t m u0 ds (acc ++ [x])
    else lcL gm t m u0 ds acc) kf) := run_bind _ _
@[simp] theorem run_tYes3 : run (tYes3 u st) kt = kt (.ok true st) := rfl
@[simp] theorem gName3_eq (i d) : gName3 i d u = some (u.set i (some (.val d))) := rfl
@[simp] theorem gNil3_eq : gNil3 [] u = some u := rfl
@[simp] theorem gCons3_eq (g gs d ds) : gCons3 g gs (d :: ds) u = (g d u).bind (gs ds) := rfl
@[simp] theorem gTup3_eq (n gs ds) : gTup3 n gs (.tup ds) u = if ds.length = n then gs ds u else none := rfl
/-! statements -/
def kSeq (b : SM) (k : SRes → Prop) : SRes → Prop
  | .nx u st => srun (b u st) k
  | r => k r
@[simp] theorem kSeq_nx (s : SM) : kSeq s ks (.nx u st) = srun (s u st) ks := rfl
@[simp] theorem kSeq_rt (s : SM) (w) : kSeq s ks (.rt w st) = ks (.rt w st) := rfl
@[simp] theorem kSeq_bk (s : SM) : kSeq s ks (.bk u st) = ks (.bk u st) := rfl
@[simp] theorem kSeq_ct (s : SM) : kSeq s ks (.ct u st) = ks (.ct u st) := rfl
@[simp] theorem kSeq_err (s : SM) (c x) : kSeq s ks (.err c x u st) = ks (.err c x u st) := rfl
@[simp] theorem kSeq_bad (s : SM) : kSeq s ks .bad = ks .bad := rfl
@[simp] theorem run_sSeq (s s' : SM) : srun (sSeq s s' u st) ks = srun (s u st) (kSeq s' ks) := by unfold srun sSeq kSeq; cases s u st <;> rfl
@[simp] theorem run_sNext : srun (sNext u st) ks = ks (.nx u st) := rfl
@[simp] theorem run_sBreak : srun (sBreak u st) ks = ks (.bk u st) := rfl
@[simp] theorem run_sCont : srun (sCont u st) ks = ks (.ct u st) := rfl
@[simp] theorem run_sRetN : srun (sRetN u st) ks = ks (.rt (.val .non) st) := rfl
/-- an expression's end within a statement -/
def kSet (i : Nat) (u : Sl3) (k : SRes → Prop) : Res W → Prop
  | .ok (.val d) st => k (.nx (u.set i (some (.val d))) st)
  | .ok _ _ => k .bad
  | .err c x st => k (.err c x u st)
  | .bad => k .bad
def kRetV (u : Sl3) (k : SRes → Prop) : Res W → Prop
  | .ok (.val d) st => k (.rt (.val d) st)
  | .ok _ _ => k .bad
  | .err c x st => k (.err c x u st)
  | .bad => k .bad
def kDrop (u : Sl3) (k : SRes → Prop) : Res W → Prop
  | .ok _ st => k (.nx u st)
  | .err c x st => k (.err c x u st)
  | .bad => k .bad
def kOwnS (i : Nat) (u : Sl3) (k : SRes → Prop) : Res (List D) → Prop
  | .ok xs st => k (.nx (u.set i (some (.bor xs))) st)
  | .err c x st => k (.err c x u st)
  | .bad => k .bad
def kFor (gm : GM) (s : SM) (u : Sl3) (k : SRes → Prop) : Res (List D) → Prop
  | .ok ds st => srun (forL gm s ds u st) k
  | .err c x st => k (.err c x u st)
  | .bad => k .bad
def kIf (s s' : SM) (u : Sl3) (k : SRes → Prop) : Res Bool → Prop
  | .ok c st => if c = true then srun (s u st) k else srun (s' u st) k
  | .err c x st => k (.err c x u st)
  | .bad => k .bad
@[simp] theorem kSet_ok (i d) : kSet i u ks (.ok (.val d) st) = ks (.nx (u.set i (some (.val d))) st) := rfl
@[simp] theorem kSet_err (i c x) : kSet i u ks (.err c x st) = ks (.err c x u st) := rfl
@[simp] theorem kSet_bad (i) : kSet i u ks .bad = ks .bad := rfl
@[simp] theorem kRetV_ok (d) : kRetV u ks (.ok (.val d) st) = ks (.rt (.val d) st) := rfl
@[simp] theorem kRetV_err (c x) : kRetV u ks (.err c x st) = ks (.err c x u st) := rfl
@[simp] theorem kRetV_bad : kRetV u ks .bad = ks .bad := rfl
@[simp] theorem kDrop_ok (w) : kDrop u ks (.ok w st) = ks (.nx u st) := rfl
@[simp] theorem kDrop_err (c x) : kDrop u ks (.err c x st) = ks (.err c x u st) := rfl
@[simp] theorem kOwnS_ok (i xs) : kOwnS i u ks (.ok xs st) = ks (.nx (u.set i (some (.bor xs))) st) := rfl
@[simp] theorem kFor_ok (gm s ds) : kFor gm s u ks (.ok ds st) = srun (forL gm s ds u st) ks := rfl
@[simp] theorem kFor_err (gm s c x) : kFor gm s u ks (.err c x st) = ks (.err c x u st) := rfl
@[simp] theorem kIf_ok (s s' c) : kIf s s' u ks (.ok c st) = if c = true then srun (s u st) ks else srun (s' u st) ks := rfl
@[simp] theorem kIf_err (s s' c x) : kIf s s' u ks (.err c x st) = ks (.err c x u st) := rfl
@[simp] theorem run_sSet (i : Nat) : srun (sSet i m u st) ks = run (m u st) (kSet i u ks) := by
  unfold srun sSet run kSet
  cases m u st with
  | ok w st' => cases w <;> rfl
  | _ => rfl
@[simp] theorem run_sRetV : srun (sRetV m u st) ks = run (m u st) (kRetV u ks) := by
  unfold srun sRetV run kRetV
  cases m u st with
  | ok w st' => cases w <;> rfl
  | _ => rfl
@[simp] theorem run_sDrop : srun (sDrop m u st) ks = run (m u st) (kDrop u ks) := by unfold srun sDrop run kDrop; cases m u st <;> rfl
@[simp] theorem run_sOwn (i : Nat) : srun (sOwn i fm u st) ks = run (fm u st) (kOwnS i u ks) := by unfold srun sOwn run kOwnS; cases fm u st <;> rfl
@[simp] theorem run_sIf (s s' : SM) : srun (sIf t s s' u st) ks = run (t u st) (kIf s s' u ks) := by
  unfold srun sIf run kIf
  cases t u st with
  | ok c st' => cases c <;> rfl
  | _ => rfl
/-- a slot that holds a list of one's own -/
def kRetOwn (st : Store) (k : SRes → Prop) : Option (Option W) → Prop
  | some (some (.bor xs)) => k (.rt (.bor xs) st)
  | _ => k .bad
@[simp] theorem kRetOwn_bor (xs) : kRetOwn st ks (some (some (.bor xs))) = ks (.rt (.bor xs) st) := rfl
@[simp] theorem run_sRetO (i : Nat) : srun (sRetO i u st) ks = kRetOwn st ks u[i]? := by
  unfold srun sRetO kRetOwn
  cases u[i]? with
  | none => rfl
  | some o =>
    cases o with
    | none => rfl
    | some w => cases w <;> rfl
def kApp (i : Nat) (u : Sl3) (xs : List D) (k : SRes → Prop) : Res W → Prop
  | .ok (.val d) st => if xs.length < 1000000 then k (.nx (u.set i (some (.bor (xs ++ [d])))) st) else k .bad
  | .ok _ _ => k .bad
  | .err c x st => k (.err c x u st)
  | .bad => k .bad
def kAppTo (i : Nat) (m : EM) (u : Sl3) (st : Store) (k : SRes → Prop) : Option (Option W) → Prop
  | some (some (.bor xs)) => run (m u st) (kApp i u xs k)
  | _ => k .bad
@[simp] theorem kApp_ok (i xs d) : kApp i u xs ks (.ok (.val d) st) = if xs.length < 1000000 then ks (.nx (u.set i (some (.bor (xs ++ [d])))) st) else ks .bad := rfl
@[simp] theorem kAppTo_bor (i xs) : kAppTo i m u st ks (some (some (.bor xs))) = run (m u st) (kApp i u xs ks) := rfl
@[simp] theorem run_sApp (i : Nat) : srun (sApp i m u st) ks = kAppTo i m u st ks u[i]? := by
  unfold srun sApp kAppTo run kApp
  cases u[i]? with
  | none => rfl
  | some o =>
    cases o with
    | none => rfl
    | some w =>
      cases w with
      | bor xs =>
        dsimp only
        cases m u st with
        | ok w st' =>
          cases w with
          | val d => dsimp only; split <;> rfl
          | _ => rfl
        | _ => rfl
      | _ => rfl
@[simp] theorem run_sFor {gm : GM} (s : SM) : srun (sFor fm gm s u st) ks = run (fm u st) (kFor gm s u ks) := by unfold srun sFor run kFor; cases fm u st <;> rfl
@[simp] theorem run_forL_nil {gm : GM} (s : SM) : srun (forL gm s [] u st) ks = ks (.nx u st) := rfl
@[simp] theorem wipe3_nil : wipe3 u [] = u := rfl
@[simp] theorem wipe3_cons (v vs) : wipe3 u (v :: vs) = (wipe3 u vs).set v none := rfl
/-- behind a turn -/
def kTurn (f : Sl3 → Store → Prop) (k : SRes → Prop) : SRes → Prop
  | .nx u st => f u st
  | .ct u st => f u st
  | .bk u st => k (.nx u st)
  | r => k r
@[simp] theorem kTurn_nx (f) : kTurn f ks (.nx u st) = f u st := rfl
@[simp] theorem kTurn_ct (f) : kTurn f ks (.ct u st) = f u st := rfl
@[simp] theorem kTurn_bk (f) : kTurn f ks (.bk u st) = ks (.nx u st) := rfl
@[simp] theorem kTurn_rt (f w) : kTurn f ks (.rt w st) = ks (.rt w st) := rfl
@[simp] theorem kTurn_err (f c x) : kTurn f ks (.err c x u st) = ks (.err c x u st) := rfl
@[simp] theorem kTurn_bad (f) : kTurn f ks .bad = ks .bad := rfl
theorem run_forL_cons {gm : GM} (s : SM) {d : D} {ds : List D} {u1 : Sl3} (h : gm d u = some u1) : srun (forL gm s (d :: ds) u st) ks = srun (s u1 st) (kTurn (fun u st => srun (forL gm s ds u st) ks) ks) := by
  unfold srun
  rw [forL, h]
  dsimp only
  unfold kTurn
  cases s u1 st <;> rfl
/-- a loop by what holds between its turns -/
theorem forL_run {gm : GM} {s : SM} {ds : List D} (I : Nat → Sl3 → Store → Prop) (h0 : I 0 u st) (turn : ∀ i d u st, ds[i]? = some d → I i u st → ∃ u1, gm d u = some u1 ∧ srun (s u1 st) (kTurn (I (i + 1)) ks)) (fin : ∀ u st, I ds.length u st → ks (.nx u st)) : srun (forL gm s ds u st) ks := by
  have all : ∀ (n i : Nat) (u : Sl3) (st : Store), i + n = ds.length → I i u st → srun (forL gm s (ds.drop i) u st) ks := by
    intro n
    induction n with
    | zero =>
      intro i u st hi hI
      rw [List.drop_eq_nil_of_le (by omega)]
      have : i = ds.length := by omega
      subst this
      exact fin u st hI
    | succ n ih =>
      intro i u st hi hI
      have hl : i < ds.length := by omega
      rw [List.drop_eq_getElem_cons hl]
      obtain ⟨u1, e, t⟩ := turn i ds[i] u st (List.getElem?_eq_getElem hl) hI
      rw [run_forL_cons s e]
      refine srun_mono t fun r hr => ?_
      cases r with
      | nx u' st' => exact ih (i + 1) u' st' (by omega) hr
      | ct u' st' => exact ih (i + 1) u' st' (by omega) hr
      | _ => exact hr
  have := all ds.length 0 u st (by omega) h0
  simpa using this
/-- a while by what holds and a number that falls -/
theorem whileL_run {t : TM} {s : SM} (I : Nat → Sl3 → Store → Prop) (n m : Nat) (hn : m < n) (h0 : I m u st) (turn : ∀ m u st, I m u st → run (t u st) (fun r => match r with
    | .ok true st1 => srun (s u st1) (kTurn (fun u st => ∃ m', m' < m ∧ I m' u st) ks)
    | .ok false st1 => ks (.nx u st1)
    | .err c x st1 => ks (.err c x u st1)
    | .bad => ks .bad)) : srun (whileL t s n u st) ks := by
  induction n generalizing m u st with
  | zero => omega
  | succ n ih =>
    have q := turn m u st h0
    unfold run at q
    unfold srun
    rw [whileL]
    cases e : t u st with
    | ok c st1 =>
      rw [e] at q
      cases c with
      | true =>
        dsimp only at q ⊢
        unfold srun at q
        cases e2 : s u st1 with
        | nx u' st' => rw [e2] at q; obtain ⟨m', hm, hI⟩ := q; exact ih m' (by omega) hI
        | ct u' st' => rw [e2] at q; obtain ⟨m', hm, hI⟩ := q; exact ih m' (by omega) hI
        | bk u' st' => rw [e2] at q; exact q
        | rt w st' => rw [e2] at q; exact q
        | err c x u' st' => rw [e2] at q; exact q
        | bad => rw [e2] at q; exact q
      | false => exact q
    | err c x st1 => rw [e] at q; exact q
    | bad => rw [e] at q; exact q
/-- a comprehension whose turns leave the store alone -/
theorem lcL_eq {gm : GM} {u0 : Sl3} (p : D → Bool) (f : D → D) : ∀ (ds acc : List D), (∀ d ∈ ds, ∃ u1, gm d u0 = some u1 ∧ t u1 st = .ok (p d) st ∧ (p d = true → m u1 st = .ok (.val (f d)) st)) → acc.length + ds.length ≤ 1000000 →
    lcL gm t m u0 ds acc st = .ok (acc ++ (ds.filter p).map f) st
  | [], acc, _, _ => by simp [lcL, M.pure]
  | d :: ds, acc, h, hz => by
    obtain ⟨u1, e1, e2, e3⟩ := h d List.mem_cons_self
    have ih := fun acc => lcL_eq p f ds acc fun d hd => h d (List.mem_cons_of_mem _ hd)
    simp only [List.length_cons] at hz
    apply of_run
    rw [lcL_cons, e1]
    simp only [run_of_some, kBind_ok, run_bind, run_quiet, e2, run_ok, kQuiet_ok, run_ite]
    cases hp : p d with
    | false =>
      rw [if_neg Bool.false_ne_true, ih acc (by omega)]
      simp [hp]
    | true =>
      rw [if_pos rfl, e3 hp]
      simp only [run_ok, kQuiet_ok, kBind_ok, run_bind, W.d, run_of_some, run_chk]
      rw [if_pos (by omega), ih _ (by simp; omega)]
      simp [hp]
/-! a def -/
def kRet (k : Res D → Prop) : SRes → Prop
  | .nx _ st => k (.ok .non st)
  | .rt (.val d) st => k (.ok d st)
  | .rt (.bor xs) st => k (.ok (.lst xs) st)
  | .err c x _ st => k (.err c x st)
  | _ => k .bad
@[simp] theorem kRet_nx : kRet kd (.nx u st) = kd (.ok .non st) := rfl
@[simp] theorem kRet_rt (d) : kRet kd (.rt (.val d) st) = kd (.ok d st) := rfl
@[simp] theorem kRet_bor (xs) : kRet kd (.rt (.bor xs) st) = kd (.ok (.lst xs) st) := rfl
@[simp] theorem kRet_err (c x) : kRet kd (.err c x u st) = kd (.err c x st) := rfl
@[simp] theorem kRet_bad : kRet kd .bad = kd .bad := rfl
theorem run_mfn (N : Nat) (mb : SM) (ds : List D) : run (mfn N mb ds st) kd = srun (mb (ds.map (fun d => some (.val d)) ++ List.replicate (N - ds.length) none) st) (kRet kd) := by
  unfold run mfn srun kRet
  cases mb (ds.map (fun d => some (.val d)) ++ List.replicate (N - ds.length) none) st with
  | rt w st' => cases w <;> rfl
  | _ => rfl
end
/-! values -/
@[simp] theorem asDs_nil : asDs [] = some [] := rfl
@[simp] theorem asDs_cons (d : D) (ws : List W) : asDs (.val d :: ws) = (asDs ws).map (d :: ·) := rfl
@[simp] theorem W_d_val (d : D) : (W.val d).d = some d := rfl
@[simp] theorem W_bool_bl (b : Bool) : (W.val (.bl b)).bool = some b := rfl
@[simp] theorem W_rd_val (d : D) : (W.val d).rd = some d := rfl
@[simp] theorem W_rd_bor (xs : List D) : (W.bor xs).rd = some (.lst xs) := rfl
@[simp] theorem W_ls_lst (xs : List D) : (W.val (.lst xs)).ls = some xs := rfl
@[simp] theorem W_ls_bor (xs : List D) : (W.bor xs).ls = some xs := rfl
@[simp] theorem walk_tup (xs : List D) : (D.tup xs).walk = some xs := rfl
@[simp] theorem walk_ctup (xs : List D) : (D.ctup xs).walk = some xs := rfl
@[simp] theorem walk_lst (xs : List D) : (D.lst xs).walk = some xs := rfl
@[simp] theorem walk_ro (xs : List D) : (D.ro xs).walk = some xs := rfl
@[simp] theorem walk_str (x : Str) : (D.str x).walk = some (x.cps.toList.map fun c => .str ⟨#[c]⟩) := rfl
@[simp] theorem items_ctup (xs : List D) : (D.ctup xs).items = some xs := rfl
@[simp] theorem items_tup (xs : List D) : (D.tup xs).items = some xs := rfl
@[simp] theorem items_lst (xs : List D) : (D.lst xs).items = some xs := rfl
@[simp] theorem items_ro (xs : List D) : (D.ro xs).items = some xs := rfl
@[simp] theorem tru_non : (W.val .non).tru = some false := rfl
@[simp] theorem tru_bl (b : Bool) : (W.val (.bl b)).tru = some b := rfl
@[simp] theorem tru_int (i : Int) : (W.val (.int i)).tru = some (i != 0) := rfl
@[simp] theorem tru_tup (xs : List D) : (W.val (.tup xs)).tru = some (!xs.isEmpty) := rfl
@[simp] theorem tru_lst (xs : List D) : (W.val (.lst xs)).tru = some (!xs.isEmpty) := rfl
@[simp] theorem tru_bor (xs : List D) : (W.bor xs).tru = some (!xs.isEmpty) := rfl
@[simp] theorem addF_int (i j : Int) : addF (.val (.int i)) (.val (.int j)) = some (.val (.int (i + j))) := rfl
@[simp] theorem addF_str (x y : Str) : addF (.val (.str x)) (.val (.str y)) = if x.length + y.length ≤ 1000000 then some (.val (.str (x ++ y))) else none := rfl
@[simp] theorem addF_tup (xs ys : List D) : addF (.val (.tup xs)) (.val (.tup ys)) = if xs.length + ys.length ≤ 1000000 then some (.val (.tup (xs ++ ys))) else none := rfl
@[simp] theorem addF_lst (xs ys : List D) : addF (.val (.lst xs)) (.val (.lst ys)) = if xs.length + ys.length ≤ 1000000 then some (.val (.lst (xs ++ ys))) else none := rfl
@[simp] theorem addF_bl (xs ys : List D) : addF (.bor xs) (.val (.lst ys)) = if xs.length + ys.length ≤ 1000000 then some (.val (.lst (xs ++ ys))) else none := rfl
@[simp] theorem addF_lb (xs ys : List D) : addF (.val (.lst xs)) (.bor ys) = if xs.length + ys.length ≤ 1000000 then some (.val (.lst (xs ++ ys))) else none := rfl
@[simp] theorem addF_bb (xs ys : List D) : addF (.bor xs) (.bor ys) = if xs.length + ys.length ≤ 1000000 then some (.val (.lst (xs ++ ys))) else none := rfl
@[simp] theorem subF_int (i j : Int) : subF (.val (.int i)) (.val (.int j)) = some (.val (.int (i - j))) := rfl
@[simp] theorem modF_int (i j : Int) : modF (.val (.int i)) (.val (.int j)) = if 0 < j then some (.val (.int (i % j))) else none := by simp [modF, intF]
@[simp] theorem divF_int (i j : Int) : divF (.val (.int i)) (.val (.int j)) = if 0 < j ∧ j < 1073741824 then some (.val (.int (i / j))) else none := by simp [divF, intF]
@[simp] theorem powF_int (i j : Int) : powF (.val (.int i)) (.val (.int j)) = if 0 ≤ j ∧ j ≤ 1000 ∧ i.natAbs < 1000000 then some (.val (.int (i ^ j.toNat))) else none := by simp [powF, intF]
@[simp] theorem mulF_int (i j : Int) : mulF (.val (.int i)) (.val (.int j)) = if mulC i j = true then some (.val (.int (i * j))) else none := rfl
@[simp] theorem mulF_str (x : Str) (j : Int) : mulF (.val (.str x)) (.val (.int j)) = if MulS x j = true then some (.val (.str (Txt.mul x j))) else none := rfl
@[simp] theorem ltF_int (i j : Int) : ltF (.val (.int i)) (.val (.int j)) = some (.val (.bl (decide (i < j)))) := rfl
@[simp] theorem leF_int (i j : Int) : leF (.val (.int i)) (.val (.int j)) = some (.val (.bl (decide (i ≤ j)))) := rfl
@[simp] theorem gtF_int (i j : Int) : gtF (.val (.int i)) (.val (.int j)) = some (.val (.bl (decide (j < i)))) := rfl
@[simp] theorem geF_int (i j : Int) : geF (.val (.int i)) (.val (.int j)) = some (.val (.bl (decide (j ≤ i)))) := rfl
@[simp] theorem isNF_non (b : Bool) : isNF b (.val .non) (.val .non) = some (.val (.bl (!b))) := by cases b <;> rfl
@[simp] theorem isNF_int (b : Bool) (i) : isNF b (.val (.int i)) (.val .non) = some (.val (.bl b)) := rfl
@[simp] theorem isNF_str (b : Bool) (i) : isNF b (.val (.str i)) (.val .non) = some (.val (.bl b)) := rfl
@[simp] theorem isNF_tup (b : Bool) (i) : isNF b (.val (.tup i)) (.val .non) = some (.val (.bl b)) := rfl
@[simp] theorem isNF_lst (b : Bool) (i) : isNF b (.val (.lst i)) (.val .non) = some (.val (.bl b)) := rfl
@[simp] theorem lenF_str (z : Str) : lenF [.val (.str z)] = if z.length ≤ 1000000 then some (.val (.int z.length)) else none := rfl
@[simp] theorem lenF_tup (xs : List D) : lenF [.val (.tup xs)] = some (.val (.int xs.length)) := rfl
@[simp] theorem lenF_lst (xs : List D) : lenF [.val (.lst xs)] = some (.val (.int xs.length)) := rfl
@[simp] theorem lenF_ro (xs : List D) : lenF [.val (.ro xs)] = some (.val (.int xs.length)) := rfl
@[simp] theorem lenF_bor (xs : List D) : lenF [.bor xs] = some (.val (.int xs.length)) := rfl
@[simp] theorem intCF_int (i : Int) : intCF [.val (.int i)] = some (.val (.int i)) := rfl
@[simp] theorem intCF_bl (b : Bool) : intCF [.val (.bl b)] = some (.val (.int (if b then 1 else 0))) := rfl
@[simp] theorem tupCF_lst (xs : List D) : tupCF [.val (.lst xs)] = some (.val (.tup xs)) := rfl
@[simp] theorem tupCF_tup (xs : List D) : tupCF [.val (.tup xs)] = some (.val (.tup xs)) := rfl
@[simp] theorem tupCF_bor (xs : List D) : tupCF [.bor xs] = some (.val (.tup xs)) := rfl
@[simp] theorem lstCF_lst (xs : List D) : lstCF [.val (.lst xs)] = some xs := rfl
@[simp] theorem lstCF_tup (xs : List D) : lstCF [.val (.tup xs)] = some xs := rfl
@[simp] theorem lstCF_bor (xs : List D) : lstCF [.bor xs] = some xs := rfl
@[simp] theorem ixF_lst (xs : List D) (i : Int) : ixF (.val (.lst xs)) (.val (.int i)) = (atI xs i).map .val := rfl
@[simp] theorem ixF_tup (xs : List D) (i : Int) : ixF (.val (.tup xs)) (.val (.int i)) = (atI xs i).map .val := rfl
@[simp] theorem ixF_ro (xs : List D) (i : Int) : ixF (.val (.ro xs)) (.val (.int i)) = (atI xs i).map .val := rfl
@[simp] theorem ixF_bor (xs : List D) (i : Int) : ixF (.bor xs) (.val (.int i)) = (atI xs i).map .val := rfl
@[simp] theorem ixF_str (z : Str) (i : Int) : ixF (.val (.str z)) (.val (.int i)) = if z.length ≤ 1000000 then (atI z.cps.toList i).map fun c => .val (.str ⟨#[c]⟩) else none := rfl
theorem atN {α : Type} (xs : List α) (i : Nat) : atI xs (i : Int) = xs[i]? := by
  unfold atI ixN
  rw [if_pos (by omega)]
  by_cases h : i < xs.length
  · rw [if_pos (by omega)]; simp
  · rw [if_neg (by omega)]; simp [List.getElem?_eq_none (by omega : xs.length ≤ i)]
theorem atI_int {α : Type} (xs : List α) {i : Int} (h : 0 ≤ i) : atI xs i = xs[i.toNat]? := by
  have := atN xs i.toNat
  rwa [Int.toNat_of_nonneg h] at this
theorem atI_last {α : Type} (xs : List α) : atI xs (-1) = xs.getLast? := by
  unfold atI ixN
  rw [if_neg (by omega)]
  rw [List.getLast?_eq_getElem?]
  by_cases h : xs = []
  · subst h; rfl
  · have : 0 < xs.length := List.length_pos_iff.mpr h
    rw [if_pos (by omega)]
    simp only [Option.bind_some]
    congr 1
    omega
end M3


namespace M3
open PySem L2
section
variable {α β γ : Type} {k : Res α → Prop} {kw : Res W → Prop} {ks : SRes → Prop} {st : Store} {u : Sl3} {m a b : EM} {g : GM}
@[simp] theorem run_eM1 (g : Str → W → Option W) : run (eM1 g a b u st) kw = run (a u st) (kBind (fun x => M.bind (M.of x.str?) fun z => M.bind (b u) fun y => M.of (g z y)) kw) := run_bind _ _
@[simp] theorem run_eCnt : run (eCnt a b u st) kw = run (a u st) (kBind (fun x => M.bind (M.of x.tup?) fun xs => M.bind (b u) fun y => M.of (cntF xs y)) kw) := run_bind _ _
def kNeg (k : Res W → Prop) : Res W → Prop
  | .ok (.val (.int i)) st => k (.ok (.val (.int (-i))) st)
  | .ok _ _ => k .bad
  | .err c x st => k (.err c x st)
  | .bad => k .bad
@[simp] theorem kNeg_ok (i) : kNeg kw (.ok (.val (.int i)) st) = kw (.ok (.val (.int (-i))) st) := rfl
@[simp] theorem run_eNeg : run (eNeg a u st) kw = run (a u st) (kNeg kw) := by
  unfold run eNeg M.bind kNeg
  cases a u st with
  | ok w st' => cases w with
    | val d => cases d <;> rfl
    | _ => rfl
  | _ => rfl
@[simp] theorem str?_str (x : Str) : (W.val (.str x)).str? = some x := rfl
@[simp] theorem tup?_tup (xs : List D) : (W.val (.tup xs)).tup? = some xs := rfl
@[simp] theorem startsF_str (x y : Str) : startsF x (.val (.str y)) = some (.val (.bl (Txt.startswith x y))) := rfl
@[simp] theorem splitF_str (x y : Str) : splitF x (.val (.str y)) = if y.length ≠ 0 ∧ x.length ≤ 900000 then some (.val (.lst ((Txt.split x y).map .str))) else none := rfl
theorem strs_map : ∀ xs : List Str, D.strs (xs.map .str) = some xs
  | [] => rfl
  | x :: xs => by rw [List.map_cons, D.strs, strs_map xs]; rfl
@[simp] theorem joinF_strs (x : Str) (xs : List Str) : joinF x (.val (.lst (xs.map .str))) = if (xs.map (·.length)).sum + xs.length * x.length ≤ 1000000 then some (.val (.str (Txt.join x xs))) else none := by
  show (D.strs (xs.map .str)).bind _ = _
  rw [strs_map]; rfl
theorem bls_map : ∀ xs : List Bool, D.bls (xs.map .bl) = some xs
  | [] => rfl
  | x :: xs => by rw [List.map_cons, D.bls, bls_map xs]; rfl
@[simp] theorem allF_bls (xs : List Bool) : allF [.val (.lst (xs.map .bl))] = some (.val (.bl (xs.all id))) := by
  show (D.bls (xs.map .bl)).map _ = _
  rw [bls_map]; rfl
@[simp] theorem anyF_bls (xs : List Bool) : anyF [.val (.lst (xs.map .bl))] = some (.val (.bl (xs.any id))) := by
  show (D.bls (xs.map .bl)).map _ = _
  rw [bls_map]; rfl
theorem bls_mapF {α : Type} (f : α → Bool) (xs : List α) : (xs.map fun x => D.bl (f x)) = (xs.map f).map .bl := by rw [List.map_map]; rfl
@[simp] theorem allF_mapF {α : Type} (f : α → Bool) (xs : List α) : allF [.val (.lst (xs.map fun x => D.bl (f x)))] = some (.val (.bl (xs.all f))) := by
  rw [bls_mapF, allF_bls, List.all_map]; rfl
@[simp] theorem anyF_mapF {α : Type} (f : α → Bool) (xs : List α) : anyF [.val (.lst (xs.map fun x => D.bl (f x)))] = some (.val (.bl (xs.any f))) := by
  rw [bls_mapF, anyF_bls, List.any_map]; rfl
@[simp] theorem inF_sign (neg : Bool) (c : Nat) (b : Str) : inF neg (.val (.str ⟨#[c]⟩)) (.val (.str b)) = some (.val (.bl (if neg then !decide (c ∈ b.cps.toList) else decide (c ∈ b.cps.toList)))) := rfl
/-! statements -/
@[simp] theorem srun_sFrz (i : Nat) (xs : List D) (h : u[i]? = some (some (.bor xs))) : srun (sFrz i u st) ks = ks (.nx (u.set i (some (.val (.lst xs)))) st) := by
  unfold srun sFrz; rw [h]
def kAsg (g : GM) (u : Sl3) (ks : SRes → Prop) : Res W → Prop
  | .ok (.val d) st => (match g d u with
    | some u' => ks (.nx u' st)
    | none => ks .bad)
  | .ok _ _ => ks .bad
  | .err c x st => ks (.err c x u st)
  | .bad => ks .bad
def kAsg2 (st : Store) (ks : SRes → Prop) : Option Sl3 → Prop
  | some u' => ks (.nx u' st)
  | none => ks .bad
@[simp] theorem kAsg2_some (u') : kAsg2 st ks (some u') = ks (.nx u' st) := rfl
@[simp] theorem kAsg_ok (d : D) : kAsg g u ks (.ok (.val d) st) = kAsg2 st ks (g d u) := by unfold kAsg kAsg2; rfl
@[simp] theorem srun_sAsg : srun (sAsg m g u st) ks = run (m u st) (kAsg g u ks) := by
  unfold srun sAsg run kAsg
  cases m u st with
  | ok w st' => cases w with
    | val d => dsimp only; cases g d u <;> rfl
    | _ => rfl
  | _ => rfl
@[simp] theorem srun_sPop (i : Nat) (xs : List D) (h : u[i]? = some (some (.bor xs))) : srun (sPop i u st) ks = if xs.isEmpty = true then ks .bad else ks (.nx (u.set i (some (.bor xs.dropLast))) st) := by
  unfold srun sPop; rw [h]; dsimp only; split <;> rfl
end
end M3


/-! running what the later rules brought -/
namespace M3
open PySem L2
section
variable {α β γ : Type} {k : Res α → Prop} {kw : Res W → Prop} {kf : Res (List D) → Prop} {ks : SRes → Prop} {kd : Res D → Prop} {st : Store} {u : Sl3} {m a b mo : EM} {ma mk : AM} {g : GM}
/-! objects -/
def kIns (st : Store) (k : Res (Nat × String × List (Str × D)) → Prop) (i : Nat) : Option MO → Prop
  | some (.ins c fs) => k (.ok (i, c, fs) st)
  | _ => k .bad
@[simp] theorem kIns_ins {k} (i c fs) : kIns st k i (some (.ins c fs)) = k (.ok (i, c, fs) st) := rfl
@[simp] theorem run_insOf (i : Nat) (k) : run (insOf (.val (.ref i)) st) k = kIns st k i st[i]? := by
  unfold run insOf kIns
  dsimp only
  cases st[i]? with
  | none => rfl
  | some o => cases o <;> rfl
@[simp] theorem run_eFld (cs : List String) (f : Str) : run (eFld cs f m u st) kw = run (m u st) (kBind (fun w => M.bind (insOf w) fun q => M.bind (M.chk (q.2.1 ∈ cs)) fun _ => M.bind (M.of (q.2.2.lookup f)) fun d => M.pure (.val d)) kw) := run_bind _ _
def kNx (u : Sl3) (k : SRes → Prop) : Res Unit → Prop
  | .ok _ st => k (.nx u st)
  | .err c x st => k (.err c x u st)
  | .bad => k .bad
@[simp] theorem kNx_ok (x) : kNx u ks (.ok x st) = ks (.nx u st) := rfl
@[simp] theorem kNx_err (c x) : kNx u ks (.err c x st) = ks (.err c x u st) := rfl
@[simp] theorem kNx_bad : kNx u ks .bad = ks .bad := rfl
@[simp] theorem run_sFldS (cs : List String) (f : Str) : srun (sFldS cs f mo m u st) ks = run (m u st) (kBind (fun w => M.bind (M.of w.d) fun d => M.bind (mo u) fun x => M.bind (insOf x) fun q => M.bind (M.chk (q.2.1 ∈ cs ∧ q.2.2.length < 500)) fun _ => fun st => .ok () (st.set q.1 (.ins q.2.1 (put3 f d q.2.2)))) (kNx u ks)) := by
  rw [← run_bind]
  unfold srun sFldS run kNx
  cases (M.bind (m u) (fun w => M.bind (M.of w.d) fun d => M.bind (mo u) fun x => M.bind (insOf x) fun q => M.bind (M.chk (q.2.1 ∈ cs ∧ q.2.2.length < 500)) fun _ => fun st => Res.ok () (st.set q.1 (.ins q.2.1 (put3 f d q.2.2)))) st) <;> rfl
@[simp] theorem run_fun (f : Store → Res α) : run ((fun st => f st) st) k = run (f st) k := rfl
/-- C(..) -/
def kMade (i : Nat) (k : Res W → Prop) : Res D → Prop
  | .ok .non st => k (.ok (.val (.ref i)) st)
  | .ok _ _ => k .bad
  | .err c x st => k (.err c x st)
  | .bad => k .bad
@[simp] theorem kMade_non (i) : kMade i kw (.ok .non st) = kw (.ok (.val (.ref i)) st) := rfl
@[simp] theorem kMade_err (i c x) : kMade i kw (.err c x st) = kw (.err c x st) := rfl
@[simp] theorem run_mMake (c : String) (mf : List D → M D) (ds : List D) : run (mMake c mf ds st) kw = run (mf (.ref st.length :: ds) (st ++ [.ins c []])) (kMade st.length kw) := by
  unfold run mMake kMade
  cases mf (.ref st.length :: ds) (st ++ [.ins c []]) with
  | ok d st' => cases d <;> rfl
  | _ => rfl
@[simp] theorem run_eMk3 (c : String) (n : Nat) (dd : List D) (mf : List D → M D) : run (eMk3 c n dd mf ma u st) kw = run (ma u st) (kBind (fun ws => M.bind (M.of (asDs ws)) fun ds => M.bind (M.chk (ds.length = n)) fun _ => mMake c mf (ds ++ dd)) kw) := run_bind _ _
@[simp] theorem run_eMkK (c : String) (n k : Nat) (arr) (mf : List D → M D) : run (eMkK c n k arr mf ma mk u st) kw = run (ma u st) (kBind (fun ws => M.bind (mk u) fun zs => M.bind (M.of (asDs ws)) fun ds => M.bind (M.of (asDs zs)) fun es => M.bind (M.chk (ds.length = n ∧ es.length = k)) fun _ => mMake c mf (arr ds es)) kw) := run_bind _ _
@[simp] theorem run_eCallK (n k N : Nat) (arr) (mf : List D → M D) : run (eCallK n k N arr mf ma mk u st) kw = run (ma u st) (kBind (fun ws => M.bind (mk u) fun zs => M.bind (M.of (asDs ws)) fun ds => M.bind (M.of (asDs zs)) fun es => M.bind (M.chk (ds.length = n ∧ es.length = k ∧ (arr ds es).length = N)) fun _ => M.bind (mf (arr ds es)) fun d => M.pure (.val d)) kw) := run_bind _ _
@[simp] theorem run_eMeth (f : Str) (n : Nat) (tab : List (String × (List D → M D))) : run (eMeth f n tab mo ma u st) kw = run (mo u st) (kBind (fun w => M.bind (insOf w) fun q => M.bind (M.chk (q.2.2.lookup f = none)) fun _ => M.bind (M.of (tab.lookup q.2.1)) fun mf =>
  M.bind (ma u) fun ws => M.bind (M.of (asDs ws)) fun ds => M.bind (M.chk (ds.length = n)) fun _ => M.bind (mf (.ref q.1 :: ds)) fun d => M.pure (.val d)) kw) := run_bind _ _
@[simp] theorem run_eProp (c : String) (mf : List D → M D) : run (eProp c mf mo u st) kw = run (mo u st) (kBind (fun w => M.bind (insOf w) fun q => M.bind (M.chk (q.2.1 = c)) fun _ => M.bind (M.quiet (mf [.ref q.1])) fun d => M.pure (.val d)) kw) := run_bind _ _
@[simp] theorem run_eNewDD : run (eNewDD u st) kw = kw (.ok (.val (.ref st.length)) (st ++ [.ddi [] []])) := rfl
/-! exceptions -/
@[simp] theorem run_sRaise (c) : srun (sRaise c u st) ks = ks (.err c .non u st) := rfl
@[simp] theorem run_sBad : srun (sBad u st) ks = ks .bad := rfl
def kTry0 (k : SRes → Prop) : SRes → Prop
  | .err _ _ _ _ => k .bad
  | r => k r
@[simp] theorem kTry0_nx : kTry0 ks (.nx u st) = ks (.nx u st) := rfl
@[simp] theorem kTry0_rt (w) : kTry0 ks (.rt w st) = ks (.rt w st) := rfl
@[simp] theorem run_sTry0 (s : SM) : srun (sTry0 s u st) ks = srun (s u st) (kTry0 ks) := by unfold srun sTry0 kTry0; cases s u st <;> rfl
def kTry (i : Option Nat) (sub : String → Option Bool) (ms : SM) (k : SRes → Prop) : SRes → Prop
  | .err c x u st => srun (match sub c with
    | some true => if noExn u = true then sSuite i ms c x u st else .bad
    | some false => .err c x u st
    | none => .bad) k
  | r => k r
@[simp] theorem kTry_nx (i sub ms) : kTry i sub ms ks (.nx u st) = ks (.nx u st) := rfl
@[simp] theorem kTry_rt (i sub ms w) : kTry i sub ms ks (.rt w st) = ks (.rt w st) := rfl
@[simp] theorem kTry_bk (i sub ms) : kTry i sub ms ks (.bk u st) = ks (.bk u st) := rfl
@[simp] theorem kTry_ct (i sub ms) : kTry i sub ms ks (.ct u st) = ks (.ct u st) := rfl
@[simp] theorem kTry_err (i sub ms c x) : kTry i sub ms ks (.err c x u st) = srun (match sub c with
    | some true => if noExn u = true then sSuite i ms c x u st else .bad
    | some false => .err c x u st
    | none => .bad) ks := rfl
@[simp] theorem run_sTry (i sub) (mb ms : SM) : srun (sTry i sub mb ms u st) ks = srun (mb u st) (kTry i sub ms ks) := by unfold srun sTry kTry; cases mb u st <;> rfl
def kSuite (i : Option Nat) (k : SRes → Prop) : SRes → Prop
  | .nx u2 st2 => if noExn (match i with | some i => u2.set i none | none => u2) = true then k (.nx (match i with | some i => u2.set i none | none => u2) st2) else k .bad
  | .bk u2 st2 => if noExn (match i with | some i => u2.set i none | none => u2) = true then k (.bk (match i with | some i => u2.set i none | none => u2) st2) else k .bad
  | .ct u2 st2 => if noExn (match i with | some i => u2.set i none | none => u2) = true then k (.ct (match i with | some i => u2.set i none | none => u2) st2) else k .bad
  | .rt w st2 => k (.rt w st2)
  | _ => k .bad
@[simp] theorem kSuite_rt (i w) : kSuite i ks (.rt w st) = ks (.rt w st) := rfl
@[simp] theorem kSuite_nx (i) : kSuite i ks (.nx u st) = if noExn (match i with | some i => u.set i none | none => u) = true then ks (.nx (match i with | some i => u.set i none | none => u) st) else ks .bad := rfl
@[simp] theorem run_sSuite (i : Option Nat) (ms : SM) (c x) : srun (sSuite i ms c x u st) ks = srun (ms (match i with | some i => u.set i (some (.exn c x)) | none => u) st) (kSuite i ks) := by
  unfold srun sSuite kSuite
  dsimp only
  cases i <;> (dsimp only; generalize ms _ st = r; cases r <;> (try rfl) <;> (dsimp only; split <;> rfl))
def kIsE (tab : String → Option Bool) (st : Store) (k : Res W → Prop) : Option (Option W) → Prop
  | some (some (.exn c _)) => (match tab c with
    | some b => k (.ok (.val (.bl b)) st)
    | none => k .bad)
  | _ => k .bad
@[simp] theorem run_eIsE (i : Nat) (tab) : run (eIsE i tab u st) kw = kIsE tab st kw u[i]? := by
  unfold run eIsE kIsE
  cases u[i]? with
  | none => rfl
  | some o =>
    cases o with
    | none => rfl
    | some w =>
      cases w with
      | exn c x => dsimp only; cases tab c <;> rfl
      | _ => rfl
@[simp] theorem kIsE_exn (tab) (c x) : kIsE tab st kw (some (some (.exn c x))) = (match tab c with
    | some b => kw (.ok (.val (.bl b)) st)
    | none => kw .bad) := rfl
/-! dicts -/
@[simp] theorem run_sOwnD (i : Nat) : srun (sOwnD i u st) ks = ks (.nx (u.set i (some (.bod [] []))) st) := rfl
@[simp] theorem run_sOwnDD (i : Nat) : srun (sOwnDD i u st) ks = ks (.nx (u.set i (some (.bdd [] []))) st) := rfl
theorem run_sFrzD (i : Nat) {xs us} (h : u[i]? = some (some (.bod xs us))) : srun (sFrzD i u st) ks = ks (.nx (u.set i (some (.val (.dict xs us)))) st) := by unfold srun sFrzD; rw [h]
theorem run_sFrzDD (i : Nat) {xs us} (h : u[i]? = some (some (.bdd xs us))) : srun (sFrzDD i u st) ks = ks (.nx (u.set i (some (.val (.dd xs us)))) st) := by unfold srun sFrzDD; rw [h]
theorem run_sRetD (i : Nat) {xs us} (h : u[i]? = some (some (.bod xs us))) : srun (sRetD i u st) ks = ks (.rt (.val (.dict xs us)) st) := by unfold srun sRetD; rw [h]
/-- the key of d[k] = e -/
def kPutK (i : Nat) (u : Sl3) (ds : List Key) (us : List D) (d : D) (k : SRes → Prop) : Res W → Prop
  | .ok (.val kd) st => (match kd.key with
    | some x => if ds.length < 1000000 then k (.nx (u.set i (some (.bod (putK3 ds us x d).1 (putK3 ds us x d).2))) st) else k .bad
    | none => k .bad)
  | .err c x st => k (.err c x u st)
  | _ => k .bad
def kSetK (i : Nat) (mi : EM) (u : Sl3) (ds : List Key) (us : List D) (k : SRes → Prop) : Res W → Prop
  | .ok (.val d) st => run (mi u st) (kPutK i u ds us d k)
  | .err c x st => k (.err c x u st)
  | _ => k .bad
@[simp] theorem kPutK_str (i ds us d) (z : Str) : kPutK i u ds us d ks (.ok (.val (.str z)) st) = if ds.length < 1000000 then ks (.nx (u.set i (some (.bod (putK3 ds us (.inr z) d).1 (putK3 ds us (.inr z) d).2))) st) else ks .bad := rfl
@[simp] theorem kSetK_ok (i mi ds us d) : kSetK i mi u ds us ks (.ok (.val d) st) = run (mi u st) (kPutK i u ds us d ks) := rfl
theorem run_sSetK (i : Nat) (mi me : EM) {ds us} (h : u[i]? = some (some (.bod ds us))) : srun (sSetK i mi me u st) ks = run (me u st) (kSetK i mi u ds us ks) := by
  unfold srun sSetK kSetK run kPutK
  rw [h]
  dsimp only
  cases me u st with
  | ok w st1 =>
    cases w with
    | val d =>
      dsimp only
      cases mi u st1 with
      | ok w2 st2 =>
        cases w2 with
        | val kd =>
          dsimp only
          cases kd.key with
          | none => rfl
          | some x => dsimp only; split <;> rfl
        | _ => rfl
      | _ => rfl
    | _ => rfl
  | _ => rfl
def kPutDD (i : Nat) (u : Sl3) (xs us : List D) (d : D) (k : SRes → Prop) : Res W → Prop
  | .ok (.val kd) st => (match kd.tk with
    | some x => if xs.length < 1000000 then k (.nx (u.set i (some (.bdd (ddPut xs us kd x d).1 (ddPut xs us kd x d).2))) st) else k .bad
    | none => k .bad)
  | .err c x st => k (.err c x u st)
  | _ => k .bad
def kSetDD (i : Nat) (mi : EM) (u : Sl3) (xs us : List D) (k : SRes → Prop) : Res W → Prop
  | .ok (.val d) st => run (mi u st) (kPutDD i u xs us d k)
  | .err c x st => k (.err c x u st)
  | _ => k .bad
theorem kPutDD_ok (i xs us d) (kd : D) {x} (e : kd.tk = some x) : kPutDD i u xs us d ks (.ok (.val kd) st) = if xs.length < 1000000 then ks (.nx (u.set i (some (.bdd (ddPut xs us kd x d).1 (ddPut xs us kd x d).2))) st) else ks .bad := by unfold kPutDD; dsimp only; rw [e]
@[simp] theorem kSetDD_ok (i mi xs us d) : kSetDD i mi u xs us ks (.ok (.val d) st) = run (mi u st) (kPutDD i u xs us d ks) := rfl
theorem run_sSetDD (i : Nat) (mi me : EM) {xs us} (h : u[i]? = some (some (.bdd xs us))) : srun (sSetDD i mi me u st) ks = run (me u st) (kSetDD i mi u xs us ks) := by
  unfold srun sSetDD kSetDD run kPutDD
  rw [h]
  dsimp only
  cases me u st with
  | ok w st1 =>
    cases w with
    | val d =>
      dsimp only
      cases mi u st1 with
      | ok w2 st2 =>
        cases w2 with
        | val kd =>
          dsimp only
          cases kd.tk with
          | none => rfl
          | some x => dsimp only; split <;> rfl
        | _ => rfl
      | _ => rfl
    | _ => rfl
  | _ => rfl
@[simp] theorem run_eInDD (neg : Bool) : run (eInDD neg a b u st) kw = run (a u st) (kBind (fun k => M.bind (b u) fun d => M.bind (M.of k.d) fun kd => M.bind (M.of kd.tk) fun x => M.bind (ddOf d) fun q => M.pure (.val (.bl (if neg then !ddHas q.1 x else ddHas q.1 x)))) kw) := run_bind _ _
@[simp] theorem run_eGetDD : run (eGetDD a b u st) kw = run (a u st) (kBind (fun d => M.bind (b u) fun k => M.bind (M.of k.d) fun kd => M.bind (M.of kd.tk) fun x => M.bind (ddOf d) fun q => M.bind (M.of (ddAt q.1 q.2 x)) fun y => M.pure (.val y)) kw) := run_bind _ _
@[simp] theorem run_ddOf_dd (xs us) (k) : run (ddOf (.val (.dd xs us)) st) k = k (.ok (xs, us) st) := rfl
@[simp] theorem run_ddOf_bdd (xs us) (k) : run (ddOf (.bdd xs us) st) k = k (.ok (xs, us) st) := rfl
def kDdi (st : Store) (k : Res (List D × List D) → Prop) : Option MO → Prop
  | some (.ddi ks us) => k (.ok (ks, us) st)
  | _ => k .bad
@[simp] theorem kDdi_ddi {k} (xs us) : kDdi st k (some (.ddi xs us)) = k (.ok (xs, us) st) := rfl
@[simp] theorem run_ddOf_ref (i : Nat) (k) : run (ddOf (.val (.ref i)) st) k = kDdi st k st[i]? := by
  unfold run ddOf kDdi
  dsimp only
  cases st[i]? with
  | none => rfl
  | some o => cases o <;> rfl
@[simp] theorem run_iKeysDD (xs us) (h : m u st = .ok (.val (.dd xs us)) st) : run (iKeysDD m u st) kf = kf (.ok xs st) := by unfold run iKeysDD M.bind; rw [h]; rfl
@[simp] theorem run_eDc {mi : FM} {c : TM} {own : List Nat} : run (eDc mi g c a b own u st) kw = run (mi u st) (kBind (fun ds => M.bind (dcL g c a b (wipe3 u own) ds [] []) fun q => M.pure (.val (.dd q.1 q.2))) kw) := run_bind _ _
@[simp] theorem dcL_nil {c : TM} {u0 : Sl3} (xs us) : dcL g c a b u0 [] xs us = M.pure (xs, us) := rfl
def kAug (i : Nat) (u : Sl3) (k : SRes → Prop) : Res W → Prop
  | .ok (.val d) st => k (.nx (u.set i (some (.val d))) st)
  | .err c x st => k (.err c x u st)
  | _ => k .bad
@[simp] theorem kAug_ok (i d) : kAug i u ks (.ok (.val d) st) = ks (.nx (u.set i (some (.val d))) st) := rfl
theorem run_sAug (i : Nat) (f : W → W → Option W) {w : W} (h : u[i]? = some (some w)) : srun (sAug i f m u st) ks = run (m u st) (kBind (fun y => M.of (f w y)) (kAug i u ks)) := by
  rw [← run_bind]
  unfold srun sAug run kAug
  rw [h]
  dsimp only
  generalize M.bind (m u) (fun y => M.of (f w y)) st = r
  cases r with
  | ok w st' => cases w <;> rfl
  | _ => rfl
@[simp] theorem addI_int (i j : Int) : addI (.val (.int i)) (.val (.int j)) = some (.val (.int (i + j))) := rfl
@[simp] theorem subI_int (i j : Int) : subI (.val (.int i)) (.val (.int j)) = some (.val (.int (i - j))) := rfl
@[simp] theorem run_sSetDS (mi : EM) : srun (sSetDS mo mi m u st) ks = run (m u st) (kBind (fun w => M.bind (M.of w.d) fun d => M.bind (mo u) fun ow => M.bind (mi u) fun k => M.bind (M.of k.d) fun kd => M.bind (M.of kd.tk) fun x => M.bind (ddOf ow) fun q => M.bind (M.chk (q.1.length < 1000000)) fun _ => fun st => match ow with
    | .val (.ref j) => .ok () (st.set j (.ddi (ddPut q.1 q.2 kd x d).1 (ddPut q.1 q.2 kd x d).2))
    | _ => .bad) (kNx u ks)) := by
  rw [← run_bind]
  unfold srun sSetDS run kNx
  generalize (M.bind (m u) _) st = r
  cases r <;> rfl
end
/-! values -/
@[simp] theorem atI_l0 {α : Type} (xs : List α) : atI xs 0 = xs[0]? := atI_int xs (by decide)
@[simp] theorem atI_l1 {α : Type} (xs : List α) : atI xs 1 = xs[1]? := atI_int xs (by decide)
@[simp] theorem atI_l2 {α : Type} (xs : List α) : atI xs 2 = xs[2]? := atI_int xs (by decide)
@[simp] theorem atI_l3 {α : Type} (xs : List α) : atI xs 3 = xs[3]? := atI_int xs (by decide)
@[simp] theorem atI_l4 {α : Type} (xs : List α) : atI xs 4 = xs[4]? := atI_int xs (by decide)
@[simp] theorem atI_l5 {α : Type} (xs : List α) : atI xs 5 = xs[5]? := atI_int xs (by decide)
@[simp] theorem atI_l6 {α : Type} (xs : List α) : atI xs 6 = xs[6]? := atI_int xs (by decide)
@[simp] theorem atI_l7 {α : Type} (xs : List α) : atI xs 7 = xs[7]? := atI_int xs (by decide)
@[simp] theorem atI_l8 {α : Type} (xs : List α) : atI xs 8 = xs[8]? := atI_int xs (by decide)
@[simp] theorem atI_l9 {α : Type} (xs : List α) : atI xs 9 = xs[9]? := atI_int xs (by decide)
@[simp] theorem atI_l10 {α : Type} (xs : List α) : atI xs 10 = xs[10]? := atI_int xs (by decide)
@[simp] theorem atI_l11 {α : Type} (xs : List α) : atI xs 11 = xs[11]? := atI_int xs (by decide)
@[simp] theorem atI_l12 {α : Type} (xs : List α) : atI xs 12 = xs[12]? := atI_int xs (by decide)
@[simp] theorem atI_l13 {α : Type} (xs : List α) : atI xs 13 = xs[13]? := atI_int xs (by decide)
@[simp] theorem atI_l14 {α : Type} (xs : List α) : atI xs 14 = xs[14]? := atI_int xs (by decide)
@[simp] theorem atI_l15 {α : Type} (xs : List α) : atI xs 15 = xs[15]? := atI_int xs (by decide)
@[simp] theorem isi2F_tup (xs : List D) (T) : isi2F [.val (.tup xs), .val (.ty T)] = isiF [.val (.tup xs), .val (.ty T)] := rfl
@[simp] theorem isi2F_ctup (xs : List D) (T) : isi2F [.val (.ctup xs), .val (.ty T)] = isiF [.val (.ctup xs), .val (.ty T)] := rfl
@[simp] theorem isi2F_lst (xs : List D) (T) : isi2F [.val (.lst xs), .val (.ty T)] = isiF [.val (.lst xs), .val (.ty T)] := rfl
@[simp] theorem isi2F_str (x : Str) (T) : isi2F [.val (.str x), .val (.ty T)] = isiF [.val (.str x), .val (.ty T)] := rfl
theorem kit_dict : kitB "dict" "dict" = some true := by decide +kernel
theorem kit_list : kitB "list" "list" = some true := by decide +kernel
theorem kit_str : kitB "str" "str" = some true := by decide +kernel
theorem kit_tup : kitB "tuple" "tuple" = some true := by decide +kernel
@[simp] theorem isi2F_dd (xs us : List D) : isi2F [.val (.dd xs us), .val (.ty "dict")] = some (.val (.bl true)) := by unfold isi2F; simp [kit_dict]
@[simp] theorem isiF_lst (xs : List D) : isiF [.val (.lst xs), .val (.ty "list")] = some (.val (.bl true)) := by unfold isiF; simp [D.tyn, kit_list]
@[simp] theorem isiF_str (x : Str) : isiF [.val (.str x), .val (.ty "str")] = some (.val (.bl true)) := by unfold isiF; simp [D.tyn, kit_str]
@[simp] theorem isiF_ctup (xs : List D) : isiF [.val (.ctup xs), .val (.ty "tuple")] = some (.val (.bl true)) := by unfold isiF; simp [D.tyn, kit_tup]
@[simp] theorem dgF_str (xs : List Key) (us : List D) (z : Str) : dgF (.val (.dict xs us)) (.val (.str z)) = (atK xs us (.inr z)).map .val := by
  show ((some (atK xs us (.inr z) : Option D)).bind fun o => o.map W.val) = _
  rfl
@[simp] theorem dgF_bod (xs : List Key) (us : List D) (z : Str) : dgF (.bod xs us) (.val (.str z)) = (atK xs us (.inr z)).map .val := by
  show ((some (atK xs us (.inr z) : Option D)).bind fun o => o.map W.val) = _
  rfl
theorem lists_map : ∀ xss : List (List D), D.lists (xss.map .lst) = some xss
  | [] => rfl
  | xs :: xss => by rw [List.map_cons, D.lists, lists_map xss]; rfl
@[simp] theorem sumLF_lists (xss : List (List D)) : sumLF [.val (.lst (xss.map .lst)), .val (.lst [])] = if xss.flatten.length ≤ 1000000 then some (.val (.lst xss.flatten)) else none := by
  show (D.lists (xss.map .lst)).bind _ = _
  rw [lists_map]; rfl
end M3


namespace M3
open PySem PySem.Spec PyProof.Rows L2
/-! ### dict displays -/
abbrev QM := Sl3 → M (List (D × D))
inductive RepPs (K : KW) (F : Hp) (io : Io) : List (D × D) → List (V × V) → Prop where
  | nil : RepPs K F io [] []
  | cons {k v x y ps qs} : Rep K F io k x → Rep K F io v y → RepPs K F io ps qs → RepPs K F io ((k, v) :: ps) ((x, y) :: qs)
theorem RepPs.length {K : KW} {F : Hp} {io : Io} : ∀ {ps qs}, RepPs K F io ps qs → ps.length = qs.length
  | _, _, .nil => rfl
  | _, _, .cons _ _ t => congrArg Nat.succ (RepPs.length t)
structure MQ (P : P3) (pos : Pos) (keys : List (Option Expr)) (values : List Expr) (m : QM) : Prop where
  out : ∃ trs, PPs P.X pos keys values trs ∧ ∀ (B0 B : Addr → Prop) (s : S3) (st : Store) (u : Sl3) (z : L2.St) (Q : List (V × V) → Hp → Prop), Wd P.G B st s → Slo P.G P.hx B0 B s u z →
    Post P.G B (fun s => RepPs P.G.R s.F s.io) (fun c d H => P.wx c d z H) s Q (m u st) → tPairs trs z s.H Q
def qNil : QM := fun _ => M.pure []
def qCons (mk mv : EM) (q : QM) : QM := fun u => M.bind (mk u) fun k => M.bind (M.of k.d) fun kd => M.bind (mv u) fun v => M.bind (M.of v.d) fun vd => M.bind (q u) fun ps => M.pure ((kd, vd) :: ps)
section
variable {P : P3} {pos : Pos}
theorem mq_nil : MQ P pos [] [] qNil := ⟨_, pps_nil, fun B0 B s st u z Q wd sl h => h.pure wd .nil⟩
theorem mq_cons {k v : Expr} {ks : List (Option Expr)} {vs : List Expr} {mk mv : EM} {q : QM} (hk : ME P k mk) (hv : ME P v mv) (hr : MQ P pos ks vs q) : MQ P pos (some k :: ks) (v :: vs) (qCons mk mv q) := by
  obtain ⟨tk, pk, hk⟩ := hk.out
  obtain ⟨tv, pv, hv⟩ := hv.out
  obtain ⟨tr, pr, hr⟩ := hr.out
  refine ⟨_, pps_cons pk pv pr, fun B0 B s st u z Q wd sl h => hk B0 B s st u z _ wd sl (Post.bind h fun kw st1 s1 x l1 wd1 r1 h1 => ?_)⟩
  obtain ⟨kd, ek, h1⟩ := Post.of_of h1
  refine hv B0 B s1 st1 u z _ wd1 (sl.mono l1) (Post.bind h1 fun vw st2 s2 y l2 wd2 r2 h2 => ?_)
  obtain ⟨vd, ev, h2⟩ := Post.of_of h2
  refine hr B0 B s2 st2 u z _ wd2 ((sl.mono l1).mono l2) (Post.bind h2 fun ps st3 s3 qs l3 wd3 r3 h3 => ?_)
  cases d_val ek
  cases d_val ev
  exact h3.pure wd3 (.cons (Rep.mono (l2.trans l3).fr (l2.trans l3).io r1) (Rep.mono l3.fr l3.io r2) r3)
end
/-- keys that are texts or numbers -/
def dkAll : List (D × D) → List Key → List D → Option (List Key × List D)
  | [], ks, us => some (ks, us)
  | (k, v) :: r, ks, us => k.key.bind fun x => dkAll r (putK3 ks us x v).1 (putK3 ks us x v).2
theorem dkAll_ok {K : KW} {F : Hp} {io : Io} : ∀ {ps : List (D × D)} {qs : List (V × V)} {kvs : List (Key × V)} {us : List D} {r : List Key × List D}, RepPs K F io ps qs → RepL K F io us (kvs.map (·.2)) → dkAll ps (kvs.map (·.1)) us = some r →
    ∃ more : List (Key × V), qs = more.map (fun kv => (kV kv.1, kv.2)) ∧ (mergeK kvs more).map (·.1) = r.1 ∧ RepL K F io r.2 ((mergeK kvs more).map (·.2))
  | [], _, kvs, us, r, .nil, rl, e => by cases e; exact ⟨[], rfl, rfl, rl⟩
  | (k, v) :: ps, _, kvs, us, r, .cons (x := x) (y := y) rk rv t, rl, e => by
    unfold dkAll at e
    cases ek : k.key with
    | none => rw [ek] at e; cases e
    | some z =>
      rw [ek] at e
      obtain rfl := key_ok rk ek
      obtain ⟨q1, q2⟩ := putK3_ok z rv rl
      replace e : dkAll ps (putK3 (kvs.map (·.1)) us z v).1 (putK3 (kvs.map (·.1)) us z v).2 = some r := e
      rw [← q1] at e
      obtain ⟨more, e1, e2, e3⟩ := dkAll_ok t q2 e
      exact ⟨(z, y) :: more, by rw [e1]; rfl, e2, e3⟩
def eDsp (q : QM) : EM := fun u => M.bind (M.quiet (q u)) fun ps => M.bind (M.chk (ps.length ≤ 15)) fun _ => M.bind (M.of (dkAll ps [] [])) fun r => M.pure (.val (.dict r.1 r.2))
section
variable {P : P3} {pos : Pos}
theorem me_dsp {keys : List (Option Expr)} {values : List Expr} {q : QM} (h : MQ P pos keys values q) (hall : keys.all (·.isSome) = true := by rfl) (hl : keys.length = values.length := by rfl) (h0 : keys ≠ [] := by intro e; cases e) (h15 : keys.length ≤ 15 := by decide) :
    ME P (.Dict keys values pos) (eDsp q) := by
  obtain ⟨trs, pp, ht⟩ := h.out
  refine ME.mk' (pe_lockOn (pe_disp pp hall hl h0 h15)) fun B0 B s st u z Q wd sl h => ?_
  obtain ⟨ps, st1, eq, h1⟩ := of_quietE h
  intro p hp
  obtain ⟨wd2, l2⟩ := own_wd (ho := .dK []) wd hp
  have nb : ¬ B p := wd.freshB hp
  refine ht B0 (plus B p) _ st u z _ wd2 ((sl.mono' l2).more fun a b => .inl b) ?_
  rw [eq]
  intro s3 qs l3 w3 r3
  have hq : s3.H p = some (.dK []) := (l3.hid p (.inr rfl)).trans upd_same
  obtain ⟨hz, h2⟩ := Post.of_chk h1
  obtain ⟨r, er, h3⟩ := Post.of_of h2
  obtain ⟨more, e1, e2, e3⟩ := dkAll_ok (kvs := []) r3 .nil er
  subst e1
  refine ⟨hq, more, rfl, by have := r3.length; simp at this; omega, p, _, rfl, upd_same, True.intro, fun od => ?_⟩
  rw [upd_upd]
  have hF := (w3.hid p (.inr rfl)).1
  have wd1 : Wd P.G B st1 ⟨s3.io, upd s3.F p (.frz od (.dK (mergeK [] more))), upd s3.H p (.frz od (.dK (mergeK [] more)))⟩ := freeze_wd (own_put w3 nb _) nb upd_same
  have l4 : Le B s ⟨s3.io, upd s3.F p (.frz od (.dK (mergeK [] more))), upd s3.H p (.frz od (.dK (mergeK [] more)))⟩ :=
    (l2.trans (plus_le l3)).trans ⟨IoLe.refl _, same_upd hF, fun a ba => upd_ne fun y => nb (y ▸ ba)⟩
  exact h3 _ (.ref p) l4 wd1 (show Rep _ _ _ (.dict r.1 r.2) (.ref p) from .dict upd_same e2 (e3.mono (same_upd hF) (IoLe.refl _)))
end
/-! ### .. with keys that are tuples -/
abbrev BX := List (NestedKey × Addr × V)
abbrev PX : BX → DkX → Prop := Paired fun b x => x.1 = b.1 ∧ x.2.1 = b.2.1 ∧ RelV b.2.2 x.2.2
theorem storedAllH_len : ∀ (xs acc : DkX), (storedAllH acc xs).length ≤ acc.length + xs.length
  | [], acc => by show acc.length ≤ _; simp
  | (k, a, v) :: xs, acc => by
    have h1 := storedAllH_len xs (storedH acc k a v)
    have h2 := storedH_length acc k a v
    show (storedAllH (storedH acc k a v) xs).length ≤ _
    rw [List.length_cons]; omega
theorem carriesH_of {P : Program} {w : World} {H : Hp} {h : Heap} (ok : HOk P w H h) : ∀ {bs : BX} {ws : List (Value × Value)}, (∀ x ∈ bs, KeyH H x.1 x.2.1) → VV (bs.map fun x => (V.ref x.2.1, x.2.2)) ws → ∃ xs : DkX, CarriesH (nestedKind P w) h ws xs ∧ PX bs xs
  | [], _, _, r => by rw [List.map_nil] at r; cases r; exact ⟨[], True.intro, .nil⟩
  | (k, a, v) :: bs, _, hk, r => by
    rw [List.map_cons] at r
    cases r with
    | @cons p b as bs' h t =>
      obtain ⟨xs, c, q⟩ := carriesH_of ok (fun x hx => hk x (List.mem_cons_of_mem _ hx)) t
      obtain ⟨b1, b2⟩ := b
      exact ⟨(k, a, b2) :: xs, ⟨h.1, rfl, hk (k, a, v) List.mem_cons_self _ _ _ ok, c⟩, .cons ⟨rfl, rfl, h.2⟩ q⟩
def tDispD (w : World) (trs : List (TE × TE)) : TE := fun σ H Q => ∀ p, H p = none → tPairs trs σ (upd H p (DkO w p [])) fun ps H2 => H2 p = some (DkO w p []) ∧ ∃ bs : BX, ps = bs.map (fun x => (V.ref x.2.1, x.2.2)) ∧ (∀ x ∈ bs, KeyH H2 x.1 x.2.1) ∧ bs.length ≤ 15 ∧
  ∀ xs, PX bs xs → Q (.ref p) (upd H2 p (DkO w p (storedAllH [] xs)))
theorem PX.length : ∀ {bs : BX} {xs : DkX}, PX bs xs → bs.length = xs.length
  | _, _, .nil => rfl
  | _, _, .cons _ t => congrArg Nat.succ (PX.length t)
theorem pe_dispD {X : Cx} {pos : Pos} {keys : List (Option Expr)} {values : List Expr} {trs : List (TE × TE)} (hu : X.A.units + 65 < cLine) (h : PPs X pos keys values trs) (hall : keys.all (·.isSome) = true) (hl : keys.length = values.length) (h0 : keys ≠ [])
    (h15 : keys.length ≤ 15) : PE X (.Dict keys values pos) (tDispD X.w trs) := by
  refine ⟨fun pins now σ H Q inv wish => ?_⟩
  have free := inv.hok.fresh (Nat.le_refl now.heap.objs.size)
  have I1 := inv.laid (a := now.heap.objs.size) (o := DkO X.w now.heap.objs.size []) (h' := now.heap.push { cls := .type "dict", data := .dict #[] }) (t' := now.toks) (fun _ _ q => Heap.get?_push_of_some _ q) (Nat.le_refl _) (new_DD now.heap _ inv.big)
  have hp := pairTrees_length keys values X.env pos hall hl
  have ne : pairTrees keys values X.env pos ≠ [] := fun e => by rw [e] at hp; exact h0 (List.length_eq_zero_iff.mp hp.symm)
  rw [arm_eval_Dict, zip_pairTrees keys values X.env pos hall hl, dictDisplay_pairs _ ne (by omega)]
  refine wpAny_bind (wpAny_standAt (wpAny_bind (wpAny_subDictH (knd := nestedKind X.prog X.w) (show X.A.units + 8 < cLine by omega) (by omega) (thn (h.run pins _ σ _ _ I1 (wish _ free)) fun ws s2 ⟨ps, H2, I2, rel, e, bs, ep, kH, lk, q2⟩ => ?_))))
  subst ep
  obtain ⟨xs, c, px⟩ := carriesH_of I2.hok kH rel
  obtain ⟨hd, _, dd⟩ := dkO_of I2.hok (.inl e) (fun x hx => by cases hx)
  refine ⟨xs, c, dd, fun h' tk dd' hs => wpAny_pure ?_⟩
  have hz : (storedAllH [] xs).length ≤ sizeLine := by
    have h1 := storedAllH_len xs []
    have := px.length
    rw [List.length_nil] at h1
    rw [sizeLine_eq]; omega
  have there : ∃ q, h'.get? now.heap.objs.size = some q := let ⟨q, _, _, hq, _⟩ := dd'; ⟨q, hq⟩
  exact ⟨.ref now.heap.objs.size, _, d_write I2 (by rw [e]; exact True.intro) hs there (dkO_new hd hz dd'), rfl, q2 xs px⟩
def ddAll : List (D × D) → List D → List D → Option (List D × List D)
  | [], ks, us => some (ks, us)
  | (k, v) :: r, ks, us => k.tk.bind fun x => ddAll r (ddPut ks us k x v).1 (ddPut ks us k x v).2
theorem ddAll_ok {K : KW} {F H : Hp} {io : Io} (hs : Same F H) : ∀ {ps : List (D × D)} {qs : List (V × V)} {ks us : List D} {r : List D × List D}, RepPs K F io ps qs → ddAll ps ks us = some r →
    ∃ bs : BX, qs = bs.map (fun x => (V.ref x.2.1, x.2.2)) ∧ (∀ x ∈ bs, KeyH H x.1 x.2.1) ∧ ∀ acc, DkR K F io ks us acc → ∀ xs, PX bs xs → DkR K F io r.1 r.2 (storedAllH acc xs)
  | [], _, ks, us, r, .nil, e => by cases e; exact ⟨[], rfl, fun x hx => (by cases hx), fun acc h xs q => by cases q; exact h⟩
  | (k, v) :: ps, _, ks, us, r, .cons (x := x) (y := y) rk rv t, e => by
    unfold ddAll at e
    cases ek : k.tk with
    | none => rw [ek] at e; cases e
    | some z =>
      rw [ek] at e
      obtain ⟨b, eb, kb⟩ := tk_ok hs rk ek
      subst eb
      obtain ⟨bs, e1, e2, e3⟩ := ddAll_ok hs t (show ddAll ps (ddPut ks us k z v).1 (ddPut ks us k z v).2 = some r from e)
      refine ⟨(z, b, y) :: bs, by rw [e1]; rfl, fun x hx => ?_, fun acc h xs q => ?_⟩
      · rcases List.mem_cons.mp hx with q | q
        · rw [q]; exact kb
        · exact e2 x q
      · cases q with
        | @cons _ b' _ xs' q qs =>
          obtain ⟨k', b2, u⟩ := b'
          obtain ⟨q1, q2, q3⟩ := q
          dsimp only at q1 q2 q3
          subst q1
          subst q2
          exact e3 _ (dd_put ek rk q3 rv h) xs' qs
def eDspD (q : QM) : EM := fun u => M.bind (M.quiet (q u)) fun ps => M.bind (M.chk (ps.length ≤ 15)) fun _ => M.bind (M.of (ddAll ps [] [])) fun r => M.pure (.val (.dd r.1 r.2))
section
variable {P : P3} {pos : Pos}
theorem me_dspD {keys : List (Option Expr)} {values : List Expr} {q : QM} (hu : P.X.A.units + 65 < cLine) (h : MQ P pos keys values q) (hall : keys.all (·.isSome) = true := by rfl) (hl : keys.length = values.length := by rfl) (h0 : keys ≠ [] := by intro e; cases e) (h15 : keys.length ≤ 15 := by decide) :
    ME P (.Dict keys values pos) (eDspD q) := by
  obtain ⟨trs, pp, ht⟩ := h.out
  refine ME.mk' (pe_lockOn (pe_dispD hu pp hall hl h0 h15)) fun B0 B s st u z Q wd sl h => ?_
  obtain ⟨ps, st1, eq, h1⟩ := of_quietE h
  intro p hp
  rw [P.hw]
  obtain ⟨wd2, l2⟩ := own_wd (ho := DkO P.G.w p []) wd hp
  have nb : ¬ B p := wd.freshB hp
  refine ht B0 (plus B p) _ st u z _ wd2 ((sl.mono' l2).more fun a b => .inl b) ?_
  rw [eq]
  intro s3 qs l3 w3 r3
  have hq : s3.H p = some (DkO P.G.w p []) := (l3.hid p (.inr rfl)).trans upd_same
  obtain ⟨hz, h2⟩ := Post.of_chk h1
  obtain ⟨r, er, h3⟩ := Post.of_of h2
  obtain ⟨bs, e1, e2, e3⟩ := ddAll_ok w3.sub r3 er
  subst e1
  refine ⟨hq, bs, rfl, e2, by have := r3.length; simp at this; omega, fun xs px => ⟨p, _, rfl, upd_same, True.intro, fun od => ?_⟩⟩
  rw [upd_upd]
  have hF := (w3.hid p (.inr rfl)).1
  have dr := (e3 [] dkR_nil xs px).mono (F' := upd s3.F p (.frz od (DkO P.G.w p (storedAllH [] xs)))) (same_upd hF) (IoLe.refl _)
  obtain ⟨vs, hv, hr⟩ := dr.vals
  have wd1 : Wd P.G B st1 ⟨s3.io, upd s3.F p (.frz od (DkO P.G.w p (storedAllH [] xs))), upd s3.H p (.frz od (DkO P.G.w p (storedAllH [] xs)))⟩ := freeze_wd (own_put w3 nb _) nb upd_same
  have l4 : Le B s ⟨s3.io, upd s3.F p (.frz od (DkO P.G.w p (storedAllH [] xs))), upd s3.H p (.frz od (DkO P.G.w p (storedAllH [] xs)))⟩ :=
    (l2.trans (plus_le l3)).trans ⟨IoLe.refl _, same_upd hF, fun a ba => upd_ne fun y => nb (y ▸ ba)⟩
  exact h3 _ (.ref p) l4 wd1 (show Rep _ _ _ (.dd r.1 r.2) (.ref p) from .dd upd_same dr.keys dr.tk hv hr)
end
end M3


namespace M3
open PySem PySem.Spec PyProof.Rows L2
/-! ### list comprehensions with two fors -/
def lc2L (g : GM) (c : TM) (mi1 : FM) (g1 : GM) (c1 : TM) (e : EM) (vs1 : List Nat) (u0 : Sl3) : List D → List D → M (List D)
  | [], acc => M.pure acc
  | d :: ds, acc => M.bind (M.of (g d u0)) fun u1 => M.bind (M.quiet (c u1)) fun k =>
    if k = true then M.bind (M.quiet (mi1 u1)) fun ds1 => M.bind (lcL g1 c1 e (wipe3 u1 vs1) ds1 acc) fun acc' => lc2L g c mi1 g1 c1 e vs1 u0 ds acc'
    else lc2L g c mi1 g1 c1 e vs1 u0 ds acc
def fLc2 (mi : FM) (g : GM) (c : TM) (mi1 : FM) (g1 : GM) (c1 : TM) (e : EM) (own vs1 : List Nat) : FM := fun u => M.bind (mi u) fun ds => lc2L g c mi1 g1 c1 e vs1 (wipe3 u own) ds []
theorem bind_assoc3 {α β γ : Type} (m : M α) (f : α → M β) (f2 : β → M γ) (st : Store) : M.bind (M.bind m f) f2 st = M.bind m (fun a => M.bind (f a) f2) st := by
  unfold M.bind
  cases m st <;> rfl
section
variable {P : P3} {pos : Pos}
theorem lc2_ok {mi : FM} {g g1 : GM} {gs gs1 : List Nat} {c c1 : TM} {mi1 : FM} {e : EM} {own vs1 : List Nat} {ti ti1 : TI} (hgs : ∀ i ∈ gs, i ∈ own) (hgs1 : ∀ i ∈ gs1, i ∈ vs1)
    (hti : ∀ (B0 B : Addr → Prop) (s : S3) (st : Store) (u : Sl3) (z : L2.St) (R : It → Hp → Prop), Wd P.G B st s → Slo P.G P.hx B0 B s u z → Post P.G B (fun s ds J => Itm P.G s ds J) (fun c d H => P.wx c d z H) s R (mi u st) → ti z s.H R)
    (hti1 : ∀ (B0 B : Addr → Prop) (s : S3) (st : Store) (u : Sl3) (z : L2.St) (R : It → Hp → Prop), Wd P.G B st s → Slo P.G P.hx B0 B s u z → Post P.G B (fun s ds J => Itm P.G s ds J) (fun c d H => noW c d z H) s R (mi1 u st) → ti1 z s.H R)
    {B0 B : Addr → Prop} {s : S3} {st : Store} {u : Sl3} {z : L2.St} {Q : VK} (wd : Wd P.G B st s) (sl : Slo P.G P.hx B0 B s u z) (h : PostF P.G B (fun c d H => P.wx c d z H) s Q (fLc2 mi g c mi1 g1 c1 e own vs1 u st)) :
    tLc2 ti (tG P.G P.hx g gs) (tT P.G P.hx noW c) ti1 (tG P.G P.hx g1 gs1) (tT P.G P.hx noW c1) (tE P.G P.hx noW e) own vs1 z s.H Q := by
  refine hti B0 B s st u z _ wd sl (PostF.bind h fun ds st1 s1 J l1 wd1 im h1 => ?_)
  intro p hp
  obtain ⟨wd2, l2⟩ := own_wd (ho := .lst []) wd1 hp
  have nb : ¬ B p := wd1.freshB hp
  refine ⟨fun i n H' => n = ds.length - i ∧ i ≤ ds.length ∧ ∃ (s' : S3) (st' : Store) (acc : List D) (vs : List V), s'.H = H' ∧ Le B s1 s' ∧ Wd P.G (plus B p) st' s' ∧ s'.H p = some (.lst vs) ∧ RepL P.G.R s'.F s'.io acc vs ∧
      PostF P.G B (fun c d H => P.wx c d z H) s' Q (lc2L g c mi1 g1 c1 e vs1 (wipe3 u own) (ds.drop i) acc st'),
    ⟨_, rfl, Nat.zero_le _, _, st1, [], [], rfl, l2, wd2, upd_same, .nil, PostF.mono l2 h1⟩, ?_⟩
  rintro i n H' ⟨rfl, hi, s', st', acc, vs, rfl, l', w', hq, rl, pf⟩
  rcases Nat.lt_or_ge i ds.length with hlt | hge
  · right
    refine ⟨im.go s' l'.io l'.fr w'.sub i hlt, fun H2 => i + 1 ≤ ds.length ∧ ∃ (s' : S3) (st' : Store) (acc : List D) (vs : List V), s'.H = H2 ∧ Le B s1 s' ∧ Wd P.G (plus B p) st' s' ∧ s'.H p = some (.lst vs) ∧ RepL P.G.R s'.F s'.io acc vs ∧
      PostF P.G B (fun c d H => P.wx c d z H) s' Q (lc2L g c mi1 g1 c1 e vs1 (wipe3 u own) (ds.drop (i + 1)) acc st'), fun H2 q => ⟨_, by omega, rfl, q.1, q.2⟩, fun x H2 y => ?_⟩
    obtain ⟨rfl, d, ed, rd⟩ := im.yld s' l'.io l'.fr w'.sub i x _ hlt y
    rw [List.drop_eq_getElem_cons hlt] at pf
    have ed' : ds[i] = d := by rw [List.getElem?_eq_getElem hlt] at ed; cases ed; rfl
    rw [ed'] at pf
    unfold lc2L at pf
    obtain ⟨u1, eg, pf⟩ := PostF.of_of pf
    have slw : Slo P.G P.hx B0 B s' (wipe3 u own) (L2.wipe z own) := (sl.mono' (l1.trans l')).wipe own
    refine ⟨B0, B, s', st', wipe3 u own, d, u1, rfl, w'.less (fun a b => .inl b), slw, rd, eg, fun z2 sl2 b2 => ⟨?_, ?_⟩⟩
    · rw [b2.wipe hgs, lc_ok.wipe_wipe]
    · obtain ⟨k, st3, ek, pf⟩ := of_quiet pf
      refine ⟨B0, plus B p, s', st', u1, rfl, w', sl2.more fun a b => .inl b, ?_⟩
      rw [ek]
      intro s3 k' l3 w3 rk
      subst rk
      have hq3 : s3.H p = some (.lst vs) := (l3.hid p (.inr rfl)).trans hq
      have rl3 := rl.mono l3.fr l3.io
      have pf := PostF.mono (plus_le l3) pf
      have sl3 : Slo P.G P.hx B0 B s3 u1 z2 := sl2.mono' (plus_le l3)
      cases k with
      | false => exact ⟨hlt, s3, st3, acc, vs, rfl, l'.trans (plus_le l3), w3, hq3, rl3, pf⟩
      | true =>
        rw [if_pos rfl] at pf
        rw [if_pos rfl]
        obtain ⟨ds1, st4, ed1, pf⟩ := of_quiet pf
        refine hti1 B0 (plus B p) s3 st3 u1 z2 _ w3 (sl3.more fun a b => .inl b) ?_
        rw [ed1]
        intro s4 J1 l4 w4 im1
        have hq4 : s4.H p = some (.lst vs) := (l4.hid p (.inr rfl)).trans hq3
        have pf := PostF.mono (plus_le l4) pf
        have sl4 : Slo P.G P.hx B0 B s4 u1 z2 := sl3.mono' (plus_le l4)
        refine ⟨fun j k H' => k = ds1.length - j ∧ j ≤ ds1.length ∧ ∃ (s' : S3) (st' : Store) (acc : List D) (vs : List V), s'.H = H' ∧ Le B s4 s' ∧ Wd P.G (plus B p) st' s' ∧ s'.H p = some (.lst vs) ∧ RepL P.G.R s'.F s'.io acc vs ∧
            PostF P.G B (fun c d H => P.wx c d z H) s' Q (M.bind (lcL g1 c1 e (wipe3 u1 vs1) (ds1.drop j) acc) (fun acc' => lc2L g c mi1 g1 c1 e vs1 (wipe3 u own) (ds.drop (i + 1)) acc') st'),
          ⟨_, rfl, Nat.zero_le _, s4, st4, acc, vs, rfl, Le.refl _, w4, hq4, rl3.mono l4.fr l4.io, pf⟩, ?_⟩
        rintro j n1 H4 ⟨rfl, hj, s5, st5, acc5, vs5, rfl, l5, w5, hq5, rl5, pf⟩
        rcases Nat.lt_or_ge j ds1.length with jlt | jge
        · right
          refine ⟨im1.go s5 l5.io l5.fr w5.sub j jlt, fun H2 => j + 1 ≤ ds1.length ∧ ∃ (s' : S3) (st' : Store) (acc : List D) (vs : List V), s'.H = H2 ∧ Le B s4 s' ∧ Wd P.G (plus B p) st' s' ∧ s'.H p = some (.lst vs) ∧ RepL P.G.R s'.F s'.io acc vs ∧
            PostF P.G B (fun c d H => P.wx c d z H) s' Q (M.bind (lcL g1 c1 e (wipe3 u1 vs1) (ds1.drop (j + 1)) acc) (fun acc' => lc2L g c mi1 g1 c1 e vs1 (wipe3 u own) (ds.drop (i + 1)) acc') st'), fun H2 q => ⟨_, by omega, rfl, q.1, q.2⟩, fun x H2 y => ?_⟩
          obtain ⟨rfl, d1, ed1, rd1⟩ := im1.yld s5 l5.io l5.fr w5.sub j x _ jlt y
          rw [List.drop_eq_getElem_cons jlt] at pf
          have ed1' : ds1[j] = d1 := by rw [List.getElem?_eq_getElem jlt] at ed1; cases ed1; rfl
          rw [ed1'] at pf
          unfold lcL at pf
          rw [bind_assoc3] at pf
          obtain ⟨u2, eg1, pf⟩ := PostF.of_of pf
          have slw1 : Slo P.G P.hx B0 (plus B p) s5 (wipe3 u1 vs1) (L2.wipe z2 vs1) := ((sl4.mono' l5).more fun a b => .inl b).wipe vs1
          refine ⟨B0, plus B p, s5, st5, wipe3 u1 vs1, d1, u2, rfl, w5, slw1, rd1, eg1, fun z3 sl5 b3 => ⟨?_, ?_⟩⟩
          · rw [b3.wipe hgs1, lc_ok.wipe_wipe]
          · rw [bind_assoc3] at pf
            obtain ⟨k1, st6, ek1, pf⟩ := of_quiet pf
            refine ⟨B0, plus B p, s5, st5, u2, rfl, w5, sl5, ?_⟩
            rw [ek1]
            intro s6 k1' l6 w6 rk
            subst rk
            have hq6 : s6.H p = some (.lst vs5) := (l6.hid p (.inr rfl)).trans hq5
            have rl6 := rl5.mono l6.fr l6.io
            have pf := PostF.mono (plus_le l6) pf
            cases k1 with
            | false => exact ⟨jlt, s6, st6, acc5, vs5, rfl, l5.trans (plus_le l6), w6, hq6, rl6, pf⟩
            | true =>
              rw [if_pos rfl] at pf
              rw [bind_assoc3] at pf
              obtain ⟨w, st7, ew, pf⟩ := of_quiet pf
              rw [if_pos rfl]
              refine ⟨B0, plus B p, s6, st6, u2, rfl, w6, sl5.mono' l6, ?_⟩
              rw [ew]
              intro s7 v7 l7 w7 r7
              rw [bind_assoc3] at pf
              obtain ⟨x7, ex, pf⟩ := PostF.of_of pf
              rw [bind_assoc3] at pf
              obtain ⟨hz, pf⟩ := PostF.of_chk pf
              have hq7 : s7.H p = some (.lst vs5) := (l7.hid p (.inr rfl)).trans hq6
              have rl7 := rl6.mono l7.fr l7.io
              have rx : Rep P.G.R s7.F s7.io x7 v7 := by
                cases w with
                | val d => cases ex; exact r7
                | _ => cases ex
              obtain ⟨w8, l8⟩ := grow_wd (xs := []) (d := .non) (v := .non) w7 nb hq7 (.lst (vs5 ++ [v7]))
              exact ⟨vs5, hq7, by rw [← rl7.length]; exact szl hz, jlt, _, st7, acc5 ++ [x7], vs5 ++ [v7], rfl, ((l5.trans (plus_le l6)).trans (plus_le l7)).trans l8, w8, upd_same, rl7.append (.cons rx .nil), PostF.mono ((plus_le l7).trans l8) pf⟩
        · left
          have e1 : ds1.drop j = [] := List.drop_eq_nil_of_le jge
          rw [e1] at pf
          exact ⟨im1.stop s5 l5.io l5.fr w5.sub j jge, hlt, s5, st5, acc5, vs5, rfl, ((l'.trans (plus_le l3)).trans (plus_le l4)).trans l5, w5, hq5, rl5, pf⟩
  · left
    have e0 : ds.drop i = [] := List.drop_eq_nil_of_le hge
    rw [e0] at pf
    exact ⟨im.stop s' l'.io l'.fr w'.sub i hge, pf s' p vs (Le.refl _) w' nb hq rl⟩
theorem mf_lc2 {elt tg iter tg1 iter1 : Expr} {ifs ifs1 : List Expr} {scope : Scope} {own : List (Str × Nat)} {vs1 : List Nat} {mi mi1 : FM} {g g1 : GM} {gs gs1 : List Nat} {c c1 : TM} {m : EM} (hc : P.X.calm = true) (hN : P.X.N.Nodup) (hi : MI P tg iter mi) (ok : BlkOk P.X.N P.X.env.scope scope own)
    (hg : ∀ (s : Shared) (H : Hp) (C : Addr) (cl : List (Str × Addr)) (fp : List Addr), MG (P.blk s H scope C cl fp) tg g gs) (ht : ∀ (s : Shared) (H : Hp) (C : Addr) (cl : List (Str × Addr)) (fp : List Addr), MIfs (P.blk s H scope C cl fp) ifs c)
    (hi1 : ∀ (s : Shared) (H : Hp) (C : Addr) (cl : List (Str × Addr)) (fp : List Addr), MI (P.blk s H scope C cl fp) tg1 iter1 mi1)
    (hg1 : ∀ (s : Shared) (H : Hp) (C : Addr) (cl : List (Str × Addr)) (fp : List Addr), MG (P.blk s H scope C cl fp) tg1 g1 gs1) (ht1 : ∀ (s : Shared) (H : Hp) (C : Addr) (cl : List (Str × Addr)) (fp : List Addr), MIfs (P.blk s H scope C cl fp) ifs1 c1)
    (he : ∀ (s : Shared) (H : Hp) (C : Addr) (cl : List (Str × Addr)) (fp : List Addr), ME (P.blk s H scope C cl fp) elt m) (hv : ∀ i ∈ vs1, i ∈ own.map (·.2) := by decide) (hgs : ∀ i ∈ gs, i ∈ own.map (·.2) := by decide) (hgs1 : ∀ i ∈ gs1, i ∈ vs1 := by decide)
    (hs : ∀ x, foldedSetIterable iter P.X.env x = pure x := by intro _; rfl) (hs1 : ∀ env x, foldedSetIterable iter1 env x = pure x := by intro _ _; rfl) :
    MF P (.ListComp elt [⟨tg, iter, ifs, 0⟩, ⟨tg1, iter1, ifs1, 0⟩] scope pos) (fLc2 mi g c mi1 g1 c1 m (own.map (·.2)) vs1) := by
  obtain ⟨ti, pi, hti⟩ := hi.out
  refine MF.mk' (pe_lc2 (own := own) (vs1 := vs1) (wi1 := tI P.G P.hx noW mi1) (g := tG P.G P.hx g gs) (tt := tT P.G P.hx noW c) (g1 := tG P.G P.hx g1 gs1) (tt1 := tT P.G P.hx noW c1) (te := tE P.G P.hx noW m) hc hN pi ok hv (fun s H C cl fp => (hg s H C cl fp).pg) (fun s H C cl fp => (ht s H C cl fp).pts)
    (fun s H C cl fp => (hi1 s H C cl fp).pi) (fun s H C cl fp => (hg1 s H C cl fp).pg) (fun s H C cl fp => (ht1 s H C cl fp).pts) (fun s H C cl fp => (he s H C cl fp).pe) hs hs1) fun B0 B s st u z Q wd sl h => ?_
  exact lc2_ok hgs hgs1 hti (fun B0 B s st u z R w l q => ⟨B0, B, s, st, u, rfl, w, l, q⟩) wd sl h
/-- x = [.. for .. for ..] -/
theorem ms_setLc2 {i : Nat} {y : Str} {py spos : Pos} {elt tg iter tg1 iter1 : Expr} {ifs ifs1 : List Expr} {scope : Scope} {own : List (Str × Nat)} {vs1 : List Nat} {mi mi1 : FM} {g g1 : GM} {gs gs1 : List Nat} {c c1 : TM} {m : EM} (hc : P.X.calm = true) (hN : P.X.N.Nodup) (hi : MI P tg iter mi) (ok : BlkOk P.X.N P.X.env.scope scope own)
    (hg : ∀ (s : Shared) (H : Hp) (C : Addr) (cl : List (Str × Addr)) (fp : List Addr), MG (P.blk s H scope C cl fp) tg g gs) (ht : ∀ (s : Shared) (H : Hp) (C : Addr) (cl : List (Str × Addr)) (fp : List Addr), MIfs (P.blk s H scope C cl fp) ifs c)
    (hi1 : ∀ (s : Shared) (H : Hp) (C : Addr) (cl : List (Str × Addr)) (fp : List Addr), MI (P.blk s H scope C cl fp) tg1 iter1 mi1)
    (hg1 : ∀ (s : Shared) (H : Hp) (C : Addr) (cl : List (Str × Addr)) (fp : List Addr), MG (P.blk s H scope C cl fp) tg1 g1 gs1) (ht1 : ∀ (s : Shared) (H : Hp) (C : Addr) (cl : List (Str × Addr)) (fp : List Addr), MIfs (P.blk s H scope C cl fp) ifs1 c1)
    (he : ∀ (s : Shared) (H : Hp) (C : Addr) (cl : List (Str × Addr)) (fp : List Addr), ME (P.blk s H scope C cl fp) elt m)
    (hsw : swapsWith (.ListComp elt [⟨tg, iter, ifs, 0⟩, ⟨tg1, iter1, ifs1, 0⟩] scope pos) (some (.Name y py)) spos.line P.X.env = pure true) (hy : P.X.N[i]? = some y := by rfl) (hyl : P.X.env.scope.names.lookup y = some .local := by rfl)
    (hv : ∀ i ∈ vs1, i ∈ own.map (·.2) := by decide) (hgs : ∀ i ∈ gs, i ∈ own.map (·.2) := by decide) (hgs1 : ∀ i ∈ gs1, i ∈ vs1 := by decide)
    (hs : ∀ x, foldedSetIterable iter P.X.env x = pure x := by intro _; rfl) (hs1 : ∀ env x, foldedSetIterable iter1 env x = pure x := by intro _ _; rfl) :
    MS P (.Assign [.Name y py] (.ListComp elt [⟨tg, iter, ifs, 0⟩, ⟨tg1, iter1, ifs1, 0⟩] scope pos) spos) (sSet i (eF (fLc2 mi g c mi1 g1 c1 m (own.map (·.2)) vs1))) := by
  obtain ⟨ti, pi, hti⟩ := hi.out
  refine MS.mk' (ps_setLc2 (own := own) (vs1 := vs1) (wi1 := tI P.G P.hx noW mi1) (g := tG P.G P.hx g gs) (tt := tT P.G P.hx noW c) (g1 := tG P.G P.hx g1 gs1) (tt1 := tT P.G P.hx noW c1) (te := tE P.G P.hx noW m) hc hN hy hyl hsw pi ok hv (fun s H C cl fp => (hg s H C cl fp).pg) (fun s H C cl fp => (ht s H C cl fp).pts)
    (fun s H C cl fp => (hi1 s H C cl fp).pi) (fun s H C cl fp => (hg1 s H C cl fp).pg) (fun s H C cl fp => (ht1 s H C cl fp).pts) (fun s H C cl fp => (he s H C cl fp).pe) hs hs1) fun B0 B s o u z D b0 wd sl h => ?_
  refine lc2_ok hgs hgs1 hti (fun B0 B s st u z R w l q => ⟨B0, B, s, st, u, rfl, w, l, q⟩) wd sl ?_
  unfold sSet eF M.bind at h
  cases e : fLc2 mi g c mi1 g1 c1 m (own.map (·.2)) vs1 u o with
  | ok xs st' =>
    rw [e] at h
    dsimp only [M.pure] at h
    exact fun s' p vs l w nb hp r => h B ⟨s'.io, upd s'.F p (.lst vs), s'.H⟩ _ b0 ((l.trans (freeze_le w)).less b0) (freeze_wd w nb hp) ((sl.mono' (l.trans (freeze_le w))).set (.lst upd_same (r.mono (freeze_le w).fr (freeze_le w).io)) i)
  | err c x st' => rw [e] at h; exact fun s' cv dd l w q => h B s' z cv dd b0 (l.less b0) w (sl.mono' l) q
  | bad => rw [e] at h; exact h
end
/-! ### x = {k: v, ..}, x a dict of one's own -/
def sOwnDs (i : Nat) (q : QM) : SM := fun u st => match q u st with
  | .ok ps st' => if ps.length ≤ 15 then match dkAll ps [] [] with
    | some r => .nx (u.set i (some (.bod r.1 r.2))) st'
    | none => .bad
    else .bad
  | _ => .bad
def sOwnDsD (i : Nat) (q : QM) : SM := fun u st => match q u st with
  | .ok ps st' => if ps.length ≤ 15 then match ddAll ps [] [] with
    | some r => .nx (u.set i (some (.bdd r.1 r.2))) st'
    | none => .bad
    else .bad
  | _ => .bad
section
variable {P : P3} {pos : Pos}
theorem ms_ownDs (i : Nat) {x : Str} {p dp : Pos} {keys : List (Option Expr)} {values : List Expr} {q : QM} (hN : P.X.N.Nodup) (h : MQ P dp keys values q) (hi : P.X.N[i]? = some x := by rfl) (hx : Loc P.X.env.scope x := by first | exact Or.inl rfl | exact Or.inr rfl) (hs : swapsWith (.Dict keys values dp) (some (.Name x p)) pos.line P.X.env = pure false := by rfl)
    (hf : P.X.fn x = true ∨ P.X.env.scope.names.lookup x = some .local := by first | exact .inl rfl | exact .inr rfl | assumption) (hall : keys.all (·.isSome) = true := by rfl) (hl : keys.length = values.length := by rfl) (h0 : keys ≠ [] := by intro e; cases e) (h15 : keys.length ≤ 15 := by decide) :
    MS P (.Assign [.Name x p] (.Dict keys values dp) pos) (sOwnDs i q) := by
  obtain ⟨trs, pp, ht⟩ := h.out
  refine MS.mk' (ps_set hN hi hx (pe_disp pp hall hl h0 h15) hs hf) fun B0 B s o u z D b0 wd sl h => fun p hp => ?_
  obtain ⟨wd2, l2⟩ := own_wd (ho := .dK []) wd hp
  have nb : ¬ B p := wd.freshB hp
  refine ht B0 (plus B p) _ o u z _ wd2 ((sl.mono' l2).more fun a b => .inl b) ?_
  unfold sOwnDs at h
  cases eq : q u o with
  | bad => rw [eq] at h; exact h
  | err c x st' => rw [eq] at h; exact h.elim
  | ok ps st1 =>
    rw [eq] at h
    dsimp only at h
    split at h
    · rename_i hz
      split at h
      · rename_i r er
        intro s3 qs l3 w3 r3
        have hq : s3.H p = some (.dK []) := (l3.hid p (.inr rfl)).trans upd_same
        obtain ⟨more, e1, e2, e3⟩ := dkAll_ok (kvs := []) r3 .nil er
        subst e1
        refine ⟨hq, more, rfl, by have := r3.length; simp at this; omega, ?_⟩
        have w4 := own_put w3 nb (.dK (mergeK [] more))
        have l4 : Le B s3 ⟨s3.io, s3.F, upd s3.H p (.dK (mergeK [] more))⟩ := ⟨IoLe.refl _, Same.refl _, fun a ba => upd_ne fun y => nb (y ▸ ba)⟩
        have l5 := (l2.trans (plus_le l3)).trans l4
        exact h (plus B p) ⟨s3.io, s3.F, upd s3.H p (.dK (mergeK [] more))⟩ _ (fun a q => .inl (b0 a q)) (l5.less b0) w4 ((sl.mono' l5).ownW (w0 := .bod r.1 r.2) nb (fun q => nb (b0 p q)) ⟨p, _, rfl, .inr rfl, upd_same, e2, e3⟩ i)
      · exact h.elim
    · exact h.elim
theorem ms_ownDsD (i : Nat) {x : Str} {p dp : Pos} {keys : List (Option Expr)} {values : List Expr} {q : QM} (hu : P.X.A.units + 65 < cLine) (hN : P.X.N.Nodup) (h : MQ P dp keys values q) (hi : P.X.N[i]? = some x := by rfl) (hx : Loc P.X.env.scope x := by first | exact Or.inl rfl | exact Or.inr rfl) (hs : swapsWith (.Dict keys values dp) (some (.Name x p)) pos.line P.X.env = pure false := by rfl)
    (hf : P.X.fn x = true ∨ P.X.env.scope.names.lookup x = some .local := by first | exact .inl rfl | exact .inr rfl | assumption) (hall : keys.all (·.isSome) = true := by rfl) (hl : keys.length = values.length := by rfl) (h0 : keys ≠ [] := by intro e; cases e) (h15 : keys.length ≤ 15 := by decide) :
    MS P (.Assign [.Name x p] (.Dict keys values dp) pos) (sOwnDsD i q) := by
  obtain ⟨trs, pp, ht⟩ := h.out
  refine MS.mk' (ps_set hN hi hx (pe_dispD hu pp hall hl h0 h15) hs hf) fun B0 B s o u z D b0 wd sl h => fun p hp => ?_
  rw [P.hw]
  obtain ⟨wd2, l2⟩ := own_wd (ho := DkO P.G.w p []) wd hp
  have nb : ¬ B p := wd.freshB hp
  refine ht B0 (plus B p) _ o u z _ wd2 ((sl.mono' l2).more fun a b => .inl b) ?_
  unfold sOwnDsD at h
  cases eq : q u o with
  | bad => rw [eq] at h; exact h
  | err c x st' => rw [eq] at h; exact h.elim
  | ok ps st1 =>
    rw [eq] at h
    dsimp only at h
    split at h
    · rename_i hz
      split at h
      · rename_i r er
        intro s3 qs l3 w3 r3
        have hq : s3.H p = some (DkO P.G.w p []) := (l3.hid p (.inr rfl)).trans upd_same
        obtain ⟨bs, e1, e2, e3⟩ := ddAll_ok w3.sub r3 er
        subst e1
        refine ⟨hq, bs, rfl, e2, by have := r3.length; simp at this; omega, fun xs px => ?_⟩
        have w4 := own_put w3 nb (DkO P.G.w p (storedAllH [] xs))
        have l4 : Le B s3 ⟨s3.io, s3.F, upd s3.H p (DkO P.G.w p (storedAllH [] xs))⟩ := ⟨IoLe.refl _, Same.refl _, fun a ba => upd_ne fun y => nb (y ▸ ba)⟩
        have l5 := (l2.trans (plus_le l3)).trans l4
        exact h (plus B p) ⟨s3.io, s3.F, upd s3.H p (DkO P.G.w p (storedAllH [] xs))⟩ _ (fun a q => .inl (b0 a q)) (l5.less b0) w4 ((sl.mono' l5).ownW (w0 := .bdd r.1 r.2) nb (fun q => nb (b0 p q)) ⟨p, _, rfl, .inr rfl, upd_same, e3 [] dkR_nil xs px⟩ i)
      · exact h.elim
    · exact h.elim
end
/-! ### k in d as a test, d a dict with tuple keys -/
section
variable {P : P3} {pos : Pos} {a b : Expr} {ma mb : EM}
theorem mt_opDD {op : CmpOp} {neg : Bool} (h : OpR P.X (compareOp op) (rInD P.X.w neg)) (ha : ME P a ma) (hb : ME P b mb) (hm : behindInMarks op b = false) : MT P (.Compare a [op] [b] pos) (tOf (eInDD neg ma mb)) := by
  obtain ⟨ta, pa, ha⟩ := ha.out
  obtain ⟨tb, pb, hb⟩ := hb.out
  refine MT.mk' (pt_cmpR h pa pb hm) fun B0 B s st u z Q wd sl hp => ?_
  unfold tOf eInDD at hp
  rw [bind_assoc3] at hp
  refine ha B0 B s st u z _ wd sl (Post.bind hp fun w1 st1 s1 v1 l1 wd1 r1 h1 => ?_)
  rw [bind_assoc3] at h1
  refine hb B0 B s1 st1 u z _ wd1 (sl.mono l1) (Post.bind h1 fun w2 st2 s2 v2 l2 wd2 r2 h2 => ?_)
  rw [bind_assoc3] at h2
  obtain ⟨kd, ek, h3⟩ := Post.of_of h2
  rw [bind_assoc3] at h3
  obtain ⟨x, ex, h4⟩ := Post.of_of h3
  rw [bind_assoc3] at h4
  obtain ⟨ks, us, c, xs, _, rfl, hr, dr, h5⟩ := Post.of_dd wd2 r2 h4
  clear h2 h3 h4
  obtain rfl := d_val ek
  obtain ⟨bb, rfl, kb⟩ := tk_ok (H := s2.H) (l2.fr.trans wd2.sub) (Rep.mono (Same.refl _) l2.io r1) ex
  refine ⟨c, bb, xs, x, rfl, rfl, by rw [P.hw]; exact hr, dr.keyH wd2.sub, kb, ?_⟩
  rw [(dd_at (x := x) dr).2.1]
  have h6 : Post P.G B (fun _ a b => a = b) (fun c d H => P.wx c d z H) s2 Q (.ok (if neg then !ddHas ks x else ddHas ks x) st2) := h5
  exact ⟨_, rfl, h6.pure wd2 rfl⟩
theorem mt_inDD (hu : P.X.A.units + 65 < cLine) (ha : ME P a ma) (hb : ME P b mb) (hm : behindInMarks .In b = false := by with_unfolding_all rfl) : MT P (.Compare a [.In] [b] pos) (tOf (eInDD false ma mb)) := mt_opDD (op_inDD hu) ha hb hm
theorem mt_notinDD (hu : P.X.A.units + 65 < cLine) (ha : ME P a ma) (hb : ME P b mb) (hm : behindInMarks .NotIn b = false := by with_unfolding_all rfl) : MT P (.Compare a [.NotIn] [b] pos) (tOf (eInDD true ma mb)) := mt_opDD (op_notinDD hu) ha hb hm
end
end M3


namespace M3
open PySem PySem.Spec PyProof.Rows L2
/-! ### sorted(ints), t.index(text) -/
def D.ints : List D → Option (List Int)
  | [] => some []
  | .int i :: ds => (D.ints ds).map (i :: ·)
  | _ => none
theorem ints_ok {K : KW} {F : Hp} {io : Io} : ∀ {ds : List D} {vs : List V} {ns : List Int}, RepL K F io ds vs → D.ints ds = some ns → vs = ns.map V.int
  | [], _, _, .nil, e => by unfold D.ints at e; cases e; rfl
  | d :: ds, _, ns, .cons r t, e => by
    cases d with
    | int i =>
      unfold D.ints at e
      cases h : D.ints ds with
      | none => rw [h] at e; cases e
      | some ms =>
        rw [h] at e
        cases e
        cases r
        rw [ints_ok t h]
        rfl
    | _ => unfold D.ints at e; cases e
def sortI (ns : List Int) : List Int := ns.mergeSort (fun a b => decide (a ≤ b))
theorem sortI_perm (ns : List Int) : (sortI ns).Perm ns := List.mergeSort_perm _ _
theorem sortI_le (ns : List Int) : (sortI ns).Pairwise (· ≤ ·) := by
  have h := List.pairwise_mergeSort (le := fun a b : Int => decide (a ≤ b)) (fun a b c h1 h2 => by
    have h1 := of_decide_eq_true h1
    have h2 := of_decide_eq_true h2
    exact decide_eq_true (Int.le_trans h1 h2)) (fun a b => by
    rcases Int.le_total a b with q | q
    · simp [q]
    · simp [q]) ns
  exact h.imp fun q => of_decide_eq_true q
theorem sortI_eq {ns ms : List Int} (p : ms.Perm ns) (s : ms.Pairwise (· ≤ ·)) : ms = sortI ns :=
  List.Perm.eq_of_pairwise (fun a b _ _ h1 h2 => Int.le_antisymm h1 h2) s (sortI_le ns) (p.trans (sortI_perm ns).symm)
def sortF : List W → Option (List D)
  | [.val (.lst xs)] => (D.ints xs).bind fun ns => if ns.length < 64 then some ((sortI ns).map .int) else none
  | _ => none
theorem rep_ints {K : KW} {F : Hp} {io : Io} : ∀ ns : List Int, RepL K F io (ns.map D.int) (ns.map V.int)
  | [] => .nil
  | _ :: ns => .cons .int (rep_ints ns)
section
variable {P : P3} {pos : Pos}
theorem cf_sorted : CallF P (.builtin "sorted") sortF := by
  refine ⟨_, cr_sorted, fun B s st ws xs vs Q wd r e k => ?_⟩
  unfold sortF at e
  split at e
  · rename_i ys
    cases r with
    | cons r rr =>
      cases rr
      cases r with
      | lst hF rl =>
        cases h1 : D.ints ys with
        | none => rw [h1] at e; cases e
        | some ns =>
          rw [h1, Option.bind_some] at e
          split at e
          · rename_i h64
            cases e
            have ev := ints_ok rl h1
            subst ev
            exact ⟨_, ns, rfl, .inl (.inl (wd.sub _ _ hF)), h64, fun ns' p pm so hp => by
              rw [sortI_eq pm so]
              exact k _ p (rep_ints _) hp⟩
          · cases e
  · cases e
theorem mf_callB {id : String} {x : Str} {p : Pos} {e : Expr} {es : List Expr} {ma : AM} {gf : List W → Option (List D)} (hc : CallF P (.builtin id) gf) (hg : Gl P.X x) (hm : P.X.mg x = none) (hv : bootBuiltins x = some (.builtin id)) (ha : MA P (e :: es) ma) (hn : x ≠ "__name__" := by decide) (hdb : (x == ("__debug__" : Str)) = false := by decide)
    (he : starEach (e :: es) P.X.env = (false, eval e P.X.env) :: starEach es P.X.env := by rfl) (hpl : (backTo pos (starEach es P.X.env)).any (·.1) = false := by rfl) : MF P (.Call (.Name x p) (e :: es) [] pos) (fB gf ma) := by
  obtain ⟨t, pt, ht⟩ := ha.out
  obtain ⟨r, hr, hq⟩ := hc
  refine MF.mk' (pe_callB hr hg hm hv pt hn hdb he hpl) fun B0 B s st u z Q wd sl h => ht B0 B s st u z _ wd sl (PostF.bind h fun ws st1 s1 vs l1 wd1 r1 h1 => ?_)
  cases q : gf ws with
  | none => rw [q] at h1; exact h1.elim
  | some xs => rw [q] at h1; exact hq B s1 st1 ws xs vs Q wd1 r1 q fun us p rl hp => PostF.fresh h1 wd1 rl hp
/-- t.index(x), t a tuple of texts -/
def idxF (xs : List D) (w : W) : Option W := match w with
  | .val (.str x) => (D.strs xs).bind fun ys => (ys.findIdx? fun y => decide (y = x)).map fun j => .val (.int (j : Int))
  | _ => none
def eIdx (a b : EM) : EM := fun u => M.bind (a u) fun x => M.bind (M.of x.tup?) fun xs => M.bind (b u) fun y => M.of (idxF xs y)
theorem me_idx {o e : Expr} {apos cpos : Pos} {mo me : EM} (ho : ME P o mo) (he : ME P e me)
    (hbase : attributeBase o "index" P.X.env (eval o P.X.env) = eval o P.X.env := by rfl) (hline : (apos.endLine == cpos.line) = true := by rfl) (hs : starEach [e] P.X.env = (false, eval e P.X.env) :: starEach [] P.X.env := by rfl)
    (hfew : ((backTo cpos (starEach [e] P.X.env)).all (fun q => !q.1) && (backToKw cpos (keywordEach [] P.X.env)).all (fun q => q.1.isSome) && decide (([e] : List Expr).length + ([] : List Keyword).length + (if ([] : List Keyword).isEmpty then 0 else 1) < 30)) = true := by rfl) :
    ME P (.Call (.Attribute o "index" apos) [e] [] cpos) (eIdx mo me) := by
  obtain ⟨to, po, hto⟩ := ho.out
  obtain ⟨te, pe, hte⟩ := he.out
  refine ME.mk' (pe_bmT PySem.F.slot_tuple_index PySem.F.type_tuple_index mt_tup_index po (pa_cons pe pa_nil hs) hfew hbase hs hline) fun B0 B s st u z Q wd sl h => hto B0 B s st u z _ wd sl (Post.bind h fun w st1 s1 v l1 wd1 r1 h1 => ?_)
  obtain ⟨xs, ex, h1⟩ := Post.of_of h1
  obtain rfl : w = .val (.tup xs) := by
    unfold W.tup? at ex
    split at ex
    · cases ex; rfl
    · cases ex
  cases r1 with
  | tup hq rl =>
    refine ⟨⟨_, _, rfl, hq.mono wd1.sub⟩, hte B0 B s1 st1 u z _ wd1 (sl.mono' l1) (Post.bind h1 fun w2 st2 s2 v2 l2 wd2 r2 h2 => ?_)⟩
    obtain ⟨w3, e3, h2⟩ := of_eq h2
    unfold idxF at e3
    split at e3
    · rename_i x
      cases h3 : D.strs xs with
      | none => rw [h3] at e3; cases e3
      | some ys =>
        rw [h3, Option.bind_some] at e3
        cases h4 : ys.findIdx? (fun y => decide (y = x)) with
        | none => rw [h4] at e3; cases e3
        | some j =>
          rw [h4] at e3
          cases e3
          cases r2
          have ev := strs_ok rl h3
          subst ev
          obtain ⟨hj, h5, h6⟩ := List.findIdx?_eq_some_iff_getElem.mp h4
          refine ⟨_, ys, x, j, rfl, rfl, ?_, ?_, fun m hm hx => ?_, h2.pure wd2 .int⟩
          · rw [P.hK]; exact ((hq.mono l2.fr).mono wd2.sub).sq
          · rw [List.getElem?_eq_getElem hj, of_decide_eq_true h5]
          · have := h6 m hm
            obtain ⟨hm', e5⟩ := List.getElem?_eq_some_iff.mp hx
            exact this (decide_eq_true e5)
    · cases e3
/-- xs[::-1] -/
def fRev (m : EM) : FM := fun u => M.bind (m u) fun w => M.of (w.ls.map List.reverse)
theorem rev_rep {K : KW} {F : Hp} {io : Io} : ∀ {xs : List D} {vs : List V}, RepL K F io xs vs → RepL K F io xs.reverse vs.reverse
  | _, _, .nil => .nil
  | _, _, .cons r t => by
    rw [List.reverse_cons, List.reverse_cons]
    exact (rev_rep t).append (.cons r .nil)
theorem mf_rev {e : Expr} {m : EM} {k : Nat} {p1 p2 p3 : Pos} (he : ME P e m) : MF P (.Subscript e (.Slice none none (some (.UnaryOp .USub (.Constant (.int 1) k p1) p2)) p3) pos) (fRev m) := by
  obtain ⟨t, pt, ht⟩ := he.out
  refine MF.mk' (pe_revL pt) fun B0 B s st u z Q wd sl h => ht B0 B s st u z _ wd sl (PostF.bind h fun w st1 s1 v l1 wd1 r1 h1 => ?_)
  cases e1 : w.ls with
  | none => rw [e1] at h1; exact h1.elim
  | some xs =>
    rw [e1] at h1
    obtain ⟨p, vs, rfl, hp, rl⟩ := ls_ok wd1 r1 e1
    exact ⟨p, vs, rfl, .inl (.inl hp), fun q hq => PostF.fresh h1 wd1 (rev_rep rl) hq⟩
/-- x = y.pop(), y a list of one's own -/
def sSetPop (j i : Nat) : SM := fun u st => match u[i]? with
  | some (some (.bor xs)) => match xs[xs.length - 1]? with
    | some d => .nx ((u.set i (some (.bor xs.dropLast))).set j (some (.val d))) st
    | none => .bad
  | _ => .bad
theorem repL_at {K : KW} {F : Hp} {io : Io} : ∀ {xs : List D} {vs : List V} {i : Nat} {d : D}, RepL K F io xs vs → xs[i]? = some d → ∃ v, vs[i]? = some v ∧ Rep K F io d v
  | _, _, _, _, .nil, e => by simp at e
  | _, _, 0, d, .cons r _, e => by
    simp at e
    subst e
    exact ⟨_, by simp, r⟩
  | _, _, i + 1, d, .cons _ t, e => by
    simp at e
    obtain ⟨v, h1, h2⟩ := repL_at t e
    exact ⟨v, by simpa using h1, h2⟩
theorem ms_setPop (j i : Nat) {x y : Str} {p py apos cpos : Pos} (hN : P.X.N.Nodup) (hj : P.X.N[j]? = some x := by rfl) (hx : Loc P.X.env.scope x := by first | exact Or.inl rfl | exact Or.inr rfl)
    (hi : P.X.N[i]? = some y := by rfl) (hv : Vis P.X.env.scope y := by first | exact Or.inl rfl | exact Or.inr (Or.inl rfl) | exact Or.inr (Or.inr rfl)) (hd : (y == ("__debug__" : Str)) = false := by decide)
    (hcd : (y == ("__classdict__" : Str)) = false := by decide)
    (hbase : attributeBase (.Name y py) "pop" P.X.env (eval (.Name y py) P.X.env) = eval (.Name y py) P.X.env := by rfl) (hline : (apos.endLine == cpos.line) = true := by rfl)
    (hs : swapsWith (.Call (.Attribute (.Name y py) "pop" apos) [] [] cpos) (some (.Name x p)) pos.line P.X.env = pure false := by rfl)
    (hf : P.X.fn x = true ∨ P.X.env.scope.names.lookup x = some .local := by first | exact .inl rfl | exact .inr rfl | assumption) :
    MS P (.Assign [.Name x p] (.Call (.Attribute (.Name y py) "pop" apos) [] [] cpos) pos) (sSetPop j i) := by
  refine MS.mk' (ps_set hN hj hx (pe_bm0 PySem.F.plainAttrs_list PySem.F.slot_list_pop PySem.F.type_list_pop mt_pop (pe_var hi hv hd hcd) hbase hline) hs hf) fun B0 B s o u z D b0 wd sl h => ?_
  unfold sSetPop at h
  split at h
  · rename_i xs e1
    split at h
    · rename_i d ed
      obtain ⟨p, vs, e2, bp, nb, hp, rl, ch⟩ := sl.change (ys := xs.dropLast) wd e1
      refine ⟨.ref p, e2, .inl ⟨rfl, vs, .inl (.inl hp)⟩, ?_⟩
      obtain ⟨v, ev, rv⟩ := repL_at rl ed
      rw [rl.length] at ev
      obtain ⟨sl2, w2, l2⟩ := ch vs.dropLast (dropLast_rep rl)
      exact ⟨p, vs, v, rfl, rfl, hp, ev, h B _ _ b0 l2 w2 (sl2.set (Rep.mono l2.fr l2.io rv) j)⟩
    · exact h.elim
  · exact h.elim
end
/-! ### d.get(k, x), d with tuple keys -/
def tGetDD2 (w : World) (td ty tx : TE) : TE := fun σ H Q => td σ H fun x H1 => ∃ a xs1, x = .ref a ∧ Rd H1 a (DkO w a xs1) ∧ (∀ x ∈ xs1, KeyH H1 x.1 x.2.1) ∧ ty σ H1 fun y H2 => tx σ H2 fun z H3 =>
  ∃ b k xs v, y = .ref b ∧ Rd H3 a (DkO w a xs) ∧ (∀ x ∈ xs, KeyH H3 x.1 x.2.1) ∧ KeyH H3 k b ∧ (∀ u, (atKey xs k).map (·.2) = some u → RelV v u) ∧ ((atKey xs k).map (·.2) = none → v = z) ∧ Q v H3
theorem pe_getDD2 {X : Cx} {o e f : Expr} {apos cpos : Pos} {td ty tx : TE} (hu : X.A.units + 65 < cLine) (ho : PE X o td) (he : PE X e ty) (hf : PE X f tx) (m : M2 X o "get" apos e f cpos) : PE X (.Call (.Attribute o "get" apos) [e, f] [] cpos) (tGetDD2 X.w td ty tx) := by
  refine ⟨fun pins now σ H Q inv wish => wpAny_Call_method m.base m.few m.line PySem.F.plainAttrs_dict PySem.F.slot_dict_get PySem.F.type_dict_get (thn (ho.run pins now σ H _ inv wish) fun u s1 ⟨x, H1, J, rx, a, xs1, ex, hr1, hk1, q1⟩ => ?_)⟩
  subst ex
  obtain rfl : u = Value.ref a := rx
  obtain ⟨_, _, dd1⟩ := dkO_of J.hok hr1 hk1
  refine ⟨dd1.typeIs, fun b q => ?_, ?_⟩
  · cases q
    obtain ⟨ob, _, _, g1, g2, _⟩ := dd1
    exact ⟨ob, g1, g2.2.1⟩
  rw [m.trees]
  refine Calls.callWith_builtin rfl (Calls.evalArgs_plain (Calls.spliced_cons (thn (he.run pins s1 σ H1 _ J q1) fun iv s2 ⟨y, H2, J2, ry, q2⟩ =>
    Calls.spliced_cons (thn (hf.run pins s2 σ H2 _ J2 q2) fun fv s3 ⟨z, H3, J3, rz, b, k, xs, v, ey, hr, hk, kb, hs, hn, q3⟩ => Calls.spliced_nil ?_))))
  subst ey
  cases (show iv = Value.ref b from ry)
  obtain ⟨hd, _, dd⟩ := dkO_of J3.hok hr hk
  refine call_meetsIn PySem.F.slot_dict_get dd.typeIs PySem.F.entry_dict_get (PySem.F.args_dict_get_3 _ _ _) (meetsH_dict_get_default (nestedKind X.prog X.w) a b hd fv) ⟨nroom hu, k, xs, kb _ _ _ J3.hok, dd, v, H3, J3.tok _, ?_, q3⟩
  cases q : (atKey xs k).map (·.2) with
  | some u => exact hs u q
  | none => rw [hn q]; exact rz
def eGetD2 (a b c : EM) : EM := fun u => M.bind (a u) fun d => M.bind (ddOf d) fun _ => M.bind (b u) fun k => M.bind (M.of k.d) fun kd => M.bind (M.of kd.tk) fun x => M.bind (c u) fun z => M.bind (M.of z.d) fun zd => M.bind (ddOf d) fun q => M.pure (.val ((ddAt q.1 q.2 x).getD zd))
section
variable {P : P3}
theorem me_getD2 {o e f : Expr} {apos cpos : Pos} {mo me mf : EM} (hu : P.X.A.units + 65 < cLine) (ho : ME P o mo) (he : ME P e me) (hf : ME P f mf) (m : M2 P.X o "get" apos e f cpos := by exact ⟨rfl, rfl, rfl, rfl⟩) : ME P (.Call (.Attribute o "get" apos) [e, f] [] cpos) (eGetD2 mo me mf) := by
  obtain ⟨to, po, hto⟩ := ho.out
  obtain ⟨te, pe, hte⟩ := he.out
  obtain ⟨tf, pf, htf⟩ := hf.out
  refine ME.mk' (pe_getDD2 hu po pe pf m) fun B0 B s st u z Q wd sl h => hto B0 B s st u z _ wd sl (Post.bind h fun w1 st1 s1 v1 l1 wd1 r1 h1 => ?_)
  obtain ⟨ks0, us0, c0, xs0, _, rfl, hr0, dr0, g1⟩ := Post.of_dd wd1 r1 h1
  clear h1
  refine ⟨c0, xs0, rfl, by rw [P.hw]; exact hr0, dr0.keyH wd1.sub, ?_⟩
  refine hte B0 B s1 st1 u z _ wd1 (sl.mono l1) (Post.bind g1 fun w2 st2 s2 v2 l2 wd2 r2 h2 => ?_)
  obtain ⟨kd, ek, g2⟩ := Post.of_of h2
  obtain ⟨x, ex, g3⟩ := Post.of_of g2
  refine htf B0 B s2 st2 u z _ wd2 ((sl.mono l1).mono l2) (Post.bind g3 fun w3 st3 s3 v3 l3 wd3 r3 h3 => ?_)
  clear g1 h2 g2 g3
  obtain ⟨zd, ez, g4⟩ := Post.of_of h3
  obtain ⟨ks, us, c, xs, _, ec, hr, dr, g5⟩ := Post.of_dd wd3 ((r1.mono l2).mono l3) g4
  clear h3 g4
  cases ec
  obtain rfl := d_val ek
  obtain rfl := d_val ez
  obtain ⟨bb, rfl, kb⟩ := tk_ok (H := s3.H) wd3.sub (Rep.mono l3.fr l3.io r2) ex
  obtain ⟨a1, a2, a3⟩ := dd_at (x := x) dr
  have h4 : Post P.G B (RepW P.G P.hx B) (fun c d H => P.wx c d z H) s3 Q (.ok (.val ((ddAt ks us x).getD zd)) st3) := g5
  clear g5
  cases q : ddAt ks us x with
  | some y =>
    obtain ⟨cc, uu, v, e1, e2, e3⟩ := a1 y q
    rw [q] at h4
    exact ⟨bb, x, xs, v, rfl, by rw [P.hw]; exact hr, dr.keyH wd3.sub, kb, (fun u' hu' => by rw [e1] at hu'; cases hu'; exact e2), (fun hn => by rw [e1] at hn; cases hn), h4.pure wd3 e3⟩
  | none =>
    rw [q] at h4 a3
    have nn : atKey xs x = none := by
      cases w : atKey xs x with
      | none => rfl
      | some p => rw [w, ← a3] at a2; cases a2
    exact ⟨bb, x, xs, v3, rfl, by rw [P.hw]; exact hr, dr.keyH wd3.sub, kb, (fun u' hu' => by rw [nn] at hu'; cases hu'), (fun _ => rfl), h4.pure wd3 r3⟩
end
end M3


namespace M3
open PySem PySem.Spec PyProof.Rows L2
section
variable {a b c : EM} {u : Sl3} {st : Store} {kw} {ks}
@[simp] theorem run_eGetD2 : run (eGetD2 a b c u st) kw = run (a u st) (kBind (fun d => M.bind (ddOf d) fun _ => M.bind (b u) fun k => M.bind (M.of k.d) fun kd => M.bind (M.of kd.tk) fun x => M.bind (c u) fun z => M.bind (M.of z.d) fun zd => M.bind (ddOf d) fun q => M.pure (.val ((ddAt q.1 q.2 x).getD zd))) kw) := run_bind _ _
theorem run_sSetPop (j i : Nat) {xs : List D} {d : D} (h : u[i]? = some (some (.bor xs))) (e : xs[xs.length - 1]? = some d) : srun (sSetPop j i u st) ks = ks (.nx ((u.set i (some (.bor xs.dropLast))).set j (some (.val d))) st) := by
  unfold srun sSetPop
  rw [h]
  dsimp only
  rw [e]
end
end M3


/-! a list of one's own, lent for a call -/
namespace M3
open PySem PySem.Spec PyProof.Rows L2
def W.arg : W → Option W
  | .val d => some (.val d)
  | .len xs => some (.len xs)
  | _ => none
def argsW : List W → Option (List W)
  | [] => some []
  | w :: ws => match w.arg, argsW ws with
    | some a, some as => some (a :: as)
    | _, _ => none
theorem arg_eq {w a : W} (e : w.arg = some a) : a = w ∧ a.own = false ∧ ∀ c x, a ≠ .exn c x := by
  cases w <;> cases e <;> exact ⟨rfl, rfl, fun _ _ z => by cases z⟩
theorem argsW_eq : ∀ {ws as : List W}, argsW ws = some as → as = ws ∧ ∀ a ∈ as, a.own = false ∧ ∀ c x, a ≠ .exn c x
  | [], _, e => by cases e; exact ⟨rfl, fun a h => by cases h⟩
  | w :: ws, as, e => by
    unfold argsW at e
    split at e
    · rename_i a as' h1 h2
      cases e
      obtain ⟨rfl, h⟩ := arg_eq h1
      obtain ⟨rfl, hs⟩ := argsW_eq h2
      exact ⟨rfl, fun b hb => (List.mem_cons.mp hb).elim (fun z => z ▸ h) (hs b)⟩
    · cases e
/-- a def's mirror over what it is handed: data, lent lists -/
def mfnW (N : Nat) (mb : SM) : List W → M D := fun ws st => match mb (ws.map some ++ List.replicate (N - ws.length) none) st with
  | .nx _ st' => .ok .non st'
  | .rt (.val d) st' => .ok d st'
  | .rt (.bor xs) st' => .ok (.lst xs) st'
  | .err c x _ st' => .err c x st'
  | _ => .bad
def spMW (G : G3) (n : Nat) (m : List W → M D) : Sp := fun vs H Q E => vs.length = n ∧ ∃ (B : Addr → Prop) (s : S3) (st : Store) (ws : List W), s.H = H ∧ Wd G B st s ∧ RepWs G none B s ws vs ∧ (∀ a ∈ ws, a.own = false ∧ ∀ c x, a ≠ .exn c x) ∧
  Post G B (fun s d v => Rep G.R s.F s.io d v) E s Q (m ws st)
theorem RepWs.get {G : G3} {X : Hex} {B : Addr → Prop} {s : S3} : ∀ {ws : List W} {vs : List V} {i : Nat} {w : W}, RepWs G X B s ws vs → ws[i]? = some w → ∃ v, vs[i]? = some v ∧ RepW G X B s w v
  | _, _, _, _, .nil, e => by simp at e
  | _, _, 0, _, .cons r _, e => by simp at e; subst e; exact ⟨_, rfl, r⟩
  | _, _, i + 1, _, .cons _ t, e => by
    obtain ⟨v, h1, h2⟩ := RepWs.get (i := i) t (by simpa using e)
    exact ⟨v, by simpa using h1, h2⟩
theorem RepW.any {G : G3} {X X' : Hex} {B : Addr → Prop} {s : S3} {w : W} {v : V} (r : RepW G X B s w v) (h : ∀ c x, w ≠ .exn c x) : RepW G X' B s w v := by
  cases w with
  | exn c x => exact absurd rfl (h c x)
  | _ => exact r
theorem RepWs.any {G : G3} {X X' : Hex} {B : Addr → Prop} {s : S3} : ∀ {ws : List W} {vs : List V}, RepWs G X B s ws vs → (∀ a ∈ ws, a.own = false ∧ ∀ c x, a ≠ .exn c x) → RepWs G X' B s ws vs
  | _, _, .nil, _ => .nil
  | _, _, .cons r t, h => .cons (r.any (h _ List.mem_cons_self).2) (RepWs.any t fun a ha => h a (List.mem_cons_of_mem _ ha))
theorem slo_startW {G : G3} {X : Hex} {B0 B : Addr → Prop} {s : S3} {N : List Str} {ws : List W} {vs : List V} (r : RepWs G X B s ws vs) (h : ∀ a ∈ ws, a.own = false ∧ ∀ c x, a ≠ .exn c x) :
    Slo G X B0 B s (ws.map some ++ List.replicate (N.length - ws.length) none) (L2.start N vs) := by
  have hl := r.length
  have at_ : ∀ {i : Nat} {w : W}, (ws.map some ++ List.replicate (N.length - ws.length) none)[i]? = some (some w) → ws[i]? = some w := fun {i w} e => by
    by_cases hi : i < ws.length
    · rw [List.getElem?_append_left (by simpa using hi), List.getElem?_map] at e
      cases q : ws[i]? with
      | none => rw [q] at e; cases e
      | some d => rw [q] at e; cases e; rfl
    · rw [List.getElem?_append_right (by simpa using hi), List.getElem?_replicate] at e
      split at e <;> cases e
  refine ⟨by unfold L2.start; simp [hl], fun _ => 0, fun i w e => ?_, fun i j w w' o1 o2 e1 e2 _ => ?_⟩
  · obtain ⟨v, e2, rv⟩ := r.get (at_ e)
    refine ⟨v, ?_, rv, fun q => ?_⟩
    · unfold L2.start
      have hi : i < vs.length := (List.getElem?_eq_some_iff.mp e2).1
      rw [List.getElem?_append_left (by simpa using hi), List.getElem?_map, e2]
      rfl
    · rw [(h w (List.mem_of_getElem? (at_ e))).1] at q; cases q
  · rw [(h w (List.mem_of_getElem? (at_ e1))).1] at o1; cases o1
section
variable {P : Program} {w : World} {K : PySem.W.Frag} {mg : Str → Option Value} {base : Heap}
theorem fn_okW {G : G3} (hK : K = G.K) (hw : w = G.w) {x qual : Str} {st : Stmt} {f : Addr} {fd : FuncData} {N ps : List Str} {k : Nat} {mb : SM} (F : Fun K x qual st f fd) (S : FnScope N ps (defScope st))
    (h : ∀ (cdv : Value) (A : Around) (outer : List Env) (s : Shared) (H : Hp) (E : XK), Room k (A.deeper (envOfC qual (defScope st) s.heap.objs.size f cdv)) →
      MSs ⟨cxOf (L2.CX P w) P w K mg base N qual (defScope st) f cdv A outer s H E, G, none, fun cls d _ H => E cls d H, hK, hw⟩ (defBody st) mb) :
    FnOk P w K mg base (L2.CX P w) (k + 1) f fd ps (spMW G ps.length (mfnW N.length mb)) := by
  refine F.okX S (fun vs H Q E h => h.1) fun cdv A outer s0 H vs Q E hr ⟨hl, B, s, o, ws, e, wd, rl, ha, hp⟩ => ?_
  subst e
  obtain ⟨t, pt, ht⟩ := (h cdv A outer s0 s.H E hr).out
  refine ⟨t, pt, ht B B s o _ _ _ (fun _ b => b) wd (slo_startW (N := N) rl ha) ?_⟩
  unfold mfnW at hp
  cases em : mb (ws.map some ++ List.replicate (N.length - ws.length) none) o with
  | nx u' st' => rw [em] at hp; exact fun B' s' z' b l w sl => hp s' .non l (w.less b) .non
  | rt w st' =>
    rw [em] at hp
    cases w with
    | val d => exact fun B' s' v b l w r => hp s' v l (w.less b) r
    | bor xs =>
      rintro B' s' v b l w ⟨p, vs', rfl, bp, nb, hq, r⟩
      have w' : Wd G (plus B p) st' s' := w.less fun a q => q.elim (b a) fun z => z ▸ bp
      exact hp ⟨s'.io, upd s'.F p (.lst vs'), s'.H⟩ (.ref p) (l.trans (freeze_le w')) (freeze_wd w' nb hq) (.lst upd_same (r.mono (freeze_le w').fr (freeze_le w').io))
    | _ => exact hp.elim
  | bk u' st' => rw [em] at hp; exact hp.elim
  | ct u' st' => rw [em] at hp; exact hp.elim
  | err c x u' st' => rw [em] at hp; exact fun B' s' z' cv dd b l w sl q => hp s' cv dd l (w.less b) q
  | bad => rw [em] at hp; exact hp.elim
end
structure CalW (Pg : Program) (w : World) (K : PySem.W.Frag) (mg : Str → Option Value) (base : Heap) (G : G3) (k : Nat) (x : Str) (n : Nat) (m : List W → M D) : Prop where
  ex : ∃ f fd ps, mg x = some (.ref f) ∧ PySem.W.keepIn K (.ref f) = true ∧ Binds K fd ps [] ∧ ps.length = n ∧ FnOk Pg w K mg base (L2.CX Pg w) k f fd ps (spMW G n m)
def eCallW (n : Nat) (m : List W → M D) (ma : AM) : EM := fun u => M.bind (ma u) fun ws => M.bind (M.of (argsW ws)) fun as => M.bind (M.chk (as.length = n)) fun _ => M.bind (m as) fun d => M.pure (.val d)
section
variable {P : P3} {pos p : Pos} {x : Str} {e : Expr} {es : List Expr} {ma : AM} {m : List W → M D} {k j n : Nat}
theorem me_callW (c : CalW P.X.prog P.X.w P.X.K P.X.mg P.X.base P.G k x n m) (hr : Room j P.X.A) (hk : k ≤ j) (tk : Takes P.X P.wx) (hg : Gl P.X x) (ha : MA P (e :: es) ma)
    (hdb : (x == ("__debug__" : Str)) = false := by decide) (he : starEach (e :: es) P.X.env = (false, eval e P.X.env) :: starEach es P.X.env := by rfl) (hpl : (backTo pos (starEach es P.X.env)).any (·.1) = false := by rfl) :
    ME P (.Call (.Name x p) (e :: es) [] pos) (eCallW n m ma) := by
  obtain ⟨f, fd, ps, hm, hkp, hb, hn, F⟩ := c.ex
  obtain ⟨t, pt, ht⟩ := ha.out
  refine ME.mk' (pe_callS F (hr.mono hk) hg hm hkp hb (fun σ => passAt tk σ) pt hdb he hpl) fun B0 B s st u z Q wd sl h => ht B0 B s st u z _ wd sl (Post.bind h fun ws st1 s1 vs l1 wd1 r1 h1 => ?_)
  obtain ⟨as, e, h2⟩ := Post.of_of h1
  obtain ⟨hl, h3⟩ := Post.of_chk h2
  clear h1 h2
  obtain ⟨ea, hh⟩ := argsW_eq e
  subst ea
  refine ⟨by rw [← r1.length]; exact hl, B, s1, st1, as, rfl, wd1, r1.any hh, hh, ?_⟩
  unfold M.bind at h3
  cases em : m as st1 with
  | ok d st' => rw [em] at h3; exact fun s' v l w r => h3 s' v l w r
  | err c x st' => rw [em] at h3; exact h3
  | bad => rw [em] at h3; exact h3
/-- e, while the list at slot i is lent -/
def eLend (i : Nat) (m : EM) : EM := fun u st => match u[i]? with
  | some (some (.bor xs)) => match m (u.set i (some (.len xs))) st with
    | .ok (.val d) st' => .ok (.val d) st'
    | _ => .bad
  | _ => .bad
theorem me_lend (i : Nat) {m : EM} (h : ME P e m) : ME P e (eLend i m) := by
  obtain ⟨t, pt, ht⟩ := h.out
  refine ME.mk' (pe_lock pt) fun B0 B s st u z Q wd sl h => ?_
  unfold eLend at h
  cases eu : u[i]? with
  | none => rw [eu] at h; exact h.elim
  | some ow =>
    rw [eu] at h
    cases ow with
    | none => exact h.elim
    | some w =>
      cases w with
      | bor xs =>
        dsimp only at h
        obtain ⟨p, ez, bp, nb, ⟨p', vs, e', _, hp, rl⟩, ch⟩ := sl.changeW wd eu rfl
        cases e'
        refine ⟨p, .lst vs, hp, True.intro, fun od => ?_⟩
        have hF := (wd.hid p bp).1
        -- the slots, the list lent
        have sl2 : Slo P.G P.hx B0 B ⟨s.io, s.F, upd s.H p (.frz od (.lst vs))⟩ (u.set i (some (.len xs))) z := by
          obtain ⟨hl, ow, h1, h2⟩ := sl
          obtain ⟨v0, ez0, r0, q0⟩ := h1 i _ eu
          rw [ez] at ez0
          cases ez0
          obtain ⟨eow, _⟩ := q0 rfl
          injection eow with eow
          refine ⟨by simpa using hl, ow, fun j w ej => ?_, fun j k w w' o1 o2 e1 e2 e => ?_⟩
          · rcases get_set ej with ⟨rfl, rfl⟩ | ⟨ne, ej⟩
            · exact ⟨.ref p, ez, ⟨p, vs, od, rfl, bp, upd_same, rl⟩, fun q => by cases q⟩
            · obtain ⟨v, ev, rv, qv⟩ := h1 j w ej
              refine ⟨v, ev, ?_, qv⟩
              have away : w.own = true → ∀ p', v = .ref p' → p' ≠ p := fun ow' p' e' y => by
                obtain ⟨e4, _⟩ := qv ow'
                rw [e'] at e4
                injection e4 with e4
                exact ne (h2 i j (.bor xs) w rfl ow' eu ej (by rw [← e4, y, eow]))
              cases w with
              | val d => exact rv
              | exn c x => exact rv
              | bor xs' => obtain ⟨p', vs', rfl, b', hp', rl'⟩ := rv; exact ⟨p', vs', rfl, b', (upd_ne (away rfl p' rfl)).trans hp', rl'⟩
              | bod ks us => obtain ⟨p', vs', rfl, b', hp', rl'⟩ := rv; exact ⟨p', vs', rfl, b', (upd_ne (away rfl p' rfl)).trans hp', rl'⟩
              | bdd ks us => obtain ⟨p', vs', rfl, b', hp', rl'⟩ := rv; exact ⟨p', vs', rfl, b', (upd_ne (away rfl p' rfl)).trans hp', rl'⟩
              | len ys => obtain ⟨p', vs', o, rfl, b', hp', rl'⟩ := rv; exact ⟨p', vs', o, rfl, b', (upd_ne (fun y => by subst y; rw [hp] at hp'; cases hp')).trans hp', rl'⟩
          · rcases get_set e1 with ⟨_, q⟩ | ⟨_, e1⟩
            · subst q; cases o1
            · rcases get_set e2 with ⟨_, q⟩ | ⟨_, e2⟩
              · subst q; cases o2
              · exact h2 j k w w' o1 o2 e1 e2 e
        have put : ∀ {st : Store} {s : S3} {o : HO}, OwnH o → Wd P.G B st s → Wd P.G B st ⟨s.io, s.F, upd s.H p o⟩ := fun {st s o} nt w => by
          refine ⟨fun b v eb => ?_, fun a ba => ?_, w.ftb, w.dom, w.inj, fun k v ek t => ?_, w.untM (IoLe.refl _) (Same.refl _), w.tabM (Same.refl _) (upd_tbl (w.ntbl bp))⟩
          · show upd s.H p o b = some v
            rw [upd_ne (fun y => by subst y; have eb : s.F b = some v := eb; rw [(w.hid b bp).1] at eb; cases eb)]
            exact w.sub b v eb
          · obtain ⟨a1, v, a2, a3⟩ := w.hid a ba
            by_cases q : a = p
            · subst q; exact ⟨a1, _, upd_same, nt⟩
            · exact ⟨a1, v, (upd_ne q).trans a2, a3⟩
          · obtain ⟨a, a1, a2, a3, a4⟩ := w.obj k v ek t
            have na : a ≠ p := fun y => a2 (y ▸ bp)
            exact ⟨a, a1, a2, a3, ObjR.mono (s := s) (s' := ⟨s.io, s.F, upd s.H p o⟩) (IoLe.refl _) (Same.refl _) (upd_ne na) a4⟩
        refine ht B0 B ⟨s.io, s.F, upd s.H p (.frz od (.lst vs))⟩ st _ z _ (put (by exact ⟨fun _ q => (by cases q), fun _ _ q => (by first | exact dkO_code q | exact cellO_code q | (unfold LamX.CodeO at q; cases q))⟩) wd) sl2 ?_
        cases em : m (u.set i (some (.len xs))) st with
        | bad => rw [em] at h; exact h.elim
        | err c x st' => rw [em] at h; exact h.elim
        | ok w st' =>
          rw [em] at h
          cases w with
          | val d =>
            intro s' v l w' r
            have at_ : s'.H p = some (.frz od (.lst vs)) := (l.hid p bp).trans upd_same
            refine ⟨at_, h ⟨s'.io, s'.F, upd s'.H p (.lst vs)⟩ v ⟨l.io, l.fr, fun a ba => ?_⟩ (put (by exact ⟨fun _ q => (by cases q), fun _ _ q => (by first | exact dkO_code q | exact cellO_code q | (unfold LamX.CodeO at q; cases q))⟩) w') r⟩
            show upd s'.H p (.lst vs) a = s.H a
            by_cases q : a = p
            · subst q; rw [upd_same, hp]
            · rw [upd_ne q]; exact (l.hid a ba).trans (upd_ne q)
          | _ => exact h.elim
      | _ => exact h.elim
end
/-! running -/
section
variable {k : Res W → Prop} {kd : Res D → Prop} {st : Store} {u : Sl3} {m : EM} {ma : AM}
theorem run_mfnW (N : Nat) (mb : SM) (ws : List W) : run (mfnW N mb ws st) kd = srun (mb (ws.map some ++ List.replicate (N - ws.length) none) st) (kRet kd) := by
  unfold run mfnW srun kRet
  cases mb (ws.map some ++ List.replicate (N - ws.length) none) st with
  | rt w st' => cases w <;> rfl
  | _ => rfl
@[simp] theorem run_eCallW (n : Nat) (f : List W → M D) : run (eCallW n f ma u st) k = run (ma u st) (kBind (fun ws => M.bind (M.of (argsW ws)) fun as => M.bind (M.chk (as.length = n)) fun _ => M.bind (f as) fun d => M.pure (.val d)) k) := run_bind _ _
def kLend (k : Res W → Prop) : Res W → Prop
  | .ok (.val d) st' => k (.ok (.val d) st')
  | _ => k .bad
@[simp] theorem kLend_ok (d : D) : kLend k (.ok (.val d) st) = k (.ok (.val d) st) := rfl
theorem run_eLend (i : Nat) {xs : List D} (h : u[i]? = some (some (.bor xs))) : run (eLend i m u st) k = run (m (u.set i (some (.len xs))) st) (kLend k) := by
  unfold run eLend kLend
  rw [h]
  dsimp only
  cases m (u.set i (some (.len xs))) st with
  | ok w st' => cases w <;> rfl
  | _ => rfl
@[simp] theorem lstCF_len (xs : List D) : lstCF [.len xs] = some xs := rfl
@[simp] theorem lenF_len (xs : List D) : lenF [.len xs] = some (.val (.int xs.length)) := rfl
@[simp] theorem ixF_len (xs : List D) (i : Int) : ixF (.len xs) (.val (.int i)) = (atI xs i).map .val := rfl
@[simp] theorem argsW_nil : argsW [] = some [] := rfl
@[simp] theorem argsW_val (d : D) (ws : List W) : argsW (.val d :: ws) = (argsW ws).map (.val d :: ·) := by
  rw [argsW]; cases argsW ws <;> rfl
@[simp] theorem argsW_len (xs : List D) (ws : List W) : argsW (.len xs :: ws) = (argsW ws).map (.len xs :: ·) := by
  rw [argsW]; cases argsW ws <;> rfl
end
end M3


/-! lists that are shared: objects of the store; x.count(y) on lists -/
namespace M3
open PySem PySem.Spec PyProof.Rows L2

/-! ### x.count(y), x a list -/
def rCountL (K : PySem.W.Frag) : V → List V → Hp → VK → Prop := fun x xs H Q => ∃ (y : V) (d : PyData) (ds : List PyData), xs = [y] ∧ Dp K H x (.list ds) ∧ Dp K H y d ∧ SeqAt.shaped (.list ds) = true ∧ SeqAt.shaped d = true ∧
  Q (.int ((ds.countP fun z => PyData.eqv z d : Nat) : Int)) H
section
variable {X : Cx}
theorem mt_countL (hu : X.A.units + 65 < cLine) : MtR X "list.count" (rCountL X.K) := by
  rintro pins now σ H x _ v us Q inv rx args ⟨y, d, ds, rfl, dx, dy, shx, shy, q⟩
  obtain ⟨uy, rfl, ry⟩ := args.one
  obtain ⟨_, ready⟩ := Dp.reads inv d y uy dy ry
  have can := SeqAt.canLay_of_shaped shx
  cases dx with
  | @lst p xs _ here parts =>
    obtain rfl : v = .ref p := rx
    obtain ⟨its, vals, hq, -⟩ := inv.list here
    obtain ⟨ob, n, there, isL, -, body⟩ := hq
    obtain ⟨ocls, odict, odata, oslots⟩ := ob
    dsimp only at isL body
    subst isL body
    obtain ⟨as, readx⟩ := Dp.readsAll inv ds xs its parts vals
    have same : (its.toArray.toList.countP fun u => PyData.eqv (SeqAt.readOf now.heap u) d) = ds.countP fun z => PyData.eqv z d := by
      conv => rhs; rw [← SeqAt.readsAll_map ds its as can readx, List.countP_map]
      rfl
    have m := SeqAt.list_countAt p its.toArray n odict oslots uy fun u => PyData.eqv (SeqAt.readOf now.heap u) d
    refine call_meets PySem.F.slot_list_count ⟨_, there, rfl⟩ PySem.F.entry_list_count (PySem.F.args_list_count_2 _ _) m ⟨there, ?_, V.int _, H, inv.tok _, ⟨_, rfl⟩, same.symm ▸ q⟩
    exact SeqAt.items_eqAt (vs := its.toArray) (xs := ds) (as := as) readx ready can (SeqAt.canLay_of_shaped shy) (room_in_shaped shy hu)
end
def cntL (xs : List D) (w : W) : Option W := w.rd.bind fun d => match D.pys xs, d.py with
  | some ps, some p => if SeqAt.shaped p = true ∧ SeqAt.shaped (.list ps) = true then some (.val (.int ((ps.countP fun z => PyData.eqv z p : Nat) : Int))) else none
  | _, _ => none
def eCntL (a b : EM) : EM := fun u => M.bind (a u) fun x => M.bind (M.of x.ls) fun xs => M.bind (b u) fun y => M.bind (M.of x.ls) fun _ => M.of (cntL xs y)
section
variable {P : P3}
theorem me_cntL {o e : Expr} {apos cpos : Pos} {mo me : EM} (hu : P.X.A.units + 65 < cLine) (ho : ME P o mo) (he : ME P e me)
    (hbase : attributeBase o "count" P.X.env (eval o P.X.env) = eval o P.X.env := by rfl) (hline : (apos.endLine == cpos.line) = true := by rfl) (hs : starEach [e] P.X.env = (false, eval e P.X.env) :: starEach [] P.X.env := by rfl)
    (hplain : (backTo cpos (starEach [] P.X.env)).any (·.1) = false := by rfl)
    (hfew : ((backTo cpos (starEach [e] P.X.env)).all (fun q => !q.1) && (backToKw cpos (keywordEach [] P.X.env)).all (fun q => q.1.isSome) && decide (([e] : List Expr).length + ([] : List Keyword).length + (if ([] : List Keyword).isEmpty then 0 else 1) < 30)) = true := by rfl) :
    ME P (.Call (.Attribute o "count" apos) [e] [] cpos) (eCntL mo me) := by
  obtain ⟨to, po, hto⟩ := ho.out
  obtain ⟨te, pe, hte⟩ := he.out
  refine ME.mk' (pe_bm PySem.F.plainAttrs_list PySem.F.slot_list_count PySem.F.type_list_count (mt_countL hu) po (pa_cons pe pa_nil hs) hbase hfew hline hs hplain) fun B0 B s st u z Q wd sl h => hto B0 B s st u z _ wd sl (Post.bind h fun w st1 s1 v1 l1 wd1 r1 h1 => ?_)
  obtain ⟨xs, ex, h1⟩ := Post.of_of h1
  obtain ⟨p, vs, rfl, hp, rl⟩ := ls_ok wd1 r1 ex
  refine ⟨.inl ⟨rfl, vs, .inl (.inl hp)⟩, hte B0 B s1 st1 u z _ wd1 (sl.mono' l1) (Post.bind h1 fun w2 st2 s2 v2 l2 wd2 r2 h2 => ?_)⟩
  obtain ⟨_, _, h2⟩ := Post.of_of h2
  obtain ⟨w3, e3, h2⟩ := of_eq h2
  obtain ⟨p', vs', e', hp', rl'⟩ := ls_ok wd2 (r1.mono l2) ex
  cases e'
  unfold cntL at e3
  cases hy : w2.rd with
  | none => rw [hy] at e3; cases e3
  | some d =>
    rw [hy, Option.bind_some] at e3
    split at e3
    · rename_i ps pd eps ep
      split at e3
      · rename_i hsh
        cases e3
        refine ⟨v2, pd, ps, rfl, ?_, ?_, hsh.2, hsh.1, h2.pure wd2 .int⟩
        · rw [P.hK]; exact .lst (.inl (.inl hp')) (pys_ok (rl'.mono wd2.sub (IoLe.refl _)) eps)
        · rw [P.hK]; exact py_ok (rd_ok wd2 r2 hy) ep
      · cases e3
    · cases e3
end
@[simp] theorem run_eCntL {a b : EM} {u : Sl3} {st : Store} {kw : Res W → Prop} : run (eCntL a b u st) kw = run (a u st) (kBind (fun x => M.bind (M.of x.ls) fun xs => M.bind (b u) fun y => M.bind (M.of x.ls) fun _ => M.of (cntL xs y)) kw) := run_bind _ _

/-! ### a list of one's own becomes an object of the store -/
def sShare (i : Nat) : SM := fun u st => match u[i]? with
  | some (some (.bor xs)) => .nx (u.set i (some (.val (.ref st.length)))) (st ++ [.lst xs])
  | _ => .bad
theorem Wd.share {G : G3} {B : Addr → Prop} {s : S3} {st : Store} {p : Addr} {xs : List D} {vs : List V} (w : Wd G (plus B p) st s) (nb : ¬ B p) (hp : s.H p = some (.lst vs)) (rl : RepL G.R s.F s.io xs vs) :
    Wd G B (st ++ [.lst xs]) ⟨ioNew s.io st.length p, s.F, s.H⟩ ∧ IoLe s.io (ioNew s.io st.length p) ∧ ioNew s.io st.length p st.length = some p := by
  have hF := (w.hid p (.inr rfl)).1
  have grow : IoLe s.io (ioNew s.io st.length p) := fun k a e => by
    have := w.dom k a e
    unfold ioNew
    rw [if_neg (by omega)]
    exact e
  have out : ∀ k a o, s.io k = some a → st[k]? = some o → o.tr = true → a ≠ p := fun k a o e eo t q => by
    obtain ⟨b, e2, nb2, _⟩ := w.obj k o eo t
    rw [e] at e2
    cases e2
    exact nb2 (.inr q)
  refine ⟨⟨w.sub, fun a b => w.hid a (.inl b), w.ftb, fun k a e => ?_, fun j k a oj ok e1 e2 q1 t1 q2 t2 => ?_, fun k o e t => ?_, fun k o e t => ?_, w.tabM (Same.refl _) fun _ _ e => e⟩, grow, if_pos rfl⟩
  · have e : (if k = st.length then some p else s.io k) = some a := e
    rw [List.length_append]
    split at e
    · simp; omega
    · have := w.dom k a e
      omega
  · have e1 : (if j = st.length then some p else s.io j) = some a := e1
    have e2 : (if k = st.length then some p else s.io k) = some a := e2
    split at e1 <;> split at e2
    · omega
    · cases e1; rw [List.getElem?_append_left (w.dom k _ e2)] at q2; exact absurd rfl (out _ _ _ e2 q2 t2)
    · cases e2; rw [List.getElem?_append_left (w.dom j _ e1)] at q1; exact absurd rfl (out _ _ _ e1 q1 t1)
    · rw [List.getElem?_append_left (w.dom j _ e1)] at q1
      rw [List.getElem?_append_left (w.dom k _ e2)] at q2
      exact w.inj j k a _ _ e1 e2 q1 t1 q2 t2
  · by_cases q : k < st.length
    · rw [List.getElem?_append_left q] at e
      obtain ⟨a, e1, b1, f1, o1⟩ := w.obj k o e t
      exact ⟨a, grow k a e1, fun z => b1 (.inl z), f1, ObjR.mono (s := s) (s' := ⟨ioNew s.io st.length p, s.F, s.H⟩) grow (Same.refl _) rfl o1⟩
    · have hk := (List.getElem?_eq_some_iff.mp e).1
      rw [List.length_append] at hk
      simp at hk
      obtain rfl : k = st.length := by omega
      rw [List.getElem?_append_right (Nat.le_refl _)] at e
      simp at e
      subst e
      exact ⟨p, if_pos rfl, nb, hF, vs, hp, rl.mono (Same.refl _) grow⟩
  · by_cases q : k < st.length
    · rw [List.getElem?_append_left q] at e
      exact w.untM (s' := ⟨ioNew s.io st.length p, s.F, s.H⟩) grow (Same.refl _) k o e t
    · have hk := (List.getElem?_eq_some_iff.mp e).1
      rw [List.length_append] at hk
      simp at hk
      rw [List.getElem?_append_right (by omega), show k - st.length = 0 by omega] at e
      simp at e
      subst e
      cases t
theorem Slo.share {G : G3} {X : Hex} {B0 B : Addr → Prop} {s : S3} {u : Sl3} {z : L2.St} {i : Nat} {xs : List D} {st : Store} (h : Slo G X B0 B s u z) (b0 : ∀ a, B0 a → B a) (wd : Wd G B st s) (e : u[i]? = some (some (.bor xs))) :
    ∃ (B' : Addr → Prop) (s' : S3), s'.H = s.H ∧ (∀ a, B0 a → B' a) ∧ Le B0 s s' ∧ Wd G B' (st ++ [.lst xs]) s' ∧ Slo G X B0 B' s' (u.set i (some (.val (.ref st.length)))) z := by
  obtain ⟨hl, ow, h1, h2⟩ := h
  obtain ⟨v, e1, ⟨p, vs, rfl, bp, hp, rl⟩, q⟩ := h1 i _ e
  obtain ⟨e3, nb⟩ := q rfl
  injection e3 with e3
  subst e3
  have wd' : Wd G (plus (fun a => B a ∧ a ≠ ow i) (ow i)) st s := wd.less fun a z => z.elim (fun z => z.1) fun z => z ▸ bp
  have nB : ¬ (fun a => B a ∧ a ≠ ow i) (ow i) := fun z => z.2 rfl
  obtain ⟨wn, gr, at_⟩ := wd'.share nB hp rl
  refine ⟨fun a => B a ∧ a ≠ ow i, ⟨ioNew s.io st.length (ow i), s.F, s.H⟩, rfl, fun a q => ⟨b0 a q, fun z => nb (z ▸ q)⟩, ⟨gr, Same.refl _, fun _ _ => rfl⟩, wn, by simpa using hl, ow, fun j w ej => ?_, fun j k w w' o1 o2 q1 q2 q3 => ?_⟩
  · rcases get_set ej with ⟨rfl, rfl⟩ | ⟨ne, ej⟩
    · exact ⟨.ref (ow i), e1, Rep.ref at_, fun q' => by cases q'⟩
    · obtain ⟨v, ev, rv, qv⟩ := h1 j w ej
      refine ⟨v, ev, ?_, qv⟩
      have away : w.own = true → ∀ p', v = .ref p' → p' ≠ ow i := fun ow' p' e' z => by
        obtain ⟨e4, _⟩ := qv ow'
        rw [e'] at e4
        injection e4 with e4
        exact ne (h2 i j (.bor xs) w rfl ow' e ej (by rw [← e4, z]))
      cases w with
      | val d => exact Rep.mono (Same.refl _) gr rv
      | exn c x =>
        obtain ⟨ax, dd, x1, x2, xf⟩ := rv
        exact ⟨ax, dd, x1, x2, xf.mono gr (Same.refl _)⟩
      | bor xs' =>
        obtain ⟨p', vs', rfl, b', hp', rl'⟩ := rv
        exact ⟨p', vs', rfl, ⟨b', away rfl p' rfl⟩, hp', rl'.mono (Same.refl _) gr⟩
      | bod ks us =>
        obtain ⟨p', vs', rfl, b', hp', e', rl'⟩ := rv
        exact ⟨p', vs', rfl, ⟨b', away rfl p' rfl⟩, hp', e', rl'.mono (Same.refl _) gr⟩
      | bdd ks us =>
        obtain ⟨p', vs', rfl, b', hp', rl'⟩ := rv
        exact ⟨p', vs', rfl, ⟨b', away rfl p' rfl⟩, hp', rl'.mono (Same.refl _) gr⟩
      | len ys =>
        obtain ⟨p', vs', o, rfl, b', hp', rl'⟩ := rv
        exact ⟨p', vs', o, rfl, ⟨b', fun z => by subst z; rw [hp] at hp'; cases hp'⟩, hp', rl'.mono (Same.refl _) gr⟩
  · rcases get_set q1 with ⟨_, z⟩ | ⟨_, q1⟩
    · subst z; cases o1
    · rcases get_set q2 with ⟨_, z⟩ | ⟨_, q2⟩
      · subst z; cases o2
      · exact h2 j k w w' o1 o2 q1 q2 q3
section
variable {P : P3} {pos : Pos}
theorem ms_share {st : Stmt} {m : SM} (i : Nat) (h : MS P st m) : MS P st (sSeq (sShare i) m) := by
  obtain ⟨t, pt, ht⟩ := h.out
  refine MS.mk' pt fun B0 B s o u z D b0 wd sl h => ?_
  unfold sSeq sShare at h
  cases eu : u[i]? with
  | none => rw [eu] at h; exact h.elim
  | some ow =>
    rw [eu] at h
    cases ow with
    | none => exact h.elim
    | some w =>
      cases w with
      | bor xs =>
        obtain ⟨B', s', eH, b', le, wd', sl'⟩ := sl.share b0 wd eu
        rw [← eH]
        exact ht B0 B' s' _ _ z D b' wd' sl' (PostS.mono le h)
      | _ => exact h.elim
/-- a fresh list, at once an object of the store -/
theorem me_newL {e : Expr} {m : FM} (h : MF P e m) : ME P e (eNewL m) := by
  obtain ⟨t, pt, ht⟩ := h.out
  refine ME.mk' pt fun B0 B s st u z Q wd sl h => ht B0 B s st u z _ wd sl ?_
  unfold eNewL at h
  cases e : m u st with
  | ok xs st' =>
    rw [e] at h
    intro s' p vs l w nb hp r
    obtain ⟨wn, gr, at_⟩ := w.share nb hp r
    exact h ⟨ioNew s'.io st'.length p, s'.F, s'.H⟩ (.ref p) (l.trans ⟨gr, Same.refl _, fun _ _ => rfl⟩) wn (Rep.ref at_)
  | err c x st' => rw [e] at h; exact h
  | bad => rw [e] at h; exact h
end
/-! ### what is done with a shared list -/
def lstOf (w : W) : M (Nat × List D) := fun st => match w with
  | .val (.ref k) => match st[k]? with
    | some (.lst xs) => .ok (k, xs) st
    | _ => .bad
  | _ => .bad
theorem lst_of {w : W} {st st' : Store} {q : Nat × List D} (e : lstOf w st = .ok q st') : st' = st ∧ w = .val (.ref q.1) ∧ st[q.1]? = some (.lst q.2) := by
  unfold lstOf at e
  split at e
  · split at e
    · rename_i h; cases e; exact ⟨rfl, rfl, h⟩
    · cases e
  · cases e
section
variable {α β : Type} {G : G3} {X : Hex} {B : Addr → Prop} {s : S3} {st : Store} {R : S3 → α → β → Prop} {E : XK} {Q : β → Hp → Prop}
theorem Post.of_lst {w : M3.W} {v : V} {f : Nat × List D → M α} (wd : Wd G B st s) (r : RepW G X B s w v) (h : Post G B R E s Q (M.bind (lstOf w) f st)) :
    ∃ k xs a vs, w = .val (.ref k) ∧ v = .ref a ∧ s.io k = some a ∧ st[k]? = some (.lst xs) ∧ s.H a = some (.lst vs) ∧ RepL G.R s.F s.io xs vs ∧ ¬ B a ∧ s.F a = none ∧ Post G B R E s Q (f (k, xs) st) := by
  unfold M.bind at h
  cases e : lstOf w st with
  | bad => rw [e] at h; exact h.elim
  | err c x st' =>
    exfalso
    unfold lstOf at e
    split at e
    · split at e <;> cases e
    · cases e
  | ok q st' =>
    rw [e] at h
    obtain ⟨rfl, rfl, ek⟩ := lst_of e
    have r : Rep G.R s.F s.io (.ref q.1) v := r
    cases r with
    | ref eio =>
      obtain ⟨a, e1, b1, f1, vs, eh, rl⟩ := wd.obj _ _ ek rfl
      rw [eio] at e1
      cases e1
      exact ⟨q.1, q.2, _, vs, rfl, rfl, eio, ek, eh, rl, b1, f1, h⟩
end
/-- len(x) -/
def eLenS (m : EM) : EM := fun u => M.bind (m u) fun w => M.bind (lstOf w) fun q => M.pure (.val (.int (q.2.length : Int)))
/-- x.pop(0) -/
def ePop0S (m : EM) : EM := fun u => M.bind (m u) fun w => M.bind (lstOf w) fun q => fun st => match q.2 with
  | d :: ds => .ok (.val d) (st.set q.1 (.lst ds))
  | [] => .bad
/-- x.append(y) -/
def eAppS (mo m : EM) : EM := fun u => M.bind (mo u) fun w => M.bind (lstOf w) fun _ => M.bind (m u) fun y => M.bind (M.of y.d) fun d => M.bind (lstOf w) fun q => M.bind (M.chk (q.2.length < 1000000)) fun _ => fun st => .ok (.val .non) (st.set q.1 (.lst (q.2 ++ [d])))
/-- list(x): a new list -/
def fListS (m : EM) : FM := fun u => M.bind (m u) fun w => M.bind (lstOf w) fun q => M.pure q.2
section
variable {P : P3} {pos p apos cpos : Pos} {x : Str} {o e : Expr} {es : List Expr} {mo m : EM}
theorem me_lenS (he : ME P e m) (hg : Gl P.X x) (hm : P.X.mg x = none) (hv : bootBuiltins x = some (.builtin "len")) (hn : x ≠ "__name__" := by decide) (hdb : (x == ("__debug__" : Str)) = false := by decide)
    (hst : starEach [e] P.X.env = (false, eval e P.X.env) :: starEach [] P.X.env := by rfl) (hpl : (backTo pos (starEach [] P.X.env)).any (·.1) = false := by rfl) : ME P (.Call (.Name x p) [e] [] pos) (eLenS m) := by
  have hQ : CallR P.X (.builtin "len") _ := call_len_seq
  obtain ⟨t, pt, ht⟩ := he.out
  refine ME.mk' (pe_callB hQ hg hm hv (pa_cons pt pa_nil hst) hn hdb hst hpl) fun B0 B s st u z Q wd sl h => ht B0 B s st u z _ wd sl (Post.bind h fun w st1 s1 v l1 wd1 r1 h1 => ?_)
  obtain ⟨k, xs, a, vs, rfl, rfl, eio, ek, eh, rl, nb, hF, h1⟩ := Post.of_lst wd1 r1 h1
  exact ⟨a, vs, rfl, .inl (.inl (.inl eh)), by rw [← rl.length]; exact h1.pure wd1 .int⟩
theorem me_pop0S (ho : ME P o mo) (he : ME P e (eC (.int 0)))
    (hbase : attributeBase o "pop" P.X.env (eval o P.X.env) = eval o P.X.env := by rfl)
    (hfew : ((backTo cpos (starEach [e] P.X.env)).all (fun x => !x.1) && (backToKw cpos (keywordEach [] P.X.env)).all (fun x => x.1.isSome) && decide (([e] : List Expr).length + ([] : List Keyword).length + (if ([] : List Keyword).isEmpty then 0 else 1) < 30)) = true := by rfl)
    (hline : (apos.endLine == cpos.line) = true := by rfl) (hst : starEach [e] P.X.env = (false, eval e P.X.env) :: starEach [] P.X.env := by rfl) (hplain : (backTo cpos (starEach [] P.X.env)).any (·.1) = false := by rfl) :
    ME P (.Call (.Attribute o "pop" apos) [e] [] cpos) (ePop0S mo) := by
  obtain ⟨to, po, hto⟩ := ho.out
  obtain ⟨te, pe, hte⟩ := he.out
  refine ME.mk' (pe_bm PySem.F.plainAttrs_list PySem.F.slot_list_pop PySem.F.type_list_pop mt_popAt po (pa_cons pe pa_nil hst) hbase hfew hline hst hplain) fun B0 B s st u z Q wd sl h => hto B0 B s st u z _ wd sl (Post.bind h fun w st1 s1 v l1 wd1 r1 h1 => ?_)
  obtain ⟨k, xs, a, vs, rfl, rfl, eio, ek, eh, rl, nb, hF, h1⟩ := Post.of_lst wd1 r1 h1
  refine ⟨.inl ⟨rfl, vs, .inl (.inl eh)⟩, hte B0 B s1 st1 u z _ wd1 (sl.mono' l1) ?_⟩
  intro s2 v2 l2 wd2 r2
  have r2 : Rep P.G.R s2.F s2.io (.int 0) v2 := r2
  cases r2
  obtain ⟨a', e1, nb', hF', vs', eh', rl'⟩ := wd2.obj _ _ ek rfl
  rw [l2.io _ _ eio] at e1
  cases e1
  cases xs with
  | nil => exact h1.elim
  | cons d ds =>
    cases rl' with
    | @cons _ _ y ys r rl' =>
      obtain ⟨w3, l3⟩ := wd2.setO (o' := .lst ds) (ho := .lst ys) (l2.io _ _ eio) nb' hF' ⟨ys, upd_same, rl'⟩ ek
      refine ⟨_, _, 0, 0, y, rfl, rfl, eh', by decide, by decide, ?_, rfl, ?_⟩
      · unfold seqIndex?
        simp
      · exact h1 _ _ (l2.trans l3) w3 r
theorem me_appS (ho : ME P o mo) (he : ME P e m)
    (hbase : attributeBase o "append" P.X.env (eval o P.X.env) = eval o P.X.env := by rfl)
    (hfew : ((backTo cpos (starEach [e] P.X.env)).all (fun x => !x.1) && (backToKw cpos (keywordEach [] P.X.env)).all (fun x => x.1.isSome) && decide (([e] : List Expr).length + ([] : List Keyword).length + (if ([] : List Keyword).isEmpty then 0 else 1) < 30)) = true := by rfl)
    (hline : (apos.endLine == cpos.line) = true := by rfl) (hst : starEach [e] P.X.env = (false, eval e P.X.env) :: starEach [] P.X.env := by rfl) (hplain : (backTo cpos (starEach [] P.X.env)).any (·.1) = false := by rfl) :
    ME P (.Call (.Attribute o "append" apos) [e] [] cpos) (eAppS mo m) := by
  obtain ⟨to, po, hto⟩ := ho.out
  obtain ⟨te, pe, hte⟩ := he.out
  refine ME.mk' (pe_bm PySem.F.plainAttrs_list PySem.F.slot_list_append PySem.F.type_list_append mt_append po (pa_cons pe pa_nil hst) hbase hfew hline hst hplain) fun B0 B s st u z Q wd sl h => hto B0 B s st u z _ wd sl (Post.bind h fun w st1 s1 v l1 wd1 r1 h1 => ?_)
  obtain ⟨k, xs, a, vs, rfl, rfl, eio, ek, eh, rl, nb, hF, h1⟩ := Post.of_lst wd1 r1 h1
  refine ⟨.inl ⟨rfl, vs, .inl (.inl eh)⟩, hte B0 B s1 st1 u z _ wd1 (sl.mono' l1) (Post.bind h1 fun w2 st2 s2 v2 l2 wd2 r2 h2 => ?_)⟩
  obtain ⟨d, ed, h2⟩ := Post.of_of h2
  obtain rfl : w2 = .val d := by cases w2 <;> cases ed; rfl
  obtain ⟨k', xs', a', vs', e1, e2, eio', ek', eh', rl', nb', hF', h3⟩ := Post.of_lst wd2 (r1.mono l2) h2
  cases e1
  cases e2
  obtain ⟨hz, h3⟩ := Post.of_chk h3
  have rd : Rep P.G.R s2.F s2.io d v2 := r2
  obtain ⟨w3, l3⟩ := wd2.setO (o' := .lst (xs' ++ [d])) (ho := .lst (vs' ++ [v2])) eio' nb' hF' ⟨_, upd_same, rl'.append (.cons rd .nil)⟩ ek'
  exact ⟨_, _, v2, rfl, rfl, eh', by rw [← rl'.length]; exact szl hz, h3 _ _ l3 w3 .non⟩
end
/-! ### [..] * n -/
def mulLF : W → W → Option W
  | .val (.lst xs), .val (.int n) => if 0 ≤ n ∧ n ≤ 1000 ∧ xs.length ≤ 1000 then some (.val (.lst (List.replicate n.toNat xs).flatten)) else none
  | _, _ => none
theorem rep_flat {K : KW} {F : Hp} {io : Io} {xs : List D} {vs : List V} (r : RepL K F io xs vs) : ∀ n : Nat, RepL K F io (List.replicate n xs).flatten (List.replicate n vs).flatten
  | 0 => .nil
  | n + 1 => by
    rw [List.replicate_succ, List.replicate_succ, List.flatten_cons, List.flatten_cons]
    exact r.append (rep_flat r n)
theorem om_mulL {P : P3} : OpM P (binaryOp .Mult) mulLF := by
  refine ⟨_, op_rep, fun B s st w1 w2 w v1 v2 Q wd r1 r2 e k => ?_⟩
  unfold mulLF at e
  split at e
  · rename_i xs n
    split at e
    · rename_i hz
      cases e
      cases r2
      cases r1 with
      | @lst _ vs p hF rl =>
        refine ⟨p, n, vs, rfl, rfl, wd.sub _ _ hF, by omega, by omega, ?_, fun q hq => ?_⟩
        · refine szL ?_
          rw [← rl.length]
          have h1 : xs.length ≤ 1000 := hz.2.2
          have h2 : n.toNat ≤ 1000 := by omega
          exact Nat.le_trans (Nat.mul_le_mul h1 h2) (by omega)
        · obtain ⟨wd2, l2⟩ := wd.froz hq (.lst (List.replicate n.toNat vs).flatten)
          exact k _ _ l2 wd2 (.lst upd_same ((rep_flat rl n.toNat).mono l2.fr l2.io))
    · cases e
  · cases e
@[simp] theorem mulLF_lst (xs : List D) (n : Int) : mulLF (.val (.lst xs)) (.val (.int n)) = if 0 ≤ n ∧ n ≤ 1000 ∧ xs.length ≤ 1000 then some (.val (.lst (List.replicate n.toNat xs).flatten)) else none := rfl
/-! ### f(..), the last values are f's defaults -/
structure CalD (Pg : Program) (w : World) (K : PySem.W.Frag) (mg : Str → Option Value) (base : Heap) (G : G3) (k : Nat) (x : Str) (n : Nat) (dd : List D) (mf : List D → M D) : Prop where
  ex : ∃ f fd ps dvs dsv, mg x = some (.ref f) ∧ PySem.W.keepIn K (.ref f) = true ∧ Binds K fd ps dsv ∧ Vals dvs dsv ∧ (∀ F io, RepL G.R F io dd dvs) ∧ FnOk Pg w K mg base (L2.CX Pg w) k f fd ps (spM G (n + dd.length) mf)
def eCallD (n : Nat) (dd : List D) (mf : List D → M D) (ma : AM) : EM := fun u => M.bind (ma u) fun ws => M.bind (M.of (asDs ws)) fun ds => M.bind (M.chk (ds.length = n)) fun _ => M.bind (mf (ds ++ dd)) fun d => M.pure (.val d)
section
variable {P : P3} {pos p : Pos} {x : Str} {e : Expr} {es : List Expr} {ma : AM} {mf : List D → M D} {k j n : Nat} {dd : List D}
theorem me_callD (c : CalD P.X.prog P.X.w P.X.K P.X.mg P.X.base P.G k x n dd mf) (hr : Room j P.X.A) (hk : k ≤ j) (tk : Takes P.X P.wx) (hg : Gl P.X x) (ha : MA P (e :: es) ma)
    (hdb : (x == ("__debug__" : Str)) = false := by decide) (he : starEach (e :: es) P.X.env = (false, eval e P.X.env) :: starEach es P.X.env := by rfl) (hpl : (backTo pos (starEach es P.X.env)).any (·.1) = false := by rfl) :
    ME P (.Call (.Name x p) (e :: es) [] pos) (eCallD n dd mf ma) := by
  obtain ⟨f, fd, ps, dvs, dsv, hm, hkp, hb, hd, rd, F⟩ := c.ex
  obtain ⟨t, pt, ht⟩ := ha.out
  refine ME.mk' (pe_callSD F (hr.mono hk) hg hm hkp hb hd (fun σ => passAt tk σ) pt hdb he hpl) fun B0 B s st u z Q wd sl h => ht B0 B s st u z _ wd sl (Post.bind h fun ws st1 s1 vs l1 wd1 r1 h1 => ?_)
  obtain ⟨ds, e, h1⟩ := Post.of_of h1
  obtain ⟨hl, h1⟩ := Post.of_chk h1
  have rl := (asDs_ok r1 e).append (rd s1.F s1.io)
  exact call_post (n := n + dd.length) wd1 rl (by rw [List.length_append, hl]) h1
end
@[simp] theorem run_eCallD {n : Nat} {dd : List D} {mf : List D → M D} {ma : AM} {u : Sl3} {st : Store} {kw : Res W → Prop} : run (eCallD n dd mf ma u st) kw = run (ma u st) (kBind (fun ws => M.bind (M.of (asDs ws)) fun ds => M.bind (M.chk (ds.length = n)) fun _ => M.bind (mf (ds ++ dd)) fun d => M.pure (.val d)) kw) := run_bind _ _
/-! running -/
section
variable {α : Type} {kw : Res W → Prop} {kf : Res (List D) → Prop} {ks : SRes → Prop} {st : Store} {u : Sl3} {mo m : EM} {fm : FM}
theorem run_sShare (i : Nat) {xs : List D} (h : u[i]? = some (some (.bor xs))) : srun (sShare i u st) ks = ks (.nx (u.set i (some (.val (.ref st.length)))) (st ++ [.lst xs])) := by
  unfold srun sShare; rw [h]
def kNewL (k : Res W → Prop) : Res (List D) → Prop
  | .ok xs st => k (.ok (.val (.ref st.length)) (st ++ [.lst xs]))
  | .err c x st => k (.err c x st)
  | .bad => k .bad
@[simp] theorem kNewL_ok (xs) : kNewL kw (.ok xs st) = kw (.ok (.val (.ref st.length)) (st ++ [.lst xs])) := rfl
@[simp] theorem run_eNewL : run (eNewL fm u st) kw = run (fm u st) (kNewL kw) := by
  unfold run eNewL kNewL
  cases fm u st <;> rfl
def kLst (st : Store) (k : Res (Nat × List D) → Prop) (i : Nat) : Option MO → Prop
  | some (.lst xs) => k (.ok (i, xs) st)
  | _ => k .bad
@[simp] theorem kLst_lst {k} (i xs) : kLst st k i (some (.lst xs)) = k (.ok (i, xs) st) := rfl
@[simp] theorem run_lstOf (i : Nat) (k) : run (lstOf (.val (.ref i)) st) k = kLst st k i st[i]? := by
  unfold run lstOf kLst
  dsimp only
  cases st[i]? with
  | none => rfl
  | some o => cases o <;> rfl
@[simp] theorem run_eLenS : run (eLenS m u st) kw = run (m u st) (kBind (fun w => M.bind (lstOf w) fun q => M.pure (.val (.int (q.2.length : Int)))) kw) := run_bind _ _
@[simp] theorem run_ePop0S : run (ePop0S m u st) kw = run (m u st) (kBind (fun w => M.bind (lstOf w) fun q => fun st => match q.2 with
  | d :: ds => .ok (.val d) (st.set q.1 (.lst ds))
  | [] => .bad) kw) := run_bind _ _
@[simp] theorem run_eAppS : run (eAppS mo m u st) kw = run (mo u st) (kBind (fun w => M.bind (lstOf w) fun _ => M.bind (m u) fun y => M.bind (M.of y.d) fun d => M.bind (lstOf w) fun q => M.bind (M.chk (q.2.length < 1000000)) fun _ => fun st => .ok (.val .non) (st.set q.1 (.lst (q.2 ++ [d])))) kw) := run_bind _ _
end
end M3


namespace M3
open PySem PySem.Spec PyProof.Rows L2 NdefX

/-! ### what is asked of an own exception class, and of its __init__ -/
abbrev veMro : List Value := [.type "ValueError", .type "Exception", .type "BaseException", .type "object"]
theorem refs_of_tail : ∀ {l : List Value}, PySem.W.excTail veMro l = true → PySem.HandSPX.refsVE l = true := by
  intro l
  induction l with
  | nil => intro h; exact absurd h (by decide)
  | cons a r ih =>
    intro h
    cases a with
    | ref c => exact ih h
    | _ => exact h
theorem oexC_of {K : PySem.W.Frag} {C : Addr} (q : PySem.W.excInitIn K C veMro "ValueError.__new__" = true) (hd : PySem.W.hasDictIn K C = true)
    (sa : PySem.W.findIn K (.ref C) "__setattr__" = some (some (.builtin "object.__setattr__"))) (sb : PySem.W.subIn K (.ref C) (.type "BaseException") = some true) (ty : PySem.W.typeIn K (.ref C) = some (.type "type")) (kC : PySem.W.keepIn K (.ref C) = true) : OexC K C := by
  refine ⟨?_, sa, sb, ty, kC⟩
  unfold PySem.W.excInitIn at q
  split at q
  · rename_i ddc cd sl ho
    split at q
    · rename_i C' bm k0 k1 k2 k3 n k5 hm hs
      simp only [Bool.and_eq_true, beq_iff_eq, Bool.not_eq_true'] at q
      obtain ⟨⟨⟨rfl, rfl⟩, nodel⟩, tl⟩ := q
      have hdc : cd.hasDict = true := by
        have z := hd
        unfold PySem.W.hasDictIn PySem.W.clsIn at z
        rw [ho] at z
        simpa using z
      cases cd
      simp only at hm nodel hdc
      subst hm nodel hdc
      cases sl
      simp only at hs
      subst hs
      exact ⟨_, _, _, _, bm, _, _, _, _, _, _, _, _, _, _, ho, refs_of_tail tl⟩
    · cases q
  · cases q

structure SupF (K : PySem.W.Frag) (mg : Str → Option Value) (Pg : Program) (f D : Addr) (cc : Addr) (F : NF) (ps : List Str) (N : List Str) : Prop where
  fn : ∃ oc od doc pm ct osl, K.lookup f = some ⟨oc, od, .func (F.fd doc pm ct), osl⟩
  cd : PySem.W.codeIn K (.ref F.c) F.qual = true
  code : ∃ c d vs sl file t, K.lookup F.c = some ⟨c, d, .fields vs, sl⟩ ∧ vs[2]? = some (.str file t) ∧ ((Pg.main.file : Str) == file) = true
  cl : F.cl = [(("__class__" : Str), cc)]
  cell : ∃ c d sl, K.lookup cc = some ⟨c, d, .cell (some (.ref D)), sl⟩
  cls : ∃ o cd, K.lookup D = some o ∧ o.data = .cls cd
  nosup : mg ("super" : Str) = none
  top : (Pg.main.scope.names.lookup ("super" : Str)).isSome = false
  any : PySem.W.nsIn K cStatics "thirdparty.any" = some none
  sup : F.scope.names.lookup ("super" : Str) = some NameKind.globalImplicit
  dcl : F.scope.names.lookup ("__class__" : Str) = some NameKind.free
  ar : ∃ a, (F.params.posonlyargs ++ F.params.args).head? = some a ∧ F.scope.names.lookup a.arg = some NameKind.local ∧ N[0]? = some a.arg
  sc : NScope N ps [("__class__" : Str)] F.scope
/-- an exception class C that has the __init__ of the class D -/
structure SupC (K : PySem.W.Frag) (C D : Addr) : Prop where
  ox : OexC K C
  mr : PySem.W.mroIn K C (.ref D) = some true
  mv : PySem.W.mroIn K C (.type "ValueError") = some true
  si : PySem.W.ks_superIn K C D "__init__" = some (some (.builtin "ValueError.__init__"))

theorem cls_at {K : PySem.W.Frag} {D : Addr} (q : PySem.W.excInitIn K D veMro "ValueError.__new__" = true) : ∃ o cd, K.lookup D = some o ∧ o.data = .cls cd := by
  unfold PySem.W.excInitIn at q
  split at q
  · rename_i ho; exact ⟨_, _, ho, rfl⟩
  · cases q

section
variable {X : Cx} {pins : List (Addr × Obj)} {σ : L2.St} {H : Hp} {s : Shared} {f a C D cc : Addr} {F : NF} {ps N : List Str} {fL : Addr}
/-- super(), in such a body -/
theorem sup_node {whole : Sem Value} {p0 p1 : Pos} {Q : Value → Shared → Prop} {E : Value → Shared → Prop} {body : List Stmt} (S : SupF X.K X.mg X.prog f D cc F ps N) (hmr : PySem.W.mroIn X.K C (.ref D) = some true) {oa : Obj} (hE : X.env = envF F f fL) (hN : X.N = N) (I : Inv X pins σ H s) (ho : s.heap.get? a = some oa) (hoc : oa.cls = .ref C) (hon : ∀ c, oa.data ≠ .cls c) (h0 : σ[0]? = some (some (.ref a)))
    (h : ∀ so h', Inv X pins σ H { s with heap := h' } → h'.get? so = some (PySem.W.ks_superObj D a C) → Q (.ref so) { s with heap := h' }) :
    _root_.PySem.wpAt (model X.prog X.w) X.A (.func body X.env) (attributeBase (.Call (.Name "super" p0) [] [] p1) "__init__" X.env whole) Q E s := by
  obtain ⟨oc, od, doc, pm, ct, osl, hf⟩ := S.fn
  obtain ⟨c1, d1, vs, sl1, file, tf, hcode, hvs, hfile⟩ := S.code
  obtain ⟨ar, har, hloc, har0⟩ := S.ar
  obtain ⟨oD, cdD, hD, hDd⟩ := S.cls
  have X0 := I.kIn
  have ksup : X.env.kindOf "super" = some .globalImplicit := by rw [hE]; exact S.sup
  have kcls : X.env.kindOf "__class__" = some .free := by rw [hE]; exact S.dcl
  refine PySem.ks_wpAt_super_base (f := f) (cc := F.c) ksup kcls (by decide) (by rw [hE]) (X0 _ _ hf) rfl har (by rw [hE]) (X0 _ _ hcode) rfl hvs hfile S.top ?_
  obtain ⟨mb, m1, m2⟩ := I.mod.blt
  refine PySem.W.ks_loadName_global I.ok.kind ksup (PySem.Calls.loadGlobal_builtin (by rw [I.ok.glob]; exact I.mod.glob.keeps I.bk) S.nosup (by rw [I.ok.blt]; exact m1.keeps I.bk) ((m2 "super" (by decide)).trans (show bootBuiltins "super" = some (.type "super") by decide +kernel)) ⟨rfl, ?_⟩)
  obtain ⟨c2, d2, sl2, hcell⟩ := S.cell
  refine wpAny_loadName_free I.ok.kind kcls (c := cc) (by rw [hE]; show F.cl.lookup _ = _; rw [S.cl]; rfl) ⟨_, X0 _ _ hcell, rfl⟩ ?_
  obtain ⟨m, hm, hl⟩ := I.loc
  obtain ⟨u, ru, lk⟩ := hl 0 ar.arg (.ref a) (by rw [hN]; exact har0) h0 (.inl (by rw [hE]; exact hloc))
  obtain rfl : u = Value.ref a := ru
  have hv : m ar.arg = some (.ref a) := by
    rcases lk with ⟨_, z⟩ | ⟨z, _⟩
    · exact z
    · have z' : F.scope.names.lookup ar.arg = some .cell ∨ F.scope.names.lookup ar.arg = some .free := by
        have z2 := z
        rw [hE] at z2
        exact z2
      rw [hloc] at z'
      rcases z' with z' | z' <;> cases z'
  refine wpAny_loadName_local I.ok.kind (by rw [hE]; exact hloc) hm hv ?_
  obtain ⟨hh, g, d, t, os⟩ := s
  refine PySem.ks_wpAny_isType_cls (X0 _ _ hD) hDd ⟨rfl, ?_⟩
  refine PySem.ks_wpAny_call_super (X0 _ _ hD) hDd ho hoc hon (PySem.W.looks_mroIn X0 hmr) (fun h' z k => ?_)
  exact h _ h' (I.kept k) z

/-- the bound __init__, called -/
theorem bound_init {u : Addr} {us : List Value} {Q : Value → Shared → Prop} {E : Value → Shared → Prop} {A : Around} (T : SupC X.K C D) (I : Inv X pins σ H s) (e : H a = some (exo a C none)) (hu : s.heap.get? u = some (PySem.W.kxs_mw "ValueError.__init__" a)) (hz : us.length ≤ sizeLine)
    (h : ∀ s', Inv X pins σ H s' → Q .none s') : wpAny (model X.prog X.w) A (call (.ref u) us) Q E s := by
  obtain ⟨nm, q, N, bs, bm, sn, sub, ab, col, dd, k0, k1, k2, k3, k5, hC, hbm⟩ := T.ox.cls
  obtain ⟨t1, ho⟩ := exo_at I.hok e
  have hCs := I.kIn _ _ hC
  obtain ⟨hp, g, d, tk, os⟩ := s
  refine wpAny_call (codeAny_of_tree ?_)
  show wpAny _ A.in1 (callAny (.ref u) ⟨us, []⟩) _ _ _
  simp only [callAny]
  refine wpAny_bind (wpAny_load hu ?_)
  simp only [PySem.W.kxs_mw, show (Value.type "method-wrapper" == Value.type "method" || Value.type "method-wrapper" == Value.type "builtin_function_or_method" || Value.type "method-wrapper" == Value.type "method-wrapper") = true by decide, if_true]
  refine PySem.W.KFB.if_so (by decide) ?_
  refine wpAny_bind (PySem.W.check_bound_init PySem.F.excBase_ValueError.toExcCallFacts hCs ho rfl ?_)
  refine wpAny_bind (wpAny_pure (wpAny_pure ⟨plainId_quiet PySem.F.excBase_ValueError.init.plain _, codeAny_builtin PySem.F.excBase_ValueError.initEntry ?_⟩))
  refine PySem.W.exc_init_tree (cls := .ref C) (t0 := t1) (dv := none) (c2 := .none) (c3 := .none) (b4 := .bool false) ho hz fun h' k hx _ => ?_
  have J := I.write (t' := tk) (x := a) (e := a) (o := exo a C none) (by rw [e]; exact True.intro) (.inl rfl) k ⟨_, hx⟩ (exo_ok hx)
  have eu : upd H a (exo a C none) = H := by
    funext b
    by_cases hb : b = a
    · rw [hb, upd_same, e]
    · rw [upd_ne hb]
  rw [eu] at J
  exact h _ J
/-- the call, its parts: by rfl at any text -/
def SupE (p0 p1 p2 p3 p4 : Pos) (msg : Str) (j : Nat) : Prop := ∀ env : Env, ∃ pl, eval (.Call (.Attribute (.Call (.Name "super" p0) [] [] p1) "__init__" p2) [.Constant (.str msg) j p3] [] p4) env = (do
  let ov ← attributeBase (.Call (.Name "super" p0) [] [] p1) "__init__" env (eval (.Call (.Name "super" p0) [] [] p1) env)
  standAt p2.atName
  let (f, first) ← holding [ov] (getMethod ov "__init__" pl)
  callWith p4 f first (backTo p4 (starEach [.Constant (.str msg) j p3] env)) [])
/-- super().__init__('..') -/
theorem sup_exc {p0 p1 p2 p3 p4 p5 : Pos} {msg : Str} {j : Nat} {body : List Stmt} {Q : Flow → Shared → Prop} {E : Value → Shared → Prop} (hm0 : SupE p0 p1 p2 p3 p4 msg j) (S : SupF X.K X.mg X.prog f D cc F ps N) (T : SupC X.K C D) (hE : X.env = envF F f fL) (hN : X.N = N) (I : Inv X pins σ H s) (e : H a = some (exo a C none)) (h0 : σ[0]? = some (some (.ref a)))
    (h : ∀ s', Inv X pins σ H s' → Q .next s') :
    _root_.PySem.wpAt (model X.prog X.w) X.A (.func body X.env) (exec (.Expr (.Call (.Attribute (.Call (.Name "super" p0) [] [] p1) "__init__" p2) [.Constant (.str msg) j p3] [] p4) p5) X.env) Q E s := by
  have nint : interactive X.env = false := by
    unfold interactive
    rw [I.ok.kind]
    rfl
  obtain ⟨pl, he⟩ := hm0 X.env
  refine PySem.ks_wpAt_Expr_any (PySem.ks_wpAt_MethodCall (sup_node S T.mr hE hN I (exo_at I.hok e).choose_spec rfl (fun c z => by cases z) h0 fun so h1 I1 hso => ?_) he) nint rfl
  obtain ⟨nm, q, Nc, bs, bm, sn, sub, ab, col, dd, k0, k1, k2, k3, k5, hC, hbm⟩ := T.ox.cls
  obtain ⟨cd, hcl, hmro⟩ : ∃ cd, PySem.W.clsIn X.K C = some cd ∧ cd.mro = .ref C :: bm := by
    unfold PySem.W.clsIn
    rw [hC]
    exact ⟨_, rfl, rfl⟩
  have hm := T.si
  unfold PySem.W.ks_superIn at hm
  rw [hcl] at hm
  obtain ⟨t1, ho⟩ := exo_at I1.hok e
  have hCK := I1.kIn
  have aC : a ≠ C := fun z => by
    have hb := X.K
    obtain ⟨_, n⟩ := I1.bs C _ (I1.ok.mod.kin _ _ hC)
    rw [← z, e] at n
    cases n
  obtain ⟨hh, g, d, t, os⟩ := s
  have hI : PySem.W.Looks (model X.prog X.w) h1 (isInstance (.ref a) (.type "ValueError")) true :=
    PySem.W.Looks.andThen (a := .ref C) (fun A Q E s k q => wpAny_typeOf_ref (k _ _ ho) q) (PySem.W.looks_mroIn hCK T.mv)
  refine PySem.W.kxs_getMethod PySem.W.kxs_ValueError hso (PySem.W.looks_opaque hCK S.any) (l₀ := cd.mro) (fun A Q E s k q => wpAny_bind ((PySem.W.looks_clsIn hCK hcl) A _ E s k (wpAny_pure q))) rfl hCK hm hI aC (by decide) ?_
  have hsz : (h1.push (PySem.W.kxs_mw "ValueError.__init__" a)).get? h1.objs.size = some (PySem.W.kxs_mw "ValueError.__init__" a) := Heap.get?_push_size _ rfl
  show wpAny _ _ (callWith p4 (.ref h1.objs.size) [] _ []) _ _ _
  refine PySem.W.kxs_callWith (i := "ValueError.__init__") (x := a) rfl (PySem.Calls.evalArgs_plain (PySem.Calls.spliced_cons (PySem.Calls.Constant_str (x := msg) (k := j) (pos := p3) (env := X.env) (PySem.Calls.spliced_nil ⟨hsz, ?_⟩))))
  exact bound_init T (I1.kept (t' := t + 1 + 1) fun b o q => Heap.get?_push_of_some _ q) e hsz (show (1 : Nat) ≤ sizeLine by rw [sizeLine_eq]; decide) fun s' J => h s' J

/-- the body: super().__init__('..'); self.fld = par -/
theorem sup_body {p0 p1 p2 p3 p4 p5 q1 q2 q3 q4 : Pos} {msg fld par : Str} {j : Nat} {body : List Stmt} {Dn : Ends} {v : V} (hm0 : SupE p0 p1 p2 p3 p4 msg j) (S : SupF X.K X.mg X.prog f D cc F ps N) (T : SupC X.K C D) (hE : X.env = envF F f fL) (hN : X.N = N) (I : Inv X pins σ H s) (e : H a = some (exo a C none)) (h0 : σ[0]? = some (some (.ref a)))
    (h1 : σ[1]? = some (some v)) (n0 : N[0]? = some ("self" : Str)) (n1 : N[1]? = some par) (l0 : F.scope.names.lookup ("self" : Str) = some NameKind.local) (l1 : F.scope.names.lookup par = some NameKind.local) (hd1 : (par == ("__debug__" : Str)) = false) (hcd1 : (par == ("__classdict__" : Str)) = false)
    (hno : PySem.W.findIn X.K (.ref C) fld = some none) (q : ∀ dx, H dx = none → dx ≠ a → Dn.nx σ (upd (upd H dx (exd dx [(fld, v)])) a (exo a C (some dx)))) :
    _root_.PySem.wpAt (model X.prog X.w) X.A (.func body X.env) (execs [.Expr (.Call (.Attribute (.Call (.Name "super" p0) [] [] p1) "__init__" p2) [.Constant (.str msg) j p3] [] p4) p5, .Assign [.Attribute (.Name "self" q1) fld q2] (.Name par q3) q4] X.env) (SP X pins Dn) X.xe s := by
  refine PySem.ks_wpAt_execs_cons (sup_exc hm0 S T hE hN I e h0 fun s' J => ?_)
  have v0 : PE X (.Name "self" q1) (tVar 0) := pe_var (by rw [hN]; exact n0) (.inl (by rw [hE]; exact l0))
  have v1 : PE X (.Name par q3) (tVar 1) := pe_var (by rw [hN]; exact n1) (.inl (by rw [hE]; exact l1)) hd1 hcd1
  exact wpAt_of_wpAny ((pss_one (ps_ost v0 v1)).run pins s' σ H Dn J ⟨v, h1, .ref a, h0, a, C, rfl, T.ox, hno, .inl ⟨e, q⟩⟩)
end

/-! ### its promise -/
def spX (K : PySem.W.Frag) (fld : Str) (D : Addr) : Sp := fun vs H Q _ => ∃ (a C : Addr) (v : V), vs = [.ref a, v] ∧ SupC K C D ∧ PySem.W.findIn K (.ref C) fld = some none ∧ H a = some (exo a C none) ∧ ∀ dx, H dx = none → dx ≠ a → Q .non (upd (upd H dx (exd dx [(fld, v)])) a (exo a C (some dx)))
/-- the words of such a def -/
structure SupB (F : NF) (ps N : List Str) (par fld : Str) : Prop where
  ps : ps = [("self" : Str), par]
  n0 : N[0]? = some ("self" : Str)
  n1 : N[1]? = some par
  l0 : F.scope.names.lookup ("self" : Str) = some NameKind.local
  l1 : F.scope.names.lookup par = some NameKind.local
  d1 : (par == ("__debug__" : Str)) = false
  d2 : (par == ("__classdict__" : Str)) = false
  body : ∃ (p0 p1 p2 p3 p4 p5 q1 q2 q3 q4 : Pos) (msg : Str) (j : Nat), SupE p0 p1 p2 p3 p4 msg j ∧ F.body = [.Expr (.Call (.Attribute (.Call (.Name "super" p0) [] [] p1) "__init__" p2) [.Constant (.str msg) j p3] [] p4) p5, .Assign [.Attribute (.Name "self" q1) fld q2] (.Name par q3) q4]
section
variable {Pg : Program} {w : World} {K : PySem.W.Frag} {mg : Str → Option Value} {base : Heap} {CX : CXT} {f D cc : Addr} {F : NF} {ps N : List Str} {par fld : Str} {k : Nat} {fd : FuncData} {oc : Value} {od : Option Addr} {osl : Array (Option Value)} {doc pm ct : Value}
theorem cellsAt_of {A : Around} {outer : List Env} {s : Shared} {H : Hp} (S : SupF K mg Pg f D cc F ps N) (e0 : Env0 Pg w K mg base A outer s H) : CellsAt F.cl [("__class__" : Str)] [none] s.heap H := by
  obtain ⟨c2, d2, sl2, hcell⟩ := S.cell
  have hb := e0.mod.kin _ _ hcell
  obtain ⟨k1, k2⟩ := e0.bs _ _ hb
  have look : ∀ {y : Str} {c : Addr}, F.cl.lookup y = some c → y = "__class__" ∧ c = cc := fun {y c} z => by
    rw [S.cl, List.lookup_cons] at z
    split at z
    · rename_i q
      exact ⟨by simpa using q, (Option.some.inj z).symm⟩
    · cases z
  refine ⟨rfl, fun y c z => ?_, fun x y c z1 z2 => ?_, fun i y z => ?_⟩
  · obtain ⟨_, rfl⟩ := look z
    exact ⟨k2, _, _, k1, rfl⟩
  · rw [(look z1).1, (look z2).1]
  · refine ⟨cc, ?_, fun v z2 => ?_⟩
    · have hy : y = "__class__" := by
        have := List.mem_of_getElem? z
        simpa using this
      rw [S.cl, hy]
      rfl
    · cases i with
      | zero => cases z2
      | succ i => simp at z2
theorem fnX_ok (S : SupF K mg Pg f D cc F ps N) (B : SupB F ps N par fld) (hf : K.lookup f = some ⟨oc, od, .func fd, osl⟩) (hfd : fd = F.fd doc pm ct) : FnOk Pg w K mg base CX (k + 1) f fd ps (spX K fld D) := by
  refine ⟨fun vs H Q E ⟨a, C, v, e, _⟩ => by rw [e, B.ps]; rfl, fun A outer s H args us vs Q E hr e0 hb r ⟨a, C, v, ev, T, hno, ea, q⟩ => ?_⟩
  have KX : K.In s.heap := e0.mod.kin.keeps fun b o z => (e0.bs b o z).1
  have lim : s.heap.NoLimit := e0.mod.nolimit.keeps fun b o z => (e0.bs b o z).1
  subst hfd
  obtain ⟨p0, p1, p2, p3, p4, p5, q1, q2, q3, q4, msg, j, hm0, hbody⟩ := B.body
  refine PySem.ks_codeAny_call_defAt (fd := F.fd doc pm ct) (body := F.body) hr.depth (KX _ _ hf) rfl lim (PySem.W.codeRec_of KX S.cd) rfl hb S.sc.nocell (fun y hy => S.sc.par _ (List.of_mem_zip (show (y.1, y.2) ∈ _ from hy)).1) (fun h₀ hns kp => ?_) S.sc.co S.sc.gen S.sc.kind
  have hl : vs.length = ps.length := by rw [ev, B.ps]; rfl
  have I : Inv (ncx CX Pg w K mg base N F f A outer s H E) [] (startF N vs [none]) H { s with heap := h₀, toks := s.toks + (ps.zip us).length } := inv_startN S.sc hr.hd e0 hl r (cellsAt_of S e0) hns kp
  have h := sup_body (X := ncx CX Pg w K mg base N F f A outer s H E) (pins := []) (body := F.body) (Dn := { nx := fun _ H' => Q .non H', rt := Q }) (p0 := p0) (p1 := p1) (p2 := p2) (p3 := p3) (p4 := p4) (p5 := p5) (q1 := q1) (q2 := q2) (q3 := q3) (q4 := q4) (msg := msg) (j := j) (fld := fld) (par := par) (v := v)
    hm0 S T (fL := s.heap.objs.size) rfl rfl I ea (by rw [ev]; rfl) (by rw [ev]; rfl) B.n0 B.n1 B.l0 B.l1 B.d1 B.d2 hno q
  rw [← hbody] at h
  refine PySem.ks_wpAt_mono h (fun fl s' hs => ?_) fun _ _ z => z
  have fin : ∀ {σ' : L2.St} {H' : Hp} {v : V} {u : Value}, Inv (ncx CX Pg w K mg base N F f A outer s H E) [] σ' H' s' → L2.RelV v u → Q v H' → CE outer Pg w H s Q u s' :=
    fun {σ' H' v u} J rv z => ⟨v, H', J.os, J.bare, J.base, J.hok, rv, z⟩
  cases fl with
  | next => obtain ⟨σ', H', J, z⟩ := hs; exact fin (v := V.non) (u := Value.none) J rfl z
  | ret u => obtain ⟨v', σ', H', J, rv, z⟩ := hs; exact fin J rv z
  | brk => exact hs.elim fun _ z => z.elim fun _ z => z.2.elim
  | cont => exact hs.elim fun _ z => z.elim fun _ z => z.2.elim
end
end M3


namespace M3
open PySem PySem.Spec PyProof.Rows L2 NdefX

/-! ### raise X(e), X an own class with an __init__ that keeps its argument -/
structure XcOk (Pg : Program) (w : World) (K : PySem.W.Frag) (mg : Str → Option Value) (base : Heap) (G : G3) (k : Nat) (x : Str) (c : String) : Prop where
  ex : ∃ (C D f : Addr) (fd : FuncData) (ps : List Str) (fld : Str), G.cls c = some C ∧ G.fld c = some fld ∧ mg x = some (.ref C) ∧ SupC K C D ∧ PySem.W.findIn K (.ref C) fld = some none ∧
    PySem.W.findIn K (.ref C) "__init__" = some (some (.ref f)) ∧ PySem.W.typeIn K (.ref f) = some (.type "function") ∧ Binds K fd ps [] ∧ FnOk Pg w K mg base (L2.CX Pg w) k f fd ps (spX K fld D)
def sRaiseX (c : String) (ma : AM) : SM := fun u st => match ma u st with
  | .ok ws st' => match asDs ws with
    | some [d] => .err c d u st'
    | _ => .bad
  | _ => .bad
theorem del_upd3 {H : Hp} {a d : Addr} {o1 o2 o3 o4 : HO} (ha : H a = none) (ne : d ≠ a) : upd (L2.del (upd (upd (upd H a o1) d o2) a o3) a) d o4 = upd H d o4 := by
  funext b
  by_cases hd : b = d
  · rw [hd, upd_same, upd_same]
  · rw [upd_ne hd, upd_ne hd]
    by_cases hb : b = a
    · rw [hb, del_same, ha]
    · rw [del_ne hb, upd_ne hb, upd_ne hd, upd_ne hb]
section
variable {P : P3} {pos p rpos : Pos} {x : Str} {c : String} {e : Expr} {es : List Expr} {ma : AM} {j k : Nat}
theorem ms_raiseX (h : XcOk P.X.prog P.X.w P.X.K P.X.mg P.X.base P.G k x c) (hr : Room j P.X.A) (hk : k + 1 ≤ j) (hc : P.X.calm = true) (tk : Takes P.X P.wx) (hg : Gl P.X x) (ha : MA P (e :: es) ma)
    (hdb : (x == ("__debug__" : Str)) = false := by decide) (he : starEach (e :: es) P.X.env = (false, eval e P.X.env) :: starEach es P.X.env := by rfl) (hpl : (backTo pos (starEach es P.X.env)).any (·.1) = false := by rfl) :
    MS P (.Raise (some (.Call (.Name x p) (e :: es) [] pos)) none rpos) (sRaiseX c ma) := by
  obtain ⟨C, D, f, fd, ps, fld, gc, gf, hm, T, hno, iC, tI, hb, F⟩ := h.ex
  obtain ⟨t, pt, ht⟩ := ha.out
  have px : Passes (L2.CX P.X.prog P.X.w) P.X (fun _ _ _ => False) := L2.passes_call tk (fun _ _ _ _ z => z.elim)
  refine MS.mk' (ps_raise hc tk (pmk_oex T.ox iC tI F (hr.mono hk) hb .nil px hg hm pt hdb he hpl)) fun B0 B s o u z Dn b0 wd sl h => ht B0 B s o u z _ wd sl ?_
  unfold sRaiseX at h
  cases em : ma u o with
  | bad => rw [em] at h; exact h.elim
  | err _ _ _ => rw [em] at h; exact h.elim
  | ok ws st' =>
    rw [em] at h
    dsimp only at h
    intro s1 vs l1 wd1 r1
    split at h
    · rename_i d ed
      have rl := asDs_ok r1 ed
      cases rl with
      | cons rd rr =>
        cases rr
        rename_i v
        refine ⟨show (1 : Nat) ≤ 1000 by decide, fun a hna => ⟨a, C, v, rfl, T, hno, upd_same, fun dx hdx ne => ⟨rfl, dx, [(fld, v)], upd_same, by rw [upd_ne ne, upd_same], ?_, ?_⟩⟩⟩
        · rw [upd_ne ne] at hdx; exact hdx
        · rw [upd_ne ne] at hdx
          rw [del_upd3 hna ne]
          obtain ⟨w2, l2⟩ := wd1.froz hdx (.xd [(fld, v)])
          refine h B (s1.froz dx (.xd [(fld, v)])) z (.ref C) (some dx) b0 ((l1.trans l2).less b0) w2 (sl.mono (l1.trans l2)) ?_
          unfold ExR
          rw [gc]
          refine ⟨rfl, ?_⟩
          rw [gf]
          exact ⟨dx, _, v, rfl, upd_same, by simp, rd.mono l2.fr l2.io⟩
    · exact h.elim
end
end M3


namespace M3
open PySem
/-! rows that run what M3Xc brings -/
section
variable {u : Sl3} {st : Store} {ks : SRes → Prop} {kw : Res W → Prop}
def kRaiseX (c : String) (u : Sl3) (k : SRes → Prop) : Res (List W) → Prop
  | .ok ws st' => (match asDs ws with
    | some [d] => k (.err c d u st')
    | _ => k .bad)
  | _ => k .bad
@[simp] theorem run_sRaiseX (c) (ma : AM) : srun (sRaiseX c ma u st) ks = M3.run (ma u st) (kRaiseX c u ks) := by
  unfold srun sRaiseX M3.run kRaiseX
  cases ma u st with
  | ok ws st' =>
    dsimp only
    cases asDs ws with
    | none => rfl
    | some ds =>
      match ds with
      | [] => rfl
      | [d] => rfl
      | _ :: _ :: _ => rfl
  | err _ _ _ => rfl
  | bad => rfl
@[simp] theorem kRaiseX_ok (c) (d : D) : kRaiseX c u ks (.ok [.val d] st) = ks (.err c d u st) := rfl
def kXf (cs : List String) (st : Store) (k : Res W → Prop) : Option (Option W) → Prop
  | some (some (.exn c x)) => if c ∈ cs then k (.ok (.val x) st) else k .bad
  | _ => k .bad
@[simp] theorem run_eXf (i : Nat) (cs) : M3.run (eXf i cs u st) kw = kXf cs st kw u[i]? := by
  unfold M3.run eXf kXf
  cases u[i]? with
  | none => rfl
  | some o =>
    cases o with
    | none => rfl
    | some w =>
      cases w with
      | exn c x => dsimp only; split <;> rfl
      | _ => rfl
@[simp] theorem kXf_exn (cs) (c x) : kXf cs st kw (some (some (.exn c x))) = if c ∈ cs then kw (.ok (.val x) st) else kw .bad := rfl
def kOwnDsD (i : Nat) (u : Sl3) (k : SRes → Prop) : Res (List (D × D)) → Prop
  | .ok ps st => if ps.length ≤ 15 then (match ddAll ps [] [] with
    | some r => k (.nx (u.set i (some (.bdd r.1 r.2))) st)
    | none => k .bad) else k .bad
  | _ => k .bad
@[simp] theorem run_sOwnDsD (i : Nat) (q : QM) : srun (sOwnDsD i q u st) ks = M3.run (q u st) (kOwnDsD i u ks) := by
  unfold srun sOwnDsD M3.run kOwnDsD
  cases q u st with
  | ok ps st' =>
    dsimp only
    split
    · cases ddAll ps [] [] <;> rfl
    · rfl
  | _ => rfl
theorem kOwnDsD_ok (i : Nat) (ps : List (D × D)) (st : Store) {r : List D × List D} (h : ddAll ps [] [] = some r) (hl : ps.length ≤ 15) : kOwnDsD i u ks (.ok ps st) = ks (.nx (u.set i (some (.bdd r.1 r.2))) st) := by
  unfold kOwnDsD
  dsimp only
  rw [if_pos hl, h]
end
end M3


namespace M3
open PySem PySem.Spec PyProof.Rows L2 NdefX

/-! ### super().__init__() of an instance, where object's own __init__ is next -/
theorem kxs_object : PySem.W.KxsFacts "object" "object.__init__" := ⟨by show builtinType _ = _; rw [builtinType_eq_fast]; kernel_rfl, by first | kernel_rfl | rfl⟩
theorem check_bound_oi {M : Model} {A : Around} {E : Value → Shared → Prop} {s : Shared} {x : Value} {Q : Unit → Shared → Prop} (q : Q () s) : wpAny M A (checkBoundCall "object.__init__" ⟨[x], []⟩) Q E s := by
  unfold checkBoundCall
  cases hsig : Manifest.signature? "object.__init__" with
  | none => exact wpAny_pure q
  | some sig =>
    have ha := PySem.W.oi_args x
    simp only [argsOk, hsig] at ha
    simp only [PySem.W.oi_kind]
    have h2 : Bind.checkArgs "object.__init__" sig ⟨[x], []⟩ = pure () := ha
    rw [if_pos (by decide), h2]
    exact wpAny_pure q
def SupE0 (p0 p1 p2 p4 : Pos) : Prop := ∀ env : Env, ∃ pl, eval (.Call (.Attribute (.Call (.Name "super" p0) [] [] p1) "__init__" p2) [] [] p4) env = (do
  let ov ← attributeBase (.Call (.Name "super" p0) [] [] p1) "__init__" env (eval (.Call (.Name "super" p0) [] [] p1) env)
  standAt p2.atName
  let (f, first) ← holding [ov] (getMethod ov "__init__" pl)
  callWith p4 f first (backTo p4 (starEach [] env)) [])
/-- what is asked of the instance's class -/
structure SupI (K : PySem.W.Frag) (C D : Addr) : Prop where
  cl : (PySem.W.clsIn K C).isSome = true
  mr : PySem.W.mroIn K C (.ref D) = some true
  mo : PySem.W.mroIn K C (.type "object") = some true
  si : PySem.W.ks_superIn K C D "__init__" = some (some (.builtin "object.__init__"))
section
variable {X : Cx} {pins : List (Addr × Obj)} {σ : L2.St} {H : Hp} {s : Shared} {f a C D cc dx : Addr} {F : NF} {ps N : List Str} {fL : Addr} {fs : List (Str × V)}
theorem sup_ins {p0 p1 p2 p4 p5 : Pos} {body : List Stmt} {Q : Flow → Shared → Prop} {E : Value → Shared → Prop} (hm0 : SupE0 p0 p1 p2 p4) (S : SupF X.K X.mg X.prog f D cc F ps N) (T : SupI X.K C D) (hE : X.env = envF F f fL) (hN : X.N = N) (I : Inv X pins σ H s) (e : H a = some (.ins C dx fs)) (h0 : σ[0]? = some (some (.ref a)))
    (h : ∀ s', Inv X pins σ H s' → Q .next s') :
    _root_.PySem.wpAt (model X.prog X.w) X.A (.func body X.env) (exec (.Expr (.Call (.Attribute (.Call (.Name "super" p0) [] [] p1) "__init__" p2) [] [] p4) p5) X.env) Q E s := by
  have nint : interactive X.env = false := by
    unfold interactive
    rw [I.ok.kind]
    rfl
  obtain ⟨pl, he⟩ := hm0 X.env
  obtain ⟨mA, O, _⟩ := ins_get I.hok e
  refine PySem.ks_wpAt_Expr_any (PySem.ks_wpAt_MethodCall (sup_node S T.mr hE hN I O.obj rfl (fun c z => by cases z) h0 fun so h1 I1 hso => ?_) he) nint rfl
  obtain ⟨cd, hcl⟩ := Option.isSome_iff_exists.mp T.cl
  have hm := T.si
  unfold PySem.W.ks_superIn at hm
  rw [hcl] at hm
  obtain ⟨mB, O1, _⟩ := ins_get I1.hok e
  have hCK := I1.kIn
  have hKC : ∃ o, X.K.lookup C = some o := by
    have z := hcl
    unfold PySem.W.clsIn at z
    split at z
    · rename_i ho; exact ⟨_, ho⟩
    · cases z
  have aC : a ≠ C := fun z => by
    obtain ⟨o, hK⟩ := hKC
    obtain ⟨_, n⟩ := I1.bs C _ (I1.ok.mod.kin _ _ hK)
    rw [← z, e] at n
    cases n
  obtain ⟨hh, g, d, t, os⟩ := s
  have LT : PySem.W.Looks (model X.prog X.w) h1 (typeOf (.ref a)) (.ref C) := fun A Q E s k q => wpAny_typeOf_ref (k _ _ O1.obj) q
  have hI : PySem.W.Looks (model X.prog X.w) h1 (isInstance (.ref a) (.type "object")) true := LT.andThen (PySem.W.looks_mroIn hCK T.mo)
  refine PySem.W.kxs_getMethod kxs_object hso (PySem.W.looks_opaque hCK S.any) (l₀ := cd.mro) (fun A Q E s k q => wpAny_bind ((PySem.W.looks_clsIn hCK hcl) A _ E s k (wpAny_pure q))) rfl hCK hm hI aC (by decide) ?_
  have hsz : (h1.push (PySem.W.kxs_mw "object.__init__" a)).get? h1.objs.size = some (PySem.W.kxs_mw "object.__init__" a) := Heap.get?_push_size _ rfl
  show wpAny _ _ (callWith p4 (.ref h1.objs.size) [] _ []) _ _ _
  refine PySem.W.kxs_callWith (i := "object.__init__") (x := a) rfl (evalArgs_empty ⟨hsz, ?_⟩)
  have J := I1.kept (t' := t + 1) (h' := h1.push (PySem.W.kxs_mw "object.__init__" a)) fun b o q => Heap.get?_push_of_some _ q
  refine wpAny_call (codeAny_of_tree ?_)
  show wpAny _ X.A.in1 (callAny (.ref h1.objs.size) ⟨[], []⟩) _ _ _
  simp only [callAny]
  refine wpAny_bind (wpAny_load hsz ?_)
  simp only [PySem.W.kxs_mw, show (Value.type "method-wrapper" == Value.type "method" || Value.type "method-wrapper" == Value.type "builtin_function_or_method" || Value.type "method-wrapper" == Value.type "method-wrapper") = true by decide, if_true]
  refine PySem.W.KFB.if_so (by decide) ?_
  refine wpAny_bind (check_bound_oi ?_)
  refine wpAny_bind (wpAny_pure (wpAny_pure ⟨plainId_quiet PySem.W.oi_plain _, codeAny_builtin PySem.W.entry_oi ?_⟩))
  rw [PySem.W.oi_run]
  exact wpAny_pure (h _ J)
end

/-! ### a def whose first row is super().__init__() -/
def sSup0 (cs : List String) : SM := fun u st => match u[0]? with
  | some (some (M3.W.val (.ref k))) => match st[k]? with
    | some (.ins c _) => if c ∈ cs then .nx u st else .bad
    | _ => .bad
  | _ => .bad
theorem sSup0_nx {cs : List String} {u : Sl3} {o : Store} (h : sSup0 cs u o ≠ .bad) : ∃ (kk : Nat) (cn : String) (fs : List (Str × D)), u[0]? = some (some (M3.W.val (.ref kk))) ∧ o[kk]? = some (.ins cn fs) ∧ cn ∈ cs ∧ sSup0 cs u o = .nx u o := by
  unfold sSup0 at h ⊢
  split at h
  · rename_i kk e1
    split at h
    · rename_i cn fs e2
      split at h
      · rename_i e3
        exact ⟨kk, cn, fs, e1, e2, e3, if_pos e3⟩
      · exact absurd rfl h
    · exact absurd rfl h
  · exact absurd rfl h
/-- a def with a free cell __class__: the cell's address, its words -/
structure FunC (K : PySem.W.Frag) (mg : Str → Option Value) (Pg : Program) (qual : Str) (st : Stmt) (D : Addr) (ps N : List Str) (f : Addr) (fd : FuncData) : Prop where
  ex : ∃ (cc c : Addr) (oc doc pm ct : Value) (od : Option Addr) (osl : Array (Option Value)), fd = (⟨"__init__", qual, defArgs st, defBody st, defScope st, [(("__class__" : Str), cc)], c⟩ : NF).fd doc pm ct ∧ K.lookup f = some ⟨oc, od, .func fd, osl⟩ ∧
    SupF K mg Pg f D cc ⟨"__init__", qual, defArgs st, defBody st, defScope st, [(("__class__" : Str), cc)], c⟩ ps N
theorem startF_eq {N ps : List Str} {vs : List V} (hl : vs.length = ps.length) (h : ps.length + 1 ≤ N.length) : startF N vs [none] = L2.start N vs := by
  unfold startF L2.start
  congr 1
  obtain ⟨m, hm⟩ : ∃ m, N.length - vs.length = m + 1 := ⟨N.length - vs.length - 1, by omega⟩
  rw [hm]
  simp [List.replicate_succ]
theorem post_fn {G : G3} {N : Nat} {mb : SM} {B : Addr → Prop} {s : S3} {o : Store} {ds : List D} {E : XK} {Q : VK} {wx : WX} (hwx : ∀ cv dd z H, E cv dd H → wx cv dd z H) (hp : Post G B (fun s d v => Rep G.R s.F s.io d v) E s Q (mfn N mb ds o)) :
    PostS G none wx B s { nx := fun _ H' => Q .non H', rt := Q } (mb (ds.map (fun d => some (.val d)) ++ List.replicate (N - ds.length) none) o) := by
  unfold mfn at hp
  cases em : mb (ds.map (fun d => some (.val d)) ++ List.replicate (N - ds.length) none) o with
  | nx u' st' => rw [em] at hp; exact fun B' s' z' b l w sl => hp s' .non l (w.less b) .non
  | rt w st' =>
    rw [em] at hp
    cases w with
    | val d => exact fun B' s' v b l w r => hp s' v l (w.less b) r
    | bor xs =>
      rintro B' s' v b l w ⟨p, vs', rfl, bp, nb, hq, r⟩
      have w' : Wd G (plus B p) st' s' := w.less fun a q => q.elim (b a) fun z => z ▸ bp
      exact hp ⟨s'.io, upd s'.F p (.lst vs'), s'.H⟩ (.ref p) (l.trans (freeze_le w')) (freeze_wd w' nb hq) (.lst upd_same (r.mono (freeze_le w').fr (freeze_le w').io))
    | bod ks us => exact hp.elim
    | bdd ks us => exact hp.elim
    | exn c x => exact hp.elim
    | len xs => exact hp.elim
  | bk u' st' => rw [em] at hp; exact hp.elim
  | ct u' st' => rw [em] at hp; exact hp.elim
  | err c x u' st' => rw [em] at hp; exact fun B' s' z' cv dd b l w sl q => hwx _ _ _ _ (hp s' cv dd l (w.less b) q)
  | bad => rw [em] at hp; exact hp.elim
section
variable {Pg : Program} {w : World} {K : PySem.W.Frag} {mg : Str → Option Value} {base : Heap}
/-- the context of such a body -/
abbrev cxC (Pg : Program) (w : World) (K : PySem.W.Frag) (mg : Str → Option Value) (base : Heap) (N : List Str) (qual : Str) (st : Stmt) (cc c f : Addr) (A : Around) (outer : List Env) (s : Shared) (H : Hp) (E : XK) : Cx :=
  ncx (L2.CX Pg w) Pg w K mg base N ⟨"__init__", qual, defArgs st, defBody st, defScope st, [(("__class__" : Str), cc)], c⟩ f A outer s H E
theorem fnS_ok {G : G3} (hK : K = G.K) (hw : w = G.w) {qual : Str} {st : Stmt} {D f : Addr} {fd : FuncData} {N ps : List Str} {k : Nat} {mb : SM} {cs : List String} (F : FunC K mg Pg qual st D ps N f fd) (hcs : ∀ c ∈ cs, ∃ C, G.cls c = some C ∧ SupI K C D)
    {p0 p1 p2 p4 p5 : Pos} {rest : List Stmt} (hm0 : SupE0 p0 p1 p2 p4) (hbody : defBody st = .Expr (.Call (.Attribute (.Call (.Name "super" p0) [] [] p1) "__init__" p2) [] [] p4) p5 :: rest) (hN : ps.length + 1 ≤ N.length)
    (h : ∀ (cc c : Addr) (A : Around) (outer : List Env) (s : Shared) (H : Hp) (E : XK), Room k (A.deeper (cxC Pg w K mg base N qual st cc c f A outer s H E).env) →
      MSs ⟨cxC Pg w K mg base N qual st cc c f A outer s H E, G, none, fun cls d _ H => E cls d H, hK, hw⟩ rest mb) :
    FnOk Pg w K mg base (L2.CX Pg w) (k + 1) f fd ps (spM G ps.length (mfn N.length (sSeq (sSup0 cs) mb))) := by
  obtain ⟨cc, c, oc, doc, pm, ct, od, osl, hfd, hf, S⟩ := F.ex
  refine ⟨fun vs H Q E h => h.1, fun A outer s0 H args us vs Q E hr e0 hb r ⟨hl, B, s, o, ds, eH, wd, rl, hp⟩ => ?_⟩
  subst eH
  have KX : K.In s0.heap := e0.mod.kin.keeps fun b o z => (e0.bs b o z).1
  have lim : s0.heap.NoLimit := e0.mod.nolimit.keeps fun b o z => (e0.bs b o z).1
  obtain ⟨t, pt, ht⟩ := (h cc c A outer s0 s.H E (hr.deeper _)).out
  have hp2 := post_fn (G := G) (wx := fun cls d _ H => E cls d H) (fun _ _ _ _ z => z) hp
  -- the receiver
  have lds := rl.length
  generalize hu : ds.map (fun d => some (M3.W.val d)) ++ List.replicate (N.length - ds.length) none = u at hp2
  have nb : sSup0 cs u o ≠ .bad := fun z => by
    unfold sSeq at hp2
    rw [z] at hp2
    exact hp2
  obtain ⟨kk, cn, fs, u0, ok, hcn, hsn⟩ := sSup0_nx nb
  have hp3 : PostS G none (fun cls d _ H => E cls d H) B s { nx := fun _ H' => Q .non H', rt := Q } (mb u o) := by
    unfold sSeq at hp2
    rw [hsn] at hp2
    exact hp2
  obtain ⟨C, gC, T⟩ := hcs cn hcn
  have z0 : ∃ (a : Addr) (dx : Addr) (gs : List (Str × V)), (startF N vs [none])[0]? = some (some (.ref a)) ∧ s.H a = some (.ins C dx gs) := by
    rw [← hu] at u0
    have h0 : 0 < ds.length := by
      rcases Nat.eq_zero_or_pos ds.length with q | q
      · rw [List.length_eq_zero_iff.mp q] at u0
        simp at u0
        rw [List.getElem?_replicate] at u0
        split at u0 <;> cases u0
      · exact q
    rw [List.getElem?_append_left (by simpa using h0), List.getElem?_map] at u0
    obtain ⟨d, ed, e2⟩ := Option.map_eq_some_iff.mp u0
    cases e2
    obtain ⟨v, ev, rv⟩ := rl.get ed
    cases rv with
    | ref ek =>
      obtain ⟨a', e1, _, _, oR⟩ := wd.obj kk _ ok rfl
      rw [ek] at e1
      cases e1
      obtain ⟨C', dx, gs, gC', hH, _⟩ := oR
      rw [gC] at gC'
      cases gC'
      refine ⟨_, dx, gs, ?_, hH⟩
      unfold startF
      have hv : 0 < vs.length := by omega
      rw [List.getElem?_append_left (by simpa using hv), List.getElem?_map, ev]
      rfl
  obtain ⟨a, dx, gs, hz0, hHa⟩ := z0
  subst hfd
  refine PySem.ks_codeAny_call_defAt (fd := (⟨"__init__", qual, defArgs st, defBody st, defScope st, [(("__class__" : Str), cc)], c⟩ : NF).fd doc pm ct) (body := defBody st) hr.depth (KX _ _ hf) rfl lim (PySem.W.codeRec_of KX S.cd) rfl hb S.sc.nocell (fun y hy => S.sc.par _ (List.of_mem_zip (show (y.1, y.2) ∈ _ from hy)).1) (fun h₀ hns kp => ?_) S.sc.co S.sc.gen S.sc.kind
  have I : Inv (cxC Pg w K mg base N qual st cc c f A outer s0 s.H E) [] (startF N vs [none]) s.H { s0 with heap := h₀, toks := s0.toks + (ps.zip us).length } := inv_startN S.sc hr.hd e0 hl r (cellsAt_of S e0) hns kp
  have hex : ∀ s', Inv (cxC Pg w K mg base N qual st cc c f A outer s0 s.H E) [] (startF N vs [none]) s.H s' → _root_.PySem.wpAt (model Pg w) (cxC Pg w K mg base N qual st cc c f A outer s0 s.H E).A (.func (defBody st) (cxC Pg w K mg base N qual st cc c f A outer s0 s.H E).env) (execs rest (cxC Pg w K mg base N qual st cc c f A outer s0 s.H E).env) (SP (cxC Pg w K mg base N qual st cc c f A outer s0 s.H E) [] { nx := fun _ H' => Q .non H', rt := Q }) (cxC Pg w K mg base N qual st cc c f A outer s0 s.H E).xe s' := fun s' J => by
    refine wpAt_of_wpAny (pt.run [] s' _ _ _ J (ht B B s o u _ _ (fun _ b => b) wd ?_ hp3))
    rw [startF_eq hl hN, ← hu]
    exact slo_start (N := N) rl
  have hall : _root_.PySem.wpAt (model Pg w) (cxC Pg w K mg base N qual st cc c f A outer s0 s.H E).A (.func (defBody st) (cxC Pg w K mg base N qual st cc c f A outer s0 s.H E).env) (execs (.Expr (.Call (.Attribute (.Call (.Name "super" p0) [] [] p1) "__init__" p2) [] [] p4) p5 :: rest) (cxC Pg w K mg base N qual st cc c f A outer s0 s.H E).env)
      (SP (cxC Pg w K mg base N qual st cc c f A outer s0 s.H E) [] { nx := fun _ H' => Q .non H', rt := Q }) (cxC Pg w K mg base N qual st cc c f A outer s0 s.H E).xe { s0 with heap := h₀, toks := s0.toks + (ps.zip us).length } :=
    PySem.ks_wpAt_execs_cons (sup_ins (X := cxC Pg w K mg base N qual st cc c f A outer s0 s.H E) (body := defBody st) hm0 S T (fL := s0.heap.objs.size) rfl rfl I hHa hz0 fun s' J => hex s' J)
  rw [← hbody] at hall
  refine PySem.ks_wpAt_mono hall (fun fl s' hs => ?_) fun _ _ z => z
  have fin : ∀ {σ' : L2.St} {H' : Hp} {v : V} {u : Value}, Inv (cxC Pg w K mg base N qual st cc c f A outer s0 s.H E) [] σ' H' s' → L2.RelV v u → Q v H' → CE outer Pg w s.H s0 Q u s' :=
    fun {σ' H' v u} J rv z => ⟨v, H', J.os, J.bare, J.base, J.hok, rv, z⟩
  cases fl with
  | next => obtain ⟨σ', H', J, z⟩ := hs; exact fin (v := V.non) (u := Value.none) J rfl z
  | ret u => obtain ⟨v', σ', H', J, rv, z⟩ := hs; exact fin J rv z
  | brk => exact hs.elim fun _ z => z.elim fun _ z => z.2.elim
  | cont => exact hs.elim fun _ z => z.elim fun _ z => z.2.elim
end
theorem isSome_of_dict {K : PySem.W.Frag} {C : Addr} (h : PySem.W.hasDictIn K C = true) : (PySem.W.clsIn K C).isSome = true := by
  unfold PySem.W.hasDictIn at h
  cases q : PySem.W.clsIn K C with
  | none => rw [q] at h; cases h
  | some cd => rfl
theorem cls_of_dict {K : PySem.W.Frag} {C : Addr} (h : PySem.W.hasDictIn K C = true) : ∃ o cd, K.lookup C = some o ∧ o.data = .cls cd := by
  obtain ⟨cd, e⟩ := Option.isSome_iff_exists.mp (isSome_of_dict h)
  unfold PySem.W.clsIn at e
  split at e
  · rename_i ho; exact ⟨_, _, ho, rfl⟩
  · cases e
end M3


namespace M3
open PySem PySem.Spec PyProof.Rows L2

/-! ### return of a new list, still its taker's own -/
def sRetF (m : FM) : SM := fun u st => match m u st with
  | .ok xs st' => .rt (.bor xs) st'
  | .err c x st' => .err c x u st'
  | .bad => .bad
section
variable {P : P3} {e : Expr} {m : FM} {pos : Pos}
theorem ms_retF (he : MF P e m) : MS P (.Return (some e) pos) (sRetF m) := by
  obtain ⟨t, pt, ht⟩ := he.out
  refine MS.mk' (ps_ret pt) fun B0 B s o u z D b0 wd sl h => ht B0 B s o u z _ wd sl ?_
  unfold sRetF at h
  cases em : m u o with
  | ok xs st' =>
    rw [em] at h
    exact fun s' p vs l w nb hp r => h (plus B p) s' (.ref p) (fun a q => .inl (b0 a q)) (l.less b0) w ⟨p, vs, rfl, .inr rfl, fun q => nb (b0 p q), hp, r⟩
  | err c x st' => rw [em] at h; exact fun s' cv dd l w q => h B s' z cv dd b0 (l.less b0) w (sl.mono' l) q
  | bad => rw [em] at h; exact h
end
/-- the promise of a def that hands back a new list -/
def mfnL (N : Nat) (mb : SM) : List D → M (List D) := fun ds st => match mb (ds.map (fun d => some (.val d)) ++ List.replicate (N - ds.length) none) st with
  | .rt (.bor xs) st' => .ok xs st'
  | .err c x _ st' => .err c x st'
  | _ => .bad
def spML (G : G3) (n : Nat) (m : List D → M (List D)) : Sp := fun vs H Q E => vs.length = n ∧ ∃ (B : Addr → Prop) (s : S3) (st : Store) (ds : List D), s.H = H ∧ Wd G B st s ∧ RepL G.R s.F s.io ds vs ∧ PostF G B E s Q (m ds st)
section
variable {P : Program} {w : World} {K : PySem.W.Frag} {mg : Str → Option Value} {base : Heap}
theorem fn_okL {G : G3} (hK : K = G.K) (hw : w = G.w) {x qual : Str} {st : Stmt} {f : Addr} {fd : FuncData} {N ps : List Str} {k : Nat} {mb : SM} (F : Fun K x qual st f fd) (S : FnScope N ps (defScope st))
    (h : ∀ (cdv : Value) (A : Around) (outer : List Env) (s : Shared) (H : Hp) (E : XK), Room k (A.deeper (envOfC qual (defScope st) s.heap.objs.size f cdv)) →
      MSs ⟨cxOf (L2.CX P w) P w K mg base N qual (defScope st) f cdv A outer s H E, G, none, fun cls d _ H => E cls d H, hK, hw⟩ (defBody st) mb) :
    FnOk P w K mg base (L2.CX P w) (k + 1) f fd ps (spML G ps.length (mfnL N.length mb)) := by
  refine F.okX S (fun vs H Q E h => h.1) fun cdv A outer s0 H vs Q E hr ⟨hl, B, s, o, ds, e, wd, rl, hp⟩ => ?_
  subst e
  obtain ⟨t, pt, ht⟩ := (h cdv A outer s0 s.H E hr).out
  refine ⟨t, pt, ht B B s o _ _ _ (fun _ b => b) wd (slo_start (N := N) rl) ?_⟩
  unfold mfnL at hp
  cases em : mb (ds.map (fun d => some (.val d)) ++ List.replicate (N.length - ds.length) none) o with
  | rt w st' =>
    rw [em] at hp
    cases w with
    | bor xs =>
      rintro B' s' v b l w ⟨p, vs', rfl, bp, nb, hq, r⟩
      have w' : Wd G (plus B p) st' s' := w.less fun a q => q.elim (b a) fun z => z ▸ bp
      exact hp s' p vs' l w' nb hq r
    | val d => exact hp.elim
    | bod ks us => exact hp.elim
    | bdd ks us => exact hp.elim
    | exn c x => exact hp.elim
    | len xs => exact hp.elim
  | nx u' st' => rw [em] at hp; exact hp.elim
  | bk u' st' => rw [em] at hp; exact hp.elim
  | ct u' st' => rw [em] at hp; exact hp.elim
  | err c x u' st' => rw [em] at hp; exact fun B' s' z' cv dd b l w sl q => hp s' cv dd l (w.less b) q
  | bad => rw [em] at hp; exact hp.elim
end
/-! ### o.f, a property that hands back a new list -/
structure PropOkL (Pg : Program) (w : World) (K : PySem.W.Frag) (mg : Str → Option Value) (base : Heap) (G : G3) (k : Nat) (f : Str) (c : String) (mf : List D → M (List D)) : Prop where
  ex : ∃ C p g fd ps, G.cls c = some C ∧ Cls K C ∧ PropOf K C f p g ∧ Binds K fd ps [] ∧ FnOk Pg w K mg base (L2.CX Pg w) k g fd ps (spML G 1 mf)
def fProp (c : String) (mf : List D → M (List D)) (mo : EM) : FM := fun u => M.bind (mo u) fun w => M.bind (insOf w) fun q => M.bind (M.chk (q.2.1 = c)) fun _ => M.quiet (mf [.ref q.1])
section
variable {P : P3} {pos : Pos} {o : Expr} {mo : EM} {k j : Nat} {c : String} {mf : List D → M (List D)}
theorem PostF.of_ins {G : G3} {X : Hex} {B : Addr → Prop} {s : S3} {st : Store} {w : M3.W} {v : V} {E : XK} {Q : VK} {f : Nat × String × List (Str × D) → M (List D)} (wd : Wd G B st s) (r : RepW G X B s w v) (h : PostF G B E s Q (M.bind (insOf w) f st)) :
    ∃ (i : Nat) (c : String) (fs : List (Str × D)) (a : Addr) (C dx : Addr) (gs : List (Str × V)), w = .val (.ref i) ∧ v = .ref a ∧ s.io i = some a ∧ st[i]? = some (.ins c fs) ∧ G.cls c = some C ∧ s.H a = some (.ins C dx gs) ∧ FsR G.R s.F s.io fs gs ∧ PostF G B E s Q (f (i, c, fs) st) := by
  unfold M.bind at h
  cases e : insOf w st with
  | bad => rw [e] at h; exact h.elim
  | err c x st' =>
    exfalso
    unfold insOf at e
    split at e
    · split at e <;> cases e
    · cases e
  | ok q st' =>
    rw [e] at h
    obtain ⟨rfl, rfl, ek⟩ := ins_of e
    have r : Rep G.R s.F s.io (.ref q.1) v := r
    cases r with
    | ref eio =>
      obtain ⟨a, e1, b1, f1, C, dx, gs, ec, eh, rf⟩ := wd.obj _ _ ek rfl
      rw [eio] at e1
      cases e1
      exact ⟨q.1, q.2.1, q.2.2, _, C, dx, gs, rfl, rfl, eio, ek, ec, eh, rf, h⟩
theorem mf_prop {f : Str} (h : PropOkL P.X.prog P.X.w P.X.K P.X.mg P.X.base P.G k f c mf) (hr : Room j P.X.A) (hk : k + 1 ≤ j) (ho : ME P o mo) (hab : attributeBase o f P.X.env (eval o P.X.env) = eval o P.X.env := by rfl) :
    MF P (.Attribute o f pos) (fProp c mf mo) := by
  obtain ⟨C, p, g, fd, ps, hcl, hc, hp, hb, F⟩ := h.ex
  obtain ⟨to, po, hto⟩ := ho.out
  refine MF.mk' (pe_prop (E := fun _ _ _ => False) po hc hp F (hr.mono hk) hb .nil ?_ hab) fun B0 B s st u z Q wd sl hp => hto B0 B s st u z _ wd sl (PostF.bind hp fun w st1 s1 v l1 wd1 r1 h1 => ?_)
  · rintro pins σ H s er s' I ⟨_, _, _, _, _, _, _, _, _, _, _, _, q⟩
    exact q
  · obtain ⟨i, c', fs, a, C', dx, gs, rfl, rfl, eio, ek, ec, eh, rf, h1⟩ := PostF.of_ins wd1 r1 h1
    obtain ⟨hcc, h2⟩ := PostF.of_chk h1
    have hcc : c' = c := hcc
    subst hcc
    rw [hcl] at ec
    cases ec
    refine ⟨a, dx, gs, rfl, eh, rfl, B, s1, st1, [.ref i], rfl, wd1, .cons (.ref eio) .nil, ?_⟩
    unfold M.quiet at h2
    dsimp only at h2
    cases em : mf [.ref i] st1 with
    | ok d st' => rw [em] at h2; exact h2
    | err c x st' => rw [em] at h2; exact h2.elim
    | bad => rw [em] at h2; exact h2.elim
end

/-! ### constants of a class -/
structure ConOk (K : PySem.W.Frag) (G : G3) (f : Str) (c : String) (d : D) : Prop where
  ex : ∃ C v u, G.cls c = some C ∧ Cls K C ∧ Con K C f v u ∧ ∀ F io, Rep G.R F io d v
/-- e.f, e an instance of a class that has the constant d -/
def eCon (cs : List (String × D)) (f : Str) (m : EM) : EM := fun u => M.bind (m u) fun w => M.bind (insOf w) fun q => M.bind (M.chk (q.2.2.lookup f = none)) fun _ => M.bind (M.of (cs.lookup q.2.1)) fun d => M.pure (.val d)
structure CValOk (K : PySem.W.Frag) (mg : Str → Option Value) (G : G3) (x f : Str) (d : D) : Prop where
  ex : ∃ C mc v u, mg x = some (.ref C) ∧ ClX.CRead K C mc ∧ ClX.CVal K C mc f v u ∧ ∀ F io, Rep G.R F io d v
section
variable {P : P3} {pos p : Pos} {e : Expr} {m : EM} {cs : List (String × D)} {f x : Str} {d : D}
theorem me_con (ok : ∀ q ∈ cs, ConOk P.X.K P.G f q.1 q.2) (he : ME P e m) (hb : attributeBase e f P.X.env (eval e P.X.env) = eval e P.X.env := by rfl) : ME P (.Attribute e f pos) (eCon cs f m) := by
  obtain ⟨t, pt, ht⟩ := he.out
  refine ME.mk' (pe_con pt hb) fun B0 B s st u z Q wd sl h => ht B0 B s st u z _ wd sl (Post.bind h fun w st1 s1 v l1 wd1 r1 h1 => ?_)
  obtain ⟨k, c, fs, a, C, dx, gs, rfl, rfl, eio, ek, ec, eh, rf, nb, hF, h2⟩ := Post.of_ins wd1 r1 h1
  obtain ⟨hn, h3⟩ := Post.of_chk h2
  obtain ⟨d, ed, h4⟩ := Post.of_of h3
  obtain ⟨C', v, u', gC, hC, con, rp⟩ := (ok _ (lookup_mem ed)).ex
  rw [ec] at gC
  cases gC
  exact ⟨a, C, dx, gs, v, u', rfl, eh, hC, con, rf.look.2 hn, h4 s1 _ (Le.refl _) wd1 (rp _ _)⟩
theorem me_cval (ok : CValOk P.X.K P.X.mg P.G x f d) (hg : Gl P.X x) (hdb : (x == ("__debug__" : Str)) = false := by decide) (hb : attributeBase (.Name x p) f P.X.env (eval (.Name x p) P.X.env) = eval (.Name x p) P.X.env := by rfl) : ME P (.Attribute (.Name x p) f pos) (eC d) := by
  obtain ⟨C, mc, v, u, hm, rd, cv, rp⟩ := ok.ex
  have hc : PE P.X (.Name x p) (tC (.ref C)) := pe_glob hg hm rfl hdb
  refine ME.mk' (ClX.pe_cval hc hb) fun B0 B s st u' z Q wd sl h => ?_
  exact ⟨C, mc, v, u, rfl, rd, cv, h s v (Le.refl _) wd (rp _ _)⟩
end
/-! ### list(x), x a list of the store -/
def fListA (ma : AM) : FM := fun u => M.bind (ma u) fun ws => match ws with
  | [w] => M.bind (lstOf w) fun q => M.pure q.2
  | _ => M.bad
theorem PostF.of_lst {G : G3} {X : Hex} {B : Addr → Prop} {s : S3} {st : Store} {w : M3.W} {v : V} {E : XK} {Q : VK} {f : Nat × List D → M (List D)} (wd : Wd G B st s) (r : RepW G X B s w v) (h : PostF G B E s Q (M.bind (lstOf w) f st)) :
    ∃ (i : Nat) (xs : List D) (a : Addr) (vs : List V), w = .val (.ref i) ∧ v = .ref a ∧ s.io i = some a ∧ st[i]? = some (.lst xs) ∧ s.H a = some (.lst vs) ∧ RepL G.R s.F s.io xs vs ∧ PostF G B E s Q (f (i, xs) st) := by
  unfold M.bind at h
  cases e : lstOf w st with
  | bad => rw [e] at h; exact h.elim
  | err c x st' =>
    exfalso
    unfold lstOf at e
    split at e
    · split at e <;> cases e
    · cases e
  | ok q st' =>
    rw [e] at h
    obtain ⟨rfl, rfl, ek⟩ := lst_of e
    have r : Rep G.R s.F s.io (.ref q.1) v := r
    cases r with
    | ref eio =>
      obtain ⟨a, e1, b1, f1, vs, eh, rl⟩ := wd.obj _ _ ek rfl
      rw [eio] at e1
      cases e1
      exact ⟨q.1, q.2, _, vs, rfl, rfl, eio, ek, eh, rl, h⟩
section
variable {P : P3} {pos p : Pos} {e : Expr} {es : List Expr} {ma : AM} {x : Str}
theorem mf_listS (hg : Gl P.X x) (hm : P.X.mg x = none) (hv : bootBuiltins x = some (.type "list")) (ha : MA P (e :: es) ma) (hn : x ≠ "__name__" := by decide) (hdb : (x == ("__debug__" : Str)) = false := by decide)
    (he : starEach (e :: es) P.X.env = (false, eval e P.X.env) :: starEach es P.X.env := by rfl) (hpl : (backTo pos (starEach es P.X.env)).any (·.1) = false := by rfl) : MF P (.Call (.Name x p) (e :: es) [] pos) (fListA ma) := by
  obtain ⟨t, pt, ht⟩ := ha.out
  have hr : CallR P.X (.type "list") _ := call_list_of
  refine MF.mk' (pe_callTy hr hg hm hv pt hn hdb he hpl) fun B0 B s st u z Q wd sl h => ht B0 B s st u z _ wd sl (PostF.bind h fun ws st1 s1 vs l1 wd1 r1 h1 => ?_)
  match ws, r1, h1 with
  | [], _, h1 => exact h1.elim
  | _ :: _ :: _, _, h1 => exact h1.elim
  | [w], .cons r rr, h1 =>
    cases rr
    obtain ⟨i, xs, a, us, rfl, rfl, eio, ek, eh, rl, h2⟩ := PostF.of_lst wd1 r h1
    exact ⟨a, us, rfl, .inl (.inl (.inl eh)), fun l hl => PostF.fresh h2 wd1 rl hl⟩
end
/-! ### rows that run them -/
section
variable {u : Sl3} {st : Store} {ks : SRes → Prop} {kw : Res W → Prop} {kl : Res (List D) → Prop}
def kRetF (u : Sl3) (k : SRes → Prop) : Res (List D) → Prop
  | .ok xs st => k (.rt (.bor xs) st)
  | .err c x st => k (.err c x u st)
  | .bad => k .bad
@[simp] theorem kRetF_ok (xs) : kRetF u ks (.ok xs st) = ks (.rt (.bor xs) st) := rfl
@[simp] theorem run_sRetF (m : FM) : srun (sRetF m u st) ks = M3.run (m u st) (kRetF u ks) := by
  unfold srun sRetF M3.run kRetF
  cases m u st <;> rfl
def kRetL (k : Res (List D) → Prop) : SRes → Prop
  | .rt (.bor xs) st => k (.ok xs st)
  | .err c x _ st => k (.err c x st)
  | _ => k .bad
@[simp] theorem kRetL_bor (xs) : kRetL kl (.rt (.bor xs) st) = kl (.ok xs st) := rfl
@[simp] theorem kRetL_err (c x) : kRetL kl (.err c x u st) = kl (.err c x st) := rfl
theorem run_mfnL (N : Nat) (mb : SM) (ds : List D) : M3.run (mfnL N mb ds st) kl = srun (mb (ds.map (fun d => some (.val d)) ++ List.replicate (N - ds.length) none) st) (kRetL kl) := by
  unfold M3.run mfnL srun kRetL
  cases mb (ds.map (fun d => some (.val d)) ++ List.replicate (N - ds.length) none) st with
  | rt w st' => cases w <;> rfl
  | _ => rfl
@[simp] theorem run_fListA (ma : AM) : M3.run (fListA ma u st) kl = M3.run (ma u st) (kBind (fun ws => match ws with
  | [w] => M.bind (lstOf w) fun q => M.pure q.2
  | _ => M.bad) kl) := run_bind _ _
@[simp] theorem run_fProp (c) (mf : List D → M (List D)) (mo : EM) : M3.run (fProp c mf mo u st) kl = M3.run (mo u st) (kBind (fun w => M.bind (insOf w) fun q => M.bind (M.chk (q.2.1 = c)) fun _ => M.quiet (mf [.ref q.1])) kl) := run_bind _ _
@[simp] theorem run_eCon (cs f) (m : EM) : M3.run (eCon cs f m u st) kw = M3.run (m u st) (kBind (fun w => M.bind (insOf w) fun q => M.bind (M.chk (q.2.2.lookup f = none)) fun _ => M.bind (M.of (cs.lookup q.2.1)) fun d => M.pure (.val d)) kw) := run_bind _ _
def kSup0 (cs : List String) (u : Sl3) (st : Store) (k : SRes → Prop) : Option (Option W) → Prop
  | some (some (.val (.ref i))) => (match st[i]? with
    | some (.ins c _) => if c ∈ cs then k (.nx u st) else k .bad
    | _ => k .bad)
  | _ => k .bad
theorem run_sSup0 {cs : List String} {i : Nat} {c : String} {fs : List (Str × D)} (h0 : u[0]? = some (some (.val (.ref i)))) (h1 : st[i]? = some (.ins c fs)) (h2 : c ∈ cs) : srun (sSup0 cs u st) ks = ks (.nx u st) := by
  unfold srun sSup0
  rw [h0]
  dsimp only
  rw [h1]
  dsimp only
  rw [if_pos h2]
end
end M3


/-! xs.index(x), xs a list of texts -/
namespace M3
open PySem PySem.Spec PyProof.Rows L2
def eIdxL (a b : EM) : EM := fun u => M.bind (a u) fun x => M.bind (M.of x.ls) fun xs => M.bind (b u) fun y => M.bind (M.of x.ls) fun _ => M.of (idxF xs y)
section
variable {P : P3} {pos : Pos}
theorem me_idxL {o e : Expr} {apos cpos : Pos} {mo me : EM} (ho : ME P o mo) (he : ME P e me)
    (hbase : attributeBase o "index" P.X.env (eval o P.X.env) = eval o P.X.env := by rfl) (hline : (apos.endLine == cpos.line) = true := by rfl) (hs : starEach [e] P.X.env = (false, eval e P.X.env) :: starEach [] P.X.env := by rfl)
    (hplain : (backTo cpos (starEach [] P.X.env)).any (·.1) = false := by rfl)
    (hfew : ((backTo cpos (starEach [e] P.X.env)).all (fun q => !q.1) && (backToKw cpos (keywordEach [] P.X.env)).all (fun q => q.1.isSome) && decide (([e] : List Expr).length + ([] : List Keyword).length + (if ([] : List Keyword).isEmpty then 0 else 1) < 30)) = true := by rfl) :
    ME P (.Call (.Attribute o "index" apos) [e] [] cpos) (eIdxL mo me) := by
  obtain ⟨to, po, hto⟩ := ho.out
  obtain ⟨te, pe, hte⟩ := he.out
  refine ME.mk' (pe_bm PySem.F.plainAttrs_list PySem.F.slot_list_index PySem.F.type_list_index mt_index po (pa_cons pe pa_nil hs) hbase hfew hline hs hplain) fun B0 B s st u z Q wd sl h => hto B0 B s st u z _ wd sl (Post.bind h fun w st1 s1 v1 l1 wd1 r1 h1 => ?_)
  obtain ⟨xs, ex, h1⟩ := Post.of_of h1
  obtain ⟨p, vs, rfl, hp, rl⟩ := ls_ok wd1 r1 ex
  refine ⟨.inl ⟨rfl, vs, .inl (.inl hp)⟩, hte B0 B s1 st1 u z _ wd1 (sl.mono' l1) (Post.bind h1 fun w2 st2 s2 v2 l2 wd2 r2 h2 => ?_)⟩
  obtain ⟨_, _, h2⟩ := Post.of_of h2
  obtain ⟨w3, e3, h2⟩ := of_eq h2
  obtain ⟨p', vs', e', hp', rl'⟩ := ls_ok wd2 (r1.mono l2) ex
  cases e'
  unfold idxF at e3
  split at e3
  · rename_i x _
    cases h3 : D.strs xs with
    | none => rw [h3] at e3; cases e3
    | some ys =>
      rw [h3, Option.bind_some] at e3
      cases h4 : ys.findIdx? (fun y => decide (y = x)) with
      | none => rw [h4] at e3; cases e3
      | some j =>
        rw [h4] at e3
        cases e3
        cases r2
        have ev := strs_ok rl' h3
        subst ev
        obtain ⟨hj, h5, h6⟩ := List.findIdx?_eq_some_iff_getElem.mp h4
        refine ⟨_, ys.map V.str, V.str x, j, V.str x, rfl, rfl, ?_, rfl, ?_, ?_, ?_, fun m z hm hx => ?_, h2.pure wd2 .int⟩
        · rw [P.hK]; exact .inl (.inl hp')
        · rw [List.all_map]; exact List.all_eq_true.mpr fun _ _ => rfl
        · rw [List.getElem?_map, List.getElem?_eq_getElem hj, of_decide_eq_true h5]; rfl
        · show (x == x) = true; exact beq_self_eq_true x
        · have := h6 m hm
          rw [List.getElem?_map] at hx
          have hm' : m < ys.length := by omega
          rw [List.getElem?_eq_getElem hm'] at hx
          cases hx
          show (ys[m] == x) = false
          exact beq_eq_false_iff_ne.mpr fun q => this (decide_eq_true q)
  · cases e3
end
section
variable {a b : EM} {u : Sl3} {st : Store} {kw}
@[simp] theorem run_eIdxL : run (eIdxL a b u st) kw = run (a u st) (kBind (fun x => M.bind (M.of x.ls) fun xs => M.bind (b u) fun y => M.bind (M.of x.ls) fun _ => M.of (idxF xs y)) kw) := run_bind _ _
end
end M3


/-! tuple * int, any int from 0 on -/
namespace M3
open PySem PySem.Spec PyProof.Rows L2
set_option maxHeartbeats 4000000 in
theorem tuple_mul1 (l : Addr) (items : Array Value) (n : Nat) (dd : Option Addr) (sl : Array (Option Value)) (x : Int) (u : Tok) (c0 : (decide (x < -(2 ^ 63)) || decide (x ≥ 2 ^ 63)) = false) (c1 : (items.isEmpty || x == 1) = true) :
    Meets (Builtin.«tuple.__mul__» ⟨[.ref l, .int x u], []⟩) (fun _ R s => s.heap.get? l = some { cls := .type "tuple", dict := dd, data := .seq items n, slots := sl } ∧ R (.ok (.ret (Value.ref l))) s) :=
  .of_wp fun prog w A R s h => by
    obtain ⟨hp, g, d, tk, os⟩ := s
    obtain ⟨hl, h⟩ := h
    have f1 := AutoSeq1.idx_int
    wp_walk using AutoSeq1.wpAny_loadPart' hl
    repeat (first
      | (refine wpAny_ite_false (decide_eq_false (by rw [c0]; exact Bool.false_ne_true)) ?_; wp_walk using AutoSeq1.wpAny_loadPart' hl)
      | (refine wpAny_ite_true (decide_eq_true c1) ?_; wp_walk using AutoSeq1.wpAny_loadPart' hl))
    exact ⟨_, rfl, h⟩
set_option maxHeartbeats 4000000 in
theorem tuple_mul0 (l : Addr) (items : Array Value) (n : Nat) (dd : Option Addr) (sl : Array (Option Value)) (x : Int) (u : Tok) (c0 : (decide (x < -(2 ^ 63)) || decide (x ≥ 2 ^ 63)) = false) (c1 : (items.isEmpty || x == 1) = false) (c2 : (decide (x ≤ 0) || items.isEmpty) = true) :
    Meets (Builtin.«tuple.__mul__» ⟨[.ref l, .int x u], []⟩) (fun _ R s => s.heap.get? l = some { cls := .type "tuple", dict := dd, data := .seq items n, slots := sl } ∧
      R (.ok (.ret (Value.ref s.heap.objs.size))) { s with heap := s.heap.push { cls := Value.type "tuple", data := Data.seq #[] }, toks := s.toks }) :=
  .of_wp fun prog w A R s h => by
    obtain ⟨hp, g, d, tk, os⟩ := s
    obtain ⟨hl, h⟩ := h
    have f1 := AutoSeq1.idx_int
    wp_walk using AutoSeq1.wpAny_loadPart' hl
    repeat (first
      | (refine wpAny_ite_false (decide_eq_false (by rw [c0]; exact Bool.false_ne_true)) ?_; wp_walk using AutoSeq1.wpAny_loadPart' hl)
      | (refine wpAny_ite_false (decide_eq_false (by rw [c1]; exact Bool.false_ne_true)) ?_; wp_walk using AutoSeq1.wpAny_loadPart' hl)
      | (refine wpAny_ite_true (decide_eq_true c2) ?_; wp_walk using AutoSeq1.wpAny_loadPart' hl))
    exact ⟨_, rfl, h⟩
def rMulT (K : PySem.W.Frag) : R2 := fun x y H Q => ∃ l k xs, x = .ref l ∧ y = .int k ∧ SqT K H l xs ∧ 0 ≤ k ∧ k ≤ 1000 ∧ xs.length ≤ 1000 ∧ (xs = [] ∨ k = 1 → Q (.ref l) H) ∧ (xs ≠ [] → k ≠ 1 → NewT (List.replicate k.toNat xs).flatten H Q)
section
variable {X : Cx}
theorem op_mulT : OpR X (binaryOp .Mult) (rMulT X.K) := by
  intro pins s σ H x y v u Q I rx ry h
  obtain ⟨l, k, xs, rfl, rfl, hT, h1, h2, hz, q1, q2⟩ := h
  cases rx
  obtain ⟨t, rfl⟩ := ry
  obtain ⟨its, r, ⟨⟨cls, dd, data, sl⟩, ho, hc, n, hd⟩, hs⟩ := I.tuple hT
  simp only at hc hd
  subst hc hd
  have hle : its.length = xs.length := r.length.symm
  have c0 : (decide (k < -(2 ^ 63)) || decide (k ≥ 2 ^ 63)) = false := by
    rw [decide_eq_false (by omega), decide_eq_false (by omega)] <;> rfl
  have ie : its.toArray.isEmpty = decide (xs = []) := by
    cases r with
    | nil => rfl
    | cons a b => rfl
  by_cases e : xs = [] ∨ k = 1
  · have c1 : (its.toArray.isEmpty || k == 1) = true := by
      rw [ie]
      rcases e with e | e
      · rw [decide_eq_true e]; rfl
      · rw [e]; simp
    refine wpAny_binaryOp_repeat_ref (T := "tuple") (U := "int") (by decide) ⟨_, ho, rfl⟩ (fun s' => typeIs_int s' k t) noFill_tuple_mul F.fills_int_mul F.slot_int_rmul repeat_tuple F.slot_int_index.lookup
      (call_meets F.slot_int_rmul (typeIs_int s k t) F.entry_int_rmul (F.args_int_rmul_2 _ _) (int_rmul_tuple k t l its.toArray n dd sl)
        ⟨ho, rfl, ⟨_, ho, rfl⟩, call_meets F.slot_tuple_mul ⟨_, ho, rfl⟩ F.entry_tuple_mul (F.args_tuple_mul_2 _ _) (tuple_mul1 l its.toArray n dd sl k t c0 c1) ⟨ho, ?_⟩⟩)
    exact ⟨V.ref l, H, I, rfl, q1 e⟩
  · have hne : xs ≠ [] := fun q => e (.inl q)
    have hk : k ≠ 1 := fun q => e (.inr q)
    have c1 : (its.toArray.isEmpty || k == 1) = false := by
      rw [ie, decide_eq_false hne, Bool.false_or]
      exact beq_eq_false_iff_ne.mpr hk
    have q3 := q2 hne hk
    by_cases k0 : k = 0
    · subst k0
      refine wpAny_binaryOp_repeat_ref (T := "tuple") (U := "int") (by decide) ⟨_, ho, rfl⟩ (fun s' => typeIs_int s' 0 t) noFill_tuple_mul F.fills_int_mul F.slot_int_rmul repeat_tuple F.slot_int_index.lookup
        (call_meets F.slot_int_rmul (typeIs_int s 0 t) F.entry_int_rmul (F.args_int_rmul_2 _ _) (int_rmul_tuple 0 t l its.toArray n dd sl)
          ⟨ho, rfl, ⟨_, ho, rfl⟩, call_meets F.slot_tuple_mul ⟨_, ho, rfl⟩ F.entry_tuple_mul (F.args_tuple_mul_2 _ _) (tuple_mul0 l its.toArray n dd sl 0 t c0 c1 rfl) ⟨ho, ?_⟩⟩)
      exact laidT (s := s) (us := []) I (.nil : Vals [] []) (Nat.zero_le _) q3
    · have c2 : (decide (k ≤ 0) || its.toArray.isEmpty) = false := by
        rw [ie, decide_eq_false hne, Bool.or_false]
        exact decide_eq_false (by omega)
      have hsz0 : its.toArray.size = xs.length := by rw [List.size_toArray, hle]
      have hm : ((its.toArray.size : Nat) : Int) * k ≤ 1000000 := by
        rw [hsz0]
        have a1 : ((xs.length : Nat) : Int) * k ≤ 1000 * k := Int.mul_le_mul_of_nonneg_right (by omega) (by omega)
        omega
      have flen : (List.replicate k.toNat its).flatten.length ≤ sizeLine := by
        rw [PyProof.Rows.lm_len_rep_flat, hle, sizeLine_eq]
        have a1 : k.toNat * xs.length ≤ 1000 * 1000 := Nat.mul_le_mul (by omega) hz
        omega
      have c4 : Builtin.Tuple.tupleTooMany (((its.toArray.size : Nat) : Int) * k) = false := by
        unfold Builtin.Tuple.tupleTooMany
        rw [sizeLine_eq]
        exact decide_eq_false (by omega)
      refine wpAny_binaryOp_repeat_ref (T := "tuple") (U := "int") (by decide) ⟨_, ho, rfl⟩ (fun s' => typeIs_int s' k t) noFill_tuple_mul F.fills_int_mul F.slot_int_rmul repeat_tuple F.slot_int_index.lookup
        (call_meets F.slot_int_rmul (typeIs_int s k t) F.entry_int_rmul (F.args_int_rmul_2 _ _) (int_rmul_tuple k t l its.toArray n dd sl)
          ⟨ho, rfl, ⟨_, ho, rfl⟩, call_meets F.slot_tuple_mul ⟨_, ho, rfl⟩ F.entry_tuple_mul (F.args_tuple_mul_2 _ _) (tuple_mulW l its.toArray n dd sl k t c0 c1 c2 (by omega) c4 (by rw [size_rep, List.size_toArray]; exact flen)) ⟨ho, ?_⟩⟩)
      rw [size_rep]
      exact laidT (s := s) I (r.rep k.toNat) (by rw [PyProof.Rows.lm_len_rep_flat, sizeLine_eq]; have a1 : k.toNat * xs.length ≤ 1000 * 1000 := Nat.mul_le_mul (by omega) hz; omega) q3
end
def mulTF : W → W → Option W
  | .val (.tup xs), .val (.int n) => if 0 ≤ n ∧ n ≤ 1000 ∧ xs.length ≤ 1000 then some (.val (.tup (List.replicate n.toNat xs).flatten)) else none
  | _, _ => none
theorem om_mulT {P : P3} : OpM P (binaryOp .Mult) mulTF := by
  refine ⟨_, op_mulT, fun B s st w1 w2 w v1 v2 Q wd r1 r2 e k => ?_⟩
  unfold mulTF at e
  split at e
  · rename_i xs n
    split at e
    · rename_i hz
      cases e
      cases r2
      cases r1 with
      | tup hF rl =>
        rename_i vs p
        refine ⟨p, n, vs, rfl, rfl, (hF.mono wd.sub).sq, hz.1, hz.2.1, by rw [← rl.length]; exact hz.2.2, fun h => ?_, fun _ _ => wd.newT (rep_flat rl n.toNat) fun s' v l w r => k s' v l w r⟩
        rcases h with h | h
        · subst h
          cases rl
          have e0 : (List.replicate n.toNat ([] : List D)).flatten = [] := by simp
          rw [e0] at k
          exact k s _ (Le.refl _) wd (.tup hF .nil)
        · subst h
          have e1 : (List.replicate (1 : Int).toNat xs).flatten = xs := by simp
          rw [e1] at k
          exact k s _ (Le.refl _) wd (.tup hF rl)
    · cases e
  · cases e
@[simp] theorem mulTF_tup (xs : List D) (n : Int) : mulTF (.val (.tup xs)) (.val (.int n)) = if 0 ≤ n ∧ n ≤ 1000 ∧ xs.length ≤ 1000 then some (.val (.tup (List.replicate n.toNat xs).flatten)) else none := rfl
end M3


/-! frames whose cells are captured: their calls -/
namespace M3
open PySem PySem.Spec PyProof.Rows L2

def G3.at (G : G3) (b : Heap) : G3 := { G with base := b, own := fun _ => none }
def G3.owning (G : G3) (w : Nat → Option Addr) : G3 := { G with own := w }
/-- what is known of cells over the one base is known over the other -/
def KnowsTo (b b' : Heap) : Prop := ∀ a v, b.IsCell a v → b'.IsCell a v
theorem KnowsTo.refl (b : Heap) : KnowsTo b b := fun _ _ h => h

/-! ### what a call leaves of the store -/
def MO.cut (o : MO) : MO := if o.tr = true then o else .dead
def MO.nap : MO → MO
  | .slp _ => .dead
  | o => o
theorem MO.nap_tr (o : MO) : o.nap.tr = o.tr := by cases o <;> rfl
def MO.pick (o o' : MO) : MO := if o.tr = true then o'.cut else o
/-- the store behind a call: cells are as they were in front of it -/
def back : Store → Store → Store
  | o :: st, o' :: st' => o.pick o' :: back st st'
  | [], st' => st'.map MO.cut
  | _, [] => []
theorem back_length : ∀ st st' : Store, (back st st').length = st'.length
  | [], st' => by simp [back]
  | _ :: _, [] => rfl
  | _ :: st, _ :: st' => by simp [back, back_length st st']
theorem back_get : ∀ (st st' : Store) (k : Nat), (back st st')[k]? = (st'[k]?).map fun o' => match st[k]? with
    | some o => o.pick o'
    | none => o'.cut
  | [], st', k => by simp [back]
  | _ :: _, [], k => by simp [back]
  | _ :: _, _ :: _, 0 => by simp [back]
  | _ :: st, _ :: st', k + 1 => by simpa [back] using back_get st st' k
theorem cut_tr {o o' : MO} (h : o.cut = o') (t : o'.tr = true) : o = o' := by
  unfold MO.cut at h
  split at h
  · exact h
  · subst h; cases t
theorem cut_un {o o' : MO} (h : o.cut = o') (t : o'.tr = false) : o' = .dead := by
  unfold MO.cut at h
  split at h
  · rename_i q; rw [h] at q; rw [q] at t; cases t
  · exact h.symm
section
variable {G : G3} {b b' : Heap} {B : Addr → Prop} {st st' : Store} {s s' : S3}
theorem UntR.at_ {a : Addr} {o : MO} (hb : KnowsTo G.base b) (x : UntR G s a o) : UntR (G.at b) s a o.nap := by
  cases o with
  | kc d => obtain ⟨v, u, r, q, z⟩ := x; exact ⟨v, u, r, hb _ _ q, z⟩
  | slp i => exact True.intro
  | dead => exact True.intro
  | _ => exact False.elim x
/-- the state as a callee has it -/
theorem Wd.nap (hb : KnowsTo G.base b) (w : Wd G B st s) : Wd (G.at b) B (st.map MO.nap) s := by
  have get : ∀ {k : Nat} {o : MO}, (st.map MO.nap)[k]? = some o → ∃ o' : MO, st[k]? = some o' ∧ o'.nap = o := fun {k o} e => by
    rw [List.getElem?_map] at e
    exact Option.map_eq_some_iff.mp e
  refine ⟨w.sub, w.hid, w.ftb, fun k a e => by rw [List.length_map]; exact w.dom k a e, fun j k a oj ok e1 e2 q1 t1 q2 t2 => ?_, fun k o e t => ?_, fun k o e t => ?_, w.tabs⟩
  · obtain ⟨oj', q1', rfl⟩ := get q1
    obtain ⟨ok', q2', rfl⟩ := get q2
    rw [MO.nap_tr] at t1 t2
    exact w.inj j k a oj' ok' e1 e2 q1' t1 q2' t2
  · obtain ⟨o', e', rfl⟩ := get e
    rw [MO.nap_tr] at t
    obtain ⟨a, e1, b1, f1, x⟩ := w.obj k o' e' t
    have : o'.nap = o' := by cases o' <;> first | rfl | cases t
    rw [this]
    exact ⟨a, e1, b1, f1, x⟩
  · obtain ⟨o', e', rfl⟩ := get e
    rw [MO.nap_tr] at t
    obtain ⟨a, e1, x⟩ := w.unt k o' e' t
    exact ⟨a, e1, x.at_ hb⟩
/-- .. as the caller has it behind the call -/
theorem Wd.back {B0 B1 : Addr → Prop} (w : Wd G B0 st s) (l : Le B1 s s') (w' : Wd (G.at b) B st' s') : Wd G B (back st st') s' := by
  have old : ∀ {k : Nat} {o : MO}, (M3.back st st')[k]? = some o → o.tr = true → st'[k]? = some o := fun {k o} e t => by
    rw [back_get] at e
    obtain ⟨o', e1, e2⟩ := Option.map_eq_some_iff.mp e
    rw [e1]
    split at e2
    · unfold MO.pick at e2
      split at e2
      · rw [cut_tr e2 t]
      · rename_i q; subst e2; exact absurd t q
    · rw [cut_tr e2 t]
  refine ⟨w'.sub, w'.hid, w'.ftb, fun k a e => by rw [back_length]; exact w'.dom k a e, fun j k a oj ok e1 e2 q1 t1 q2 t2 => ?_, fun k o e t => w'.obj k o (old e t) t, fun k o e t => ?_, w'.tabs⟩
  · exact w'.inj j k a oj ok e1 e2 (old q1 t1) t1 (old q2 t2) t2
  · rw [back_get] at e
    obtain ⟨o', e1, e2⟩ := Option.map_eq_some_iff.mp e
    have dead : o = .dead → ∃ a, s'.io k = some a ∧ UntR G s' a o := fun z => by
      subst z
      by_cases q : o'.tr = true
      · obtain ⟨a, e3, _⟩ := w'.obj k o' e1 q
        exact ⟨a, e3, True.intro⟩
      · obtain ⟨a, e3, _⟩ := w'.unt k o' e1 (by simpa using q)
        exact ⟨a, e3, True.intro⟩
    split at e2
    · rename_i o0 e0
      unfold MO.pick at e2
      split at e2
      · exact dead (cut_un e2 t)
      · rename_i q
        subst e2
        obtain ⟨a, e3, x⟩ := w.unt k o0 e0 (by simpa using q)
        exact ⟨a, l.io _ _ e3, x.mono l.io l.fr⟩
    · exact dead (cut_un e2 t)
/-- the mirror of a def as a frame with captured cells sees it -/
def nap {α β : Type} (m : α → M β) : α → M β := fun ds st => match m ds (st.map MO.nap) with
  | .ok d st' => .ok d (M3.back st st')
  | .err c x st' => .err c x (M3.back st st')
  | .bad => .bad
theorem nap_post {α β γ : Type} {m : α → M β} {ds : α} {R R' : S3 → β → γ → Prop} {E : XK} {Q : γ → Hp → Prop} (hR : ∀ s d v, R' s d v → R s d v) (w : Wd G B st s) (h : Post G B R E s Q (nap m ds st)) : Post (G.at b) B R' E s Q (m ds (st.map MO.nap)) := by
  unfold nap at h
  cases em : m ds (st.map MO.nap) with
  | ok d st' => rw [em] at h; exact fun s' v l w' r => h s' v l (w.back l w') (hR _ _ _ r)
  | err c x st' => rw [em] at h; exact fun s' cv dd l w' r => h s' cv dd l (w.back l w') r
  | bad => rw [em] at h; exact h
theorem spM_nap (hb : KnowsTo G.base b) {n : Nat} {m : List D → M D} {vs : List V} {H : Hp} {Q : VK} {E : XK} (h : spM G n (nap m) vs H Q E) : spM (G.at b) n m vs H Q E := by
  obtain ⟨hl, B, s, st, ds, e, wd, rl, hp⟩ := h
  exact ⟨hl, B, s, _, ds, e, wd.nap hb, rl, nap_post (fun _ _ _ r => r) wd hp⟩
theorem spMW_nap (hb : KnowsTo G.base b) {n : Nat} {m : List M3.W → M D} {vs : List V} {H : Hp} {Q : VK} {E : XK} (h : spMW G n (nap m) vs H Q E) : spMW (G.at b) n m vs H Q E := by
  obtain ⟨hl, B, s, st, ws, e, wd, rl, ha, hp⟩ := h
  refine ⟨hl, B, s, _, ws, e, wd.nap hb, ?_, ha, nap_post (fun _ _ _ r => r) wd hp⟩
  clear hl ha hp
  induction rl with
  | nil => exact .nil
  | cons r _ ih => exact .cons (by cases ‹W› <;> exact r) ih
theorem spML_nap (hb : KnowsTo G.base b) {n : Nat} {m : List D → M (List D)} {vs : List V} {H : Hp} {Q : VK} {E : XK} (h : spML G n (nap m) vs H Q E) : spML (G.at b) n m vs H Q E := by
  obtain ⟨hl, B, s, st, ds, e, wd, rl, hp⟩ := h
  refine ⟨hl, B, s, _, ds, e, wd.nap hb, rl, ?_⟩
  unfold nap at hp
  cases em : m ds (st.map MO.nap) with
  | ok d st' => rw [em] at hp; exact fun s' p vs l w nb hq r => hp s' p vs l (wd.back l w) nb hq r
  | err c x st' => rw [em] at hp; exact fun s' cv dd l w' r => hp s' cv dd l (wd.back l w') r
  | bad => rw [em] at hp; exact hp
end
section
variable {Pg : Program} {w : World} {K : PySem.W.Frag} {mg : Str → Option Value} {base b : Heap} {G : G3} {k n : Nat} {x : Str} {c cn : String} {m : List D → M D}
theorem Cal.nap (h : Cal Pg w K mg base (G.at b) k x n m) (hb : KnowsTo G.base b) : Cal Pg w K mg base G k x n (nap m) := by
  obtain ⟨f, fd, ps, a1, a2, a3, a4, F⟩ := h.ex
  exact ⟨f, fd, ps, a1, a2, a3, a4, F.imp fun _ _ _ _ h => spM_nap hb h⟩
end
end M3


/-! functions as values: lambdas, their making, their calls -/
namespace M3
open PySem PySem.Spec PyProof.Rows L2 LamX NdefX

/-! ### a call at another base -/
/-- the base tells of all that is neither tracked nor a frame -/
structure Rebased (X : Cx) (z : L2.St) (b : Heap) : Prop where
  le : ∀ a o, X.base.get? a = some o → b.get? a = some o
  cells : ∀ (i : Nat) (y : Str) (a : Addr) (v : V), X.fn y = true → X.N[i]? = some y → (X.env.scope.names.lookup y = some .cell ∨ X.env.scope.names.lookup y = some .free) → X.env.cells.lookup y = some a → z[i]? = some (some v) → ∃ u, L2.RelV v u ∧ b.IsCell a (some u)
theorem funF_base {h b b' : Heap} : ∀ {l : List Env}, h.FunFrames b l → (∀ a ∈ frs l, b'.get? a = none) → h.FunFrames b' l
  | [], _, _ => trivial
  | env :: l, ⟨hk, ⟨L, o, hf, hn, ho, hd⟩, hr⟩, q => by
    have hm : L ∈ frs (env :: l) := List.mem_filterMap.mpr ⟨env, List.mem_cons_self, hf⟩
    refine ⟨hk, ⟨L, o, hf, q L hm, ho, hd⟩, funF_base hr fun a ha => q a ?_⟩
    obtain ⟨e, he, ef⟩ := List.mem_filterMap.mp ha
    exact List.mem_filterMap.mpr ⟨e, List.mem_cons_of_mem _ he, ef⟩
theorem rebase {X : Cx} {pins : List (Addr × Obj)} {z : L2.St} {H : Hp} {s : Shared} (I : Inv X pins z H s) : ∃ b, Rebased X z b ∧ Env0 X.prog X.w X.K X.mg b X.A X.stack s H := by
  have e0 := I.env0
  have keep : ∀ {a o}, s.heap.get? a = some o → H a = none → a ∉ frs X.stack → (PySem.W.hideAll s.heap (trk s.heap H ++ frs X.stack)).get? a = some o := fun {a o} e n nf =>
    PySem.W.hideAll_get _ e fun hm => by
      rcases List.mem_append.mp hm with q | q
      · have q : (H a).isSome = true := (List.mem_filter.mp q).2
        rw [n] at q; simp at q
      · exact nf q
  have nofr : ∀ {a o}, X.base.get? a = some o → a ∉ frs X.stack := fun {a o} e hm => by
    have := (e0.funs.mem hm).1
    rw [e] at this; cases this
  have le : ∀ a o, X.base.get? a = some o → (PySem.W.hideAll s.heap (trk s.heap H ++ frs X.stack)).get? a = some o := fun a o e => by
    obtain ⟨q1, q2⟩ := e0.bs a o e
    exact keep q1 q2 (nofr e)
  have sub : ∀ {a o}, (PySem.W.hideAll s.heap (trk s.heap H ++ frs X.stack)).get? a = some o → s.heap.get? a = some o ∧ H a = none := fun {a o} e => by
    have e' := PySem.W.of_hideAll _ e
    refine ⟨e', ?_⟩
    cases q : H a with
    | none => rfl
    | some x =>
      have hm : a ∈ trk s.heap H ++ frs X.stack := List.mem_append_left _ (List.mem_filter.mpr ⟨List.mem_range.mpr (Heap.lt_size e'), by simp [q]⟩)
      have z : (PySem.W.hideAll s.heap (trk s.heap H ++ frs X.stack)).get? a = none := PySem.W.hideAll_none _ hm
      rw [z] at e; cases e
  refine ⟨PySem.W.hideAll s.heap (trk s.heap H ++ frs X.stack), ⟨le, fun i y a v hf hN hk hc hz => ?_⟩, ⟨e0.frames, ?_, fun b o e => sub e, Nat.le_of_eq (PySem.W.hideAll_size _ _), funF_base e0.funs fun a ha => PySem.W.hideAll_none _ (List.mem_append_right _ ha), e0.frf, e0.hok, e0.bare⟩⟩
  · obtain ⟨m, hns, hl⟩ := I.loc
    obtain ⟨u, r, q⟩ := hl i y v hN hz (hk.elim (fun z => .inr (.inl z)) fun z => .inr (.inr z))
    refine ⟨u, r, ?_⟩
    rcases q with ⟨q, _⟩ | ⟨_, c, ec, hcell⟩
    · have q : X.env.scope.names.lookup y = some .local := q
      rcases hk with k | k <;> rw [k] at q <;> cases q
    · rw [hc] at ec
      cases ec
      obtain ⟨o, ho, hd⟩ := hcell
      refine ⟨o, keep ho (I.freeC y a hc) fun hm => ?_, hd⟩
      rcases List.mem_cons.mp (I.stkSub a hm) with z | z
      · exact I.cne y a hc z
      · obtain ⟨_, o', e', nf⟩ := I.ok.funs.mem z
        exact absurd (Nat.lt_of_lt_of_le (Heap.lt_size e') (I.ok.cab y a hf hc)) (Nat.lt_irrefl _)
  · obtain ⟨h1, h2, ⟨mb, h3, h4⟩, h5⟩ := e0.mod
    exact ⟨h1.keeps le, h2.keeps le, ⟨mb, h3.keeps le, h4⟩, h5.keeps le⟩

/-- the base b0, perhaps with more -/
def Over (b0 b : Heap) : Prop := ∀ a o, b0.get? a = some o → b.get? a = some o
theorem Over.refl (b : Heap) : Over b b := fun _ _ e => e
theorem Over.trans {b0 b1 b2 : Heap} (h : Over b0 b1) (g : Over b1 b2) : Over b0 b2 := fun a o e => g a o (h a o e)
section
variable {X : Cx} {CX : CXT} {k : Nat} {f : Addr} {x : Str} {p pos : Pos} {e : Expr} {es : List Expr} {t : TA} {E : L2.St → XK} {sp : Heap → Sp}
/-- f(..), the promise taken at a base that knows the frame's own cells -/
theorem pe_callB' (F : ∀ b, Over X.base b → ∃ fd ps, Binds X.K fd ps [] ∧ FnOk X.prog X.w X.K X.mg b CX k f fd ps (sp b)) (hr : Room k X.A) (hg : Gl X x) (hm : X.mg x = some (.ref f)) (hk : PySem.W.keepIn X.K (.ref f) = true) (hx : ∀ z, PassesAt CX X z (E z))
    (ha : PA X (e :: es) t) (hdb : (x == ("__debug__" : Str)) = false := by decide) (he : starEach (e :: es) X.env = (false, eval e X.env) :: starEach es X.env := by rfl) (hpl : (backTo pos (starEach es X.env)).any (·.1) = false := by rfl) :
    PE X (.Call (.Name x p) (e :: es) [] pos) (fun z H Q => t z H fun vs H1 => ∀ b, Rebased X z b → sp b vs H1 Q (E z)) := by
  refine ⟨fun pins s z H Q I h => ?_⟩
  refine wpAny_Call_Name_kw (ld_glob I hg hm ?_ hdb)
  refine PySem.W.callWith_K (h₀ := X.base) I.ok.mod.kin hk (thn (ha.run pos pins s z H _ I h) fun us s1 ⟨vs, H1, I1, r, q⟩ => ⟨I1.kIn, ?_⟩) he hpl
  obtain ⟨b, rb, e0⟩ := rebase I1
  obtain ⟨fd, ps, hb, F⟩ := F b rb.le
  have h := q b rb
  have hl : us.length = ps.length := by rw [← r.length]; exact F.len _ _ _ _ h
  have bb := hb s1 us I1.kIn (by rw [List.append_nil]; exact hl)
  rw [List.append_nil] at bb
  show wpAny _ _ (call (.ref f) us) _ _ _
  refine wpAny_call (codeAny_mono (F.run X.A X.stack s1 H1 ⟨us, []⟩ us vs Q (E z) hr e0 bb r h) fun r s' hq => ?_)
  cases r with
  | error e => exact hx z pins H1 s1 e s' I1 hq
  | ok fl =>
    cases fl with
    | ret u => exact I1.after hq
    | next => exact False.elim hq
    | brk => exact False.elim hq
    | cont => exact False.elim hq
end
/-! ### the store while a frame's cells are lent -/
def MO.lent (u : Sl3) : MO → MO
  | .slp i => match u[i]? with
    | some (some (.val d)) => .kc d
    | _ => .dead
  | o => o
theorem MO.lent_tr (u : Sl3) (o : MO) : (o.lent u).tr = o.tr := by
  cases o with
  | slp i => unfold MO.lent; dsimp only; split <;> rfl
  | _ => rfl
def OwnOk (P : P3) : Prop := ∀ i a, P.G.own i = some a → ∃ y, P.X.N[i]? = some y ∧ P.X.fn y = true ∧ (P.X.env.scope.names.lookup y = some .cell ∨ P.X.env.scope.names.lookup y = some .free) ∧ P.X.env.cells.lookup y = some a
theorem Wd.lend {P : P3} {B0 B : Addr → Prop} {st : Store} {s : S3} {u : Sl3} {z : L2.St} {b : Heap} (ho : OwnOk P) (hb : P.X.base = P.G.base) (w : Wd P.G B st s) (sl : Slo P.G P.hx B0 B s u z) (rb : Rebased P.X z b) : Wd (P.G.at b) B (st.map (MO.lent u)) s := by
  have get : ∀ {k : Nat} {o : MO}, (st.map (MO.lent u))[k]? = some o → ∃ o' : MO, st[k]? = some o' ∧ o'.lent u = o := fun {k o} e => by
    rw [List.getElem?_map] at e
    exact Option.map_eq_some_iff.mp e
  refine ⟨w.sub, w.hid, w.ftb, fun k a e => by rw [List.length_map]; exact w.dom k a e, fun j k a oj ok e1 e2 q1 t1 q2 t2 => ?_, fun k o e t => ?_, fun k o e t => ?_, w.tabs⟩
  · obtain ⟨oj', q1', rfl⟩ := get q1
    obtain ⟨ok', q2', rfl⟩ := get q2
    rw [MO.lent_tr] at t1 t2
    exact w.inj j k a oj' ok' e1 e2 q1' t1 q2' t2
  · obtain ⟨o', e', rfl⟩ := get e
    rw [MO.lent_tr] at t
    obtain ⟨a, e1, b1, f1, x⟩ := w.obj k o' e' t
    have : o'.lent u = o' := by cases o' <;> first | rfl | cases t
    rw [this]
    exact ⟨a, e1, b1, f1, x⟩
  · obtain ⟨o', e', rfl⟩ := get e
    rw [MO.lent_tr] at t
    obtain ⟨a, e1, x⟩ := w.unt k o' e' t
    refine ⟨a, e1, ?_⟩
    cases o' with
    | kc d =>
      obtain ⟨v, uu, r, ⟨o, q1, q2⟩, zz⟩ := x
      exact ⟨v, uu, r, ⟨o, rb.le a o (by rw [hb]; exact q1), q2⟩, zz⟩
    | slp i =>
      unfold MO.lent
      dsimp only
      split
      · rename_i d hd
        obtain ⟨v, ez, rv⟩ := sl.get hd
        obtain ⟨y, h1, h2, h3, h4⟩ := ho i a x
        obtain ⟨uu, r, c⟩ := rb.cells i y a v h2 h1 h3 h4 ez
        exact ⟨v, uu, r, c, rv⟩
      · exact True.intro
    | dead => exact True.intro
    | _ => cases t
/-- a call while the frame's cells are lent -/
def lend {α β : Type} (u : Sl3) (m : α → M β) : α → M β := fun ds st => match m ds (st.map (MO.lent u)) with
  | .ok d st' => .ok d (M3.back st st')
  | .err c x st' => .err c x (M3.back st st')
  | .bad => .bad
theorem lend_post {α β γ : Type} {G : G3} {b : Heap} {B B0 : Addr → Prop} {st : Store} {s : S3} {u : Sl3} {m : α → M β} {ds : α} {R R' : S3 → β → γ → Prop} {E : XK} {Q : γ → Hp → Prop} (hR : ∀ s d v, R' s d v → R s d v) (w : Wd G B0 st s) (h : Post G B R E s Q (lend u m ds st)) : Post (G.at b) B R' E s Q (m ds (st.map (MO.lent u))) := by
  unfold lend at h
  cases em : m ds (st.map (MO.lent u)) with
  | ok d st' => rw [em] at h; exact fun s' v l w' r => h s' v l (w.back l w') (hR _ _ _ r)
  | err c x st' => rw [em] at h; exact fun s' cv dd l w' r => h s' cv dd l (w.back l w') r
  | bad => rw [em] at h; exact h
/-- f(..), the frame's cells lent -/
def eCallR (n : Nat) (m : List D → M D) (ma : AM) : EM := fun u => M.bind (ma u) fun ws => M.bind (M.of (asDs ws)) fun ds => M.bind (M.chk (ds.length = n)) fun _ => M.bind (lend u m ds) fun d => M.pure (.val d)
/-- a def that may be called at any base -/
def CalB (Pg : Program) (w : World) (K : PySem.W.Frag) (mg : Str → Option Value) (base : Heap) (G : G3) (k : Nat) (x : Str) (n : Nat) (m : List D → M D) : Prop := ∀ b, Over base b → Cal Pg w K mg b (G.at b) k x n m
theorem me_callR {P : P3} {pos p : Pos} {x : Str} {e : Expr} {es : List Expr} {ma : AM} {m : List D → M D} {k j n : Nat} (ho : OwnOk P) (hb : P.X.base = P.G.base) (c : CalB P.X.prog P.X.w P.X.K P.X.mg P.X.base P.G k x n m) (hr : Room j P.X.A) (hk : k ≤ j) (tk : Takes P.X P.wx) (hg : Gl P.X x) (ha : MA P (e :: es) ma)
    (hdb : (x == ("__debug__" : Str)) = false := by decide) (he : starEach (e :: es) P.X.env = (false, eval e P.X.env) :: starEach es P.X.env := by rfl) (hpl : (backTo pos (starEach es P.X.env)).any (·.1) = false := by rfl) :
    ME P (.Call (.Name x p) (e :: es) [] pos) (eCallR n m ma) := by
  obtain ⟨f, _, _, hm, hkp, _, _, _⟩ := (c P.X.base (Over.refl _)).ex
  obtain ⟨t, pt, ht⟩ := ha.out
  refine ME.mk' (pe_callB' (k := k) (f := f) (sp := fun b => spM (P.G.at b) n m) (fun b ob => ?_) (hr.mono hk) hg hm hkp (fun σ => passAt tk σ) pt hdb he hpl) fun B0 B s st u z Q wd sl h => ht B0 B s st u z _ wd sl (Post.bind h fun ws st1 s1 vs l1 wd1 r1 h1 => ?_)
  · obtain ⟨f', fd, ps, hm', _, hbd, _, F⟩ := (c b ob).ex
    rw [hm] at hm'
    cases hm'
    exact ⟨fd, ps, hbd, F⟩
  · obtain ⟨ds, e, h1⟩ := Post.of_of h1
    obtain ⟨hl, h1⟩ := Post.of_chk h1
    have rl := asDs_ok r1 e
    intro b rb
    refine ⟨by rw [← rl.length]; exact hl, B, s1, _, ds, rfl, wd1.lend ho hb (sl.mono' l1) rb, rl, ?_⟩
    refine lend_post (R := fun s d v => RepW P.G P.hx B s (.val d) v) (fun _ _ _ r => r) wd1 ?_
    unfold M.bind at h1
    cases em : lend u m ds st1 with
    | ok d st' => rw [em] at h1; exact fun s' v l w r => h1 s' v l w r
    | err c x st' => rw [em] at h1; exact h1
    | bad => rw [em] at h1; exact h1
end M3


/-! lambdas: made, called -/
namespace M3
open PySem PySem.Spec PyProof.Rows L2 LamX NdefX

/-- a lambda's words, the cells that it captured, its code object -/
structure LF where
  qual : Str
  params : Arguments
  body : Expr
  scope : Scope
  cl : List (Str × Addr)
  c : Addr
abbrev LF.fd (F : LF) (pm ctv : Value) : FuncData := PySem.W.kla_fn "<lambda>" F.qual F.params F.body F.scope F.cl pm (.ref F.c) ctv
def LamO (f : Addr) (F : LF) : HO := .ext fun h => ∃ (od : Option Addr) (sl : Array (Option Value)) (pm ctv : Value), h.get? f = some (⟨.type "function", od, .func (F.fd pm ctv), sl⟩ : Obj)
theorem lamO_at {P : Program} {w : World} {H : Hp} {h : Heap} {f : Addr} {F : LF} (hok : HOk P w H h) (e : H f = some (LamO f F)) : ∃ (od : Option Addr) (sl : Array (Option Value)) (pm ctv : Value), h.get? f = some (⟨.type "function", od, .func (F.fd pm ctv), sl⟩ : Obj) := by
  obtain ⟨z, _, _⟩ := hok f _ e
  exact z
def LF.fv (F : LF) : FV := ⟨fun p => LamO p F, F.c, F.qual, F.cl⟩
section
variable {X : Cx} {pins : List (Addr × Obj)} {σ : L2.St} {H : Hp} {s : Shared}
theorem inv_lam {F : LF} {o : Obj} {t' : Nat} {pm ctv : Value} (I : Inv X pins σ H s) (ho : o = { cls := .type "function", data := .func (F.fd pm ctv) }) :
    Inv X pins σ (upd H s.heap.objs.size (LamO s.heap.objs.size F)) { s with heap := s.heap.push o, toks := t' } := by
  subst ho
  refine I.laid (a := s.heap.objs.size) (fun b u e => Heap.get?_push_of_some _ e) (Nat.le_refl _) ?_
  have e : (s.heap.push ({ cls := .type "function", data := .func (F.fd pm ctv) } : Obj)).get? s.heap.objs.size = some ({ cls := .type "function", data := .func (F.fd pm ctv) } : Obj) := Heap.get?_push_size _ rfl
  exact ⟨⟨_, _, pm, ctv, e⟩, ⟨_, e⟩, fun h1 h2 ⟨od, sl, p, t, z⟩ st => ⟨od, sl, p, t, st _ z⟩⟩
/-- the lambda is made: its code object is new, or found in the table -/
theorem lam_makeN {T : List NTab} {nm : Nat → Nat → Str} {c P : Addr} {params : Arguments} {body : Expr} {scope : Scope} {pos : Pos} {E : Value → Shared → Prop} {Q : Value → Shared → Prop} (I : Inv X pins σ H s) (TB : TabB X.base X.mg c P) (hcode : X.env.code = .ref c)
    (hm : (P, nm) ∈ T) (hn : nm pos.line pos.col = X.env.qual ++ "<lambda>") (hu : ∀ p ∈ T, p.1 = P → p.2 = nm) (hT : TabsN T H) (hdef : defaultsOf params X.env = ([], [])) (hfree : ∀ y ∈ scope.names, y.2 = .free → ∃ c, X.env.cells.lookup y.1 = some c)
    (h : ∀ (f c' : Addr) (H1 : Hp) (s' : Shared), Inv X pins σ H1 s' → ExtN H H1 → (∀ b, H1 b = Option.none → H b = Option.none) → TabsN T H1 → H f = none → H1 f = some (LamO f ⟨X.env.qual ++ "<lambda>", params, body, scope, cloFrom X.env.cells scope.names [], c'⟩) → H1 c' = some (CodeO c' (X.env.qual ++ "<lambda>")) → f ≠ c' → Q (.ref f) s') :
    wpAny (model X.prog X.w) X.A (eval (.Lambda params body scope pos) X.env) Q E s := by
  obtain ⟨ps, hP, ht, ha⟩ := (show TabN H P nm from hT _ hm)
  refine PySem.W.kla_eval hdef ?_
  have bP : s.heap.BuiltinsAt X.mg P := TB.bm.keeps I.bk
  have hP' : s.heap.get? P = some { cls := .none, data := .fields ps } := I.hok P _ hP
  cases hc : codeAmong pos ps.toList with
  | none =>
    refine PySem.W.kla_makeFunction (mg := X.mg) (c := c) (P := P) (ps := ps) (closure_ok hfree) I.ok.glob (I.mod.glob.keeps I.bk) hcode (TB.code.keeps I.bk) hP' ht hc TB.gP bP fun c' ctv h' tk hx hge hlt hrec htb => ?_
    obtain ⟨c2, oc, vs, t, e2, hoc, hd, hv⟩ := hrec
    cases e2
    have nC : H c' = none := I.hok.fresh hge
    have I1 := inv_table (t' := tk) (more := #[rawInt pos.line, rawInt pos.col, .ref c']) (h' := h') I hP (fun b o hb e => hx b o hb e) htb hge ⟨oc, vs, t, hoc, hd, hv⟩
    have hE : ExtN H (upd (upd H P (.tbl (ps ++ #[rawInt pos.line, rawInt pos.col, .ref c']))) c' (CodeO c' (X.env.qual ++ "<lambda>"))) := fun b o e n => by
      rw [upd_ne (ne_of_none e nC), upd_ne (fun z => n ps (Option.some.inj (e.symm.trans (by rw [z]; exact hP))))]
      exact e
    have eL : (ps ++ #[rawInt pos.line, rawInt pos.col, .ref c']).toList = ps.toList ++ [rawInt pos.line, rawInt pos.col, .ref c'] := by simp
    have T1 : TabsN T (upd (upd H P (.tbl (ps ++ #[rawInt pos.line, rawInt pos.col, .ref c']))) c' (CodeO c' (X.env.qual ++ "<lambda>"))) := fun p hp => by
      by_cases hb : p.1 = P
      · rw [hu p hp hb, hb]
        refine ⟨_, by rw [upd_ne (ne_of_none hP nC), upd_same], by rw [eL]; exact PySem.TriplesOk_snoc _ _ _ _ ht, fun p' cv hcv => ?_⟩
        rw [eL] at hcv
        rcases among_app2 _ ht hcv with z | ⟨z, z1, z2⟩
        · obtain ⟨c0, e1, e2⟩ := ha p' cv z
          exact ⟨c0, e1, hE _ _ e2 codeO_ne⟩
        · refine ⟨c', z, ?_⟩
          rw [← z1, ← z2, hn]
          exact upd_same
      · obtain ⟨ps', a1, a2, a3⟩ := hT p hp
        refine ⟨ps', by rw [upd_ne (ne_of_none a1 nC), upd_ne hb]; exact a1, a2, fun p' cv hcv => ?_⟩
        obtain ⟨c0, e1, e2⟩ := a3 p' cv hcv
        exact ⟨c0, e1, hE _ _ e2 codeO_ne⟩
    have nF := I1.hok.fresh (Nat.le_refl _)
    have I2 := inv_lam (F := ⟨X.env.qual ++ "<lambda>", params, body, scope, cloFrom X.env.cells scope.names [], c'⟩) (t' := tk) (pm := (X.mg "__name__").getD .none) (ctv := ctv) I1 rfl
    refine h h'.objs.size c' _ _ I2 (fun b o e n => ?_) (fun b e => upd_none (upd_none (upd_none e))) (T1.ext fun b o e => ?_) (I.hok.fresh (Nat.le_trans hge (Nat.le_of_lt hlt))) upd_same ?_ (Nat.ne_of_gt hlt)
    · have e1 := hE b o e n
      exact (upd_ne (ne_of_none e1 nF)).trans e1
    · exact (upd_ne (ne_of_none e nF)).trans e
    · exact (upd_ne (Nat.ne_of_lt hlt)).trans upd_same
  | some cv =>
    obtain ⟨c', e, hco⟩ := ha pos cv hc
    subst e
    rw [hn] at hco
    refine PySem.W.kla_makeFunctionHit (mg := X.mg) (c := c) (P := P) (ps := ps) (closure_ok hfree) I.ok.glob (I.mod.glob.keeps I.bk) hcode (TB.code.keeps I.bk) hP' ht hc bP fun ctv h' tk hx hsz => ?_
    have I1 : Inv X pins σ H { s with heap := h', toks := tk } := I.kept hx
    have nF : H h'.objs.size = none := I1.hok.fresh (Nat.le_refl _)
    have I2 := inv_lam (F := ⟨X.env.qual ++ "<lambda>", params, body, scope, cloFrom X.env.cells scope.names [], c'⟩) (t' := tk) (pm := (X.mg "__name__").getD .none) (ctv := ctv) I1 rfl
    refine h h'.objs.size c' _ _ I2 (fun b o e n => ?_) (fun b e => upd_none e) (hT.ext fun b o e => ?_) nF upd_same ?_ (fun z => by rw [z, hco] at nF; cases nF)
    · exact (upd_ne (ne_of_none e nF)).trans e
    · exact (upd_ne (ne_of_none e nF)).trans e
    · exact (upd_ne (ne_of_none hco nF)).trans hco
end
/-- the making's reading -/
def tLam3 (T : List NTab) (mk : Addr → LF) (lk : Str → Option Addr) : TE := fun σ H Q => TabsN T H ∧ ∀ (f c' : Addr) (H1 : Hp), ExtN H H1 → (∀ b, H1 b = Option.none → H b = Option.none) → TabsN T H1 → H f = none → H1 f = some (LamO f (mk c')) → H1 c' = some (CodeO c' (mk c').qual) → f ≠ c' → ((mk c').cl.map (·.2)).Nodup → (∀ p ∈ (mk c').cl, lk p.1 = some p.2) → Q (.ref f) H1
theorem nodup_of {α β : Type} : ∀ {l : List (α × β)}, (l.map (·.1)).Nodup → (∀ x ∈ l, ∀ y ∈ l, x.2 = y.2 → x.1 = y.1) → (l.map (·.2)).Nodup
  | [], _, _ => List.nodup_nil
  | p :: l, h, q => by
    rw [List.map_cons, List.nodup_cons] at h ⊢
    refine ⟨fun hm => ?_, nodup_of h.2 fun x hx y hy => q x (List.mem_cons_of_mem _ hx) y (List.mem_cons_of_mem _ hy)⟩
    obtain ⟨r, hr, e⟩ := List.mem_map.mp hm
    exact h.1 (List.mem_map.mpr ⟨r, hr, q r (List.mem_cons_of_mem _ hr) p List.mem_cons_self e⟩)
theorem clo_at {cells : List (Str × Addr)} {names : List (Str × NameKind)} (hfree : ∀ y ∈ names, y.2 = .free → ∃ c, cells.lookup y.1 = some c) {n : Str} {c : Addr} (h : (n, c) ∈ cloFrom cells names []) : cells.lookup n = some c := by
  rcases cloFrom_mem h with h | ⟨h1, h2⟩
  · cases h
  · obtain ⟨c', e⟩ := hfree _ h1 rfl
    have e : cells.lookup n = some c' := e
    rw [e] at h2
    rw [e, h2]; rfl
theorem clo_nodup {X : Cx} {names : List (Str × NameKind)} (ok : X.Ok) (hfree : ∀ y ∈ names, y.2 = .free → ∃ c, X.env.cells.lookup y.1 = some c) (hnd : ((cloFrom X.env.cells names []).map (·.1)).Nodup) : ((cloFrom X.env.cells names []).map (·.2)).Nodup :=
  nodup_of hnd fun x hx y hy e => ok.inj x.1 y.1 x.2 (clo_at hfree hx) (by rw [e]; exact clo_at hfree hy)
theorem pe_lam3 {X : Cx} {T : List NTab} {nm : Nat → Nat → Str} {c P : Addr} {params : Arguments} {body : Expr} {scope : Scope} {pos : Pos} (TB : TabB X.base X.mg c P) (hcode : X.env.code = .ref c) (hm : (P, nm) ∈ T) (hn : nm pos.line pos.col = X.env.qual ++ "<lambda>") (hu : ∀ p ∈ T, p.1 = P → p.2 = nm)
    (hdef : defaultsOf params X.env = ([], [])) (hfree : ∀ y ∈ scope.names, y.2 = .free → X.env.scope.names.lookup y.1 = some .cell ∨ X.env.scope.names.lookup y.1 = some .free) (hnd : ((cloFrom X.env.cells scope.names []).map (·.1)).Nodup) :
    PE X (.Lambda params body scope pos) (tLam3 T (fun c' => ⟨X.env.qual ++ "<lambda>", params, body, scope, cloFrom X.env.cells scope.names [], c'⟩) fun y => X.env.cells.lookup y) := by
  refine ⟨fun pins s σ H Q I ⟨hT, h⟩ => ?_⟩
  exact lam_makeN I TB hcode hm hn hu hT hdef (fun y hy e => (hfree y hy e).elim (fun z => I.ok.has _ (.inl z)) fun z => I.ok.has _ (.inr z)) fun f c' H1 s' I1 e n T1 f0 f1 c1 ne => ⟨.ref f, H1, I1, rfl, h f c' H1 e n T1 f0 f1 c1 ne (clo_nodup I.ok (fun y hy e => (hfree y hy e).elim (fun z => I.ok.has _ (.inl z)) fun z => I.ok.has _ (.inr z)) hnd) fun p hp => clo_at (fun y hy e => (hfree y hy e).elim (fun z => I.ok.has _ (.inl z)) fun z => I.ok.has _ (.inr z)) hp⟩

/-! ### a lambda of a frame, as data -/
def ownOf (N : List Str) (sc : Scope) (cells : List (Str × Addr)) : Nat → Option Addr := fun i => match N[i]? with
  | some y => if sc.names.lookup y = some .cell ∨ sc.names.lookup y = some .free then cells.lookup y else none
  | none => none
structure Owner (P : P3) : Prop where
  own : P.G.own = ownOf P.X.N P.X.env.scope P.X.env.cells
  fn : ∀ y, P.X.fn y = true
  base : P.X.base = P.G.base
theorem Owner.ok {P : P3} (o : Owner P) : OwnOk P := fun i a e => by
  rw [o.own] at e
  unfold ownOf at e
  split at e
  · rename_i y hy
    split at e
    · rename_i hk
      exact ⟨y, hy, o.fn y, hk, e⟩
    · cases e
  · cases e
def ioApp (io : Io) (n : Nat) (as : List Addr) : Io := fun k => if k < n then io k else as[k - n]?
/-- a function of the code c over the slots js -/
def eLam (c : String) (js : List Nat) : EM := fun _ st => .ok (.val (.fn c (List.range' st.length js.length))) (st ++ js.map .slp)
theorem ioApp_new {io : Io} {n : Nat} {as : List Addr} : (List.range' n as.length).map (ioApp io n as) = as.map some := by
  apply List.ext_getElem?
  intro i
  rw [List.getElem?_map, List.getElem?_map]
  by_cases hi : i < as.length
  · rw [List.getElem?_range' (by simpa using hi)]
    simp only [Option.map_some]
    unfold ioApp
    rw [if_neg (by omega), show n + 1 * i - n = i by omega, List.getElem?_eq_getElem hi]
    rfl
  · rw [List.getElem?_eq_none (by simpa using hi), List.getElem?_eq_none (by omega)]
    rfl
open Classical in
theorem Wd.lam {G : G3} {B : Addr → Prop} {st : Store} {s : S3} {H1 : Hp} {f : Addr} {js : List Nat} {as : List Addr} (w : Wd G B st s) (eN : ExtN s.H H1) (T1 : TabsN G.tabs H1) (f0 : s.H f = none) {o : HO} (f1 : H1 f = some o) (nt : NoTbl o)
    (hjs : ∀ i j : Nat, js[i]? = some j → ∃ a, as[i]? = some a ∧ G.own j = some a) (hl : as.length = js.length) :
    ∃ F1, Wd G B (st ++ js.map .slp) ⟨ioApp s.io st.length as, F1, H1⟩ ∧ Le B s ⟨ioApp s.io st.length as, F1, H1⟩ ∧ F1 f = some o ∧ ∀ c q, H1 c = some (CodeO c q) → F1 c = some (CodeO c q) := by
  refine ⟨fun a => if a = f ∨ ∃ q, H1 a = some (CodeO a q) then H1 a else s.F a, ?_, ?_, if_pos (.inl rfl) |>.trans f1, fun c q e => (if_pos (.inr ⟨q, e⟩)).trans e⟩
  · have keepF : Same s.F (fun a => if a = f ∨ ∃ q, H1 a = some (CodeO a q) then H1 a else s.F a) := fun b o e => by
      show (if b = f ∨ ∃ q, H1 b = some (CodeO b q) then H1 b else s.F b) = some o
      split
      · exact eN b o (w.sub b o e) (w.ftb b o e)
      · exact e
    have hio : IoLe s.io (ioApp s.io st.length as) := fun k a e => by unfold ioApp; rw [if_pos (w.dom k a e)]; exact e
    have away : ∀ a u, s.H a = some u → (∀ q, u ≠ CodeO a q) → NoTbl u → ¬ (a = f ∨ ∃ q, H1 a = some (CodeO a q)) := fun a u e n t z => by
      rcases z with z | ⟨q, z⟩
      · rw [z, f0] at e; cases e
      · rw [eN a u e t] at z; cases z; exact n q rfl
    refine ⟨fun b o e => ?_, fun a b => ?_, fun a o e => ?_, fun k a e => ?_, fun j k a oj ok e1 e2 q1 t1 q2 t2 => ?_, fun k o e t => ?_, fun k o e t => ?_, fun p hp => ?_⟩
    · have e : (if b = f ∨ ∃ q, H1 b = some (CodeO b q) then H1 b else s.F b) = some o := e
      split at e
      · exact e
      · exact eN b o (w.sub b o e) (w.ftb b o e)
    · obtain ⟨h1, o, h2, h3⟩ := w.hid a b
      refine ⟨?_, o, eN a o h2 h3.tbl, h3⟩
      show (if a = f ∨ ∃ q, H1 a = some (CodeO a q) then H1 a else s.F a) = none
      rw [if_neg (away a o h2 (fun q => h3.code a q) h3.tbl)]
      exact h1
    · have e : (if a = f ∨ ∃ q, H1 a = some (CodeO a q) then H1 a else s.F a) = some o := e
      split at e
      · rename_i z
        rcases z with z | ⟨q, z⟩
        · rw [z, f1] at e; cases e; exact nt
        · rw [z] at e; cases e; exact fun ps => codeO_ne ps
      · exact w.ftb a o e
    · have e : (if k < st.length then s.io k else as[k - st.length]?) = some a := e
      rw [List.length_append, List.length_map]
      split at e
      · omega
      · have := (List.getElem?_eq_some_iff.mp e).1
        omega
    · have old : ∀ {j : Nat} {o : MO}, (st ++ js.map .slp)[j]? = some o → o.tr = true → j < st.length ∧ st[j]? = some o := fun {j o} e t => by
        by_cases q : j < st.length
        · rw [List.getElem?_append_left q] at e
          exact ⟨q, e⟩
        · rw [List.getElem?_append_right (by omega), List.getElem?_map] at e
          obtain ⟨i, _, rfl⟩ := Option.map_eq_some_iff.mp e
          cases t
      obtain ⟨l1, p1⟩ := old q1 t1
      obtain ⟨l2, p2⟩ := old q2 t2
      have e1 : (if j < st.length then s.io j else as[j - st.length]?) = some a := e1
      have e2 : (if k < st.length then s.io k else as[k - st.length]?) = some a := e2
      rw [if_pos l1] at e1
      rw [if_pos l2] at e2
      exact w.inj j k a oj ok e1 e2 p1 t1 p2 t2
    · by_cases q : k < st.length
      · rw [List.getElem?_append_left q] at e
        obtain ⟨a, e1, b1, f2, o1⟩ := w.obj k o e t
        obtain ⟨u, hu⟩ := o1.there
        have nt' : NoTbl u := fun ps z => o1.ntbl ps (by rw [hu, z])
        have nc : ∀ q, u ≠ CodeO a q := fun q z => by
          subst z
          cases o with
          | lst xs => obtain ⟨vs, y, _⟩ := o1; rw [hu] at y; unfold CodeO at y; cases y
          | dic ks us => obtain ⟨vs, y, _⟩ := o1; rw [hu] at y; unfold CodeO at y; cases y
          | ddi ks us => obtain ⟨xs, y, _⟩ := o1; rw [hu] at y; exact dkO_code (Option.some.inj y).symm
          | ins c fs => obtain ⟨_, _, _, _, y, _⟩ := o1; rw [hu] at y; unfold CodeO at y; cases y
          | cell d => obtain ⟨v, y, _⟩ := o1; rw [hu] at y; exact cellO_code (Option.some.inj y).symm
          | _ => exact False.elim o1
        refine ⟨a, hio k a e1, b1, ?_, ObjR.mono (s := s) (s' := ⟨ioApp s.io st.length as, _, H1⟩) hio keepF ((eN a u hu nt').trans hu.symm) o1⟩
        show (if a = f ∨ ∃ q, H1 a = some (CodeO a q) then H1 a else s.F a) = none
        rw [if_neg (away a u hu nc nt')]
        exact f2
      · rw [List.getElem?_append_right (by omega), List.getElem?_map] at e
        obtain ⟨i, _, rfl⟩ := Option.map_eq_some_iff.mp e
        cases t
    · by_cases q : k < st.length
      · rw [List.getElem?_append_left q] at e
        exact w.untM (s' := ⟨ioApp s.io st.length as, _, H1⟩) hio keepF k o e t
      · rw [List.getElem?_append_right (by omega), List.getElem?_map] at e
        obtain ⟨j, ej, rfl⟩ := Option.map_eq_some_iff.mp e
        obtain ⟨a, ea, ow⟩ := hjs _ j ej
        refine ⟨a, ?_, ow⟩
        show (if k < st.length then s.io k else as[k - st.length]?) = some a
        rw [if_neg q]
        exact ea
    · obtain ⟨ps, e, t, r⟩ := T1 p hp
      refine ⟨ps, e, t, fun pos cv q => ?_⟩
      obtain ⟨c, e1, e2⟩ := r pos cv q
      exact ⟨c, e1, (if_pos (.inr ⟨_, e2⟩)).trans e2⟩
  · refine ⟨fun k a e => by show ioApp s.io st.length as k = some a; unfold ioApp; rw [if_pos (w.dom k a e)]; exact e, fun b o e => ?_, fun a b => ?_⟩
    · show (if b = f ∨ ∃ q, H1 b = some (CodeO b q) then H1 b else s.F b) = some o
      split
      · exact eN b o (w.sub b o e) (w.ftb b o e)
      · exact e
    · obtain ⟨h1, o, h2, h3⟩ := w.hid a b
      exact (eN a o h2 h3.tbl).trans h2.symm
theorem Wd.tabsN {G : G3} {B : Addr → Prop} {st : Store} {s : S3} (w : Wd G B st s) : TabsN G.tabs s.H := fun p hp => by
  obtain ⟨ps, e, t, r⟩ := w.tabs p hp
  exact ⟨ps, e, t, fun pos cv q => let ⟨c, e1, e2⟩ := r pos cv q; ⟨c, e1, w.sub _ _ e2⟩⟩
theorem me_lam {P : P3} {cd : String} {nm : Nat → Nat → Str} {c T : Addr} {params : Arguments} {body : Expr} {scope : Scope} {pos : Pos} {fr : List Str} {js : List Nat} (ow : Owner P) (TB : TabB P.X.base P.X.mg c T) (hcode : P.X.env.code = .ref c) (hm : (T, nm) ∈ P.G.tabs) (hu : ∀ p ∈ P.G.tabs, p.1 = T → p.2 = nm)
    (hn : nm pos.line pos.col = P.X.env.qual ++ "<lambda>") (hnf : ∀ (c' : Addr) (cl : List (Str × Addr)), cl.map (·.1) = fr → P.G.nf cd (LF.fv ⟨P.X.env.qual ++ "<lambda>", params, body, scope, cl, c'⟩))
    (hdef : defaultsOf params P.X.env = ([], []) := by rfl) (hfree : ∀ y ∈ scope.names, y.2 = .free → P.X.env.scope.names.lookup y.1 = some .cell ∨ P.X.env.scope.names.lookup y.1 = some .free)
    (hfr : (cloFrom P.X.env.cells scope.names []).map (·.1) = fr := by rfl) (hnd : fr.Nodup := by decide) (hjs : js.map (fun j => P.X.N[j]?) = fr.map some := by rfl) : ME P (.Lambda params body scope pos) (eLam cd js) := by
  refine ME.mk' (pe_lam3 TB hcode hm hn hu hdef hfree (by rw [hfr]; exact hnd)) fun B0 B s st u z Q wd sl h => ⟨wd.tabsN, fun f c' H1 eN _ T1 f0 f1 c1 ne hN2 hlk => ?_⟩
  have hl : (cloFrom P.X.env.cells scope.names []).length = js.length := by
    have q := congrArg List.length hfr
    have q2 := congrArg List.length hjs
    simp only [List.length_map] at q q2
    omega
  have hq : ∀ i j : Nat, js[i]? = some j → ∃ a, ((cloFrom P.X.env.cells scope.names []).map (·.2))[i]? = some a ∧ P.G.own j = some a := fun i j ej => by
    have hj : (js.map (fun j => P.X.N[j]?))[i]? = some (P.X.N[j]?) := by rw [List.getElem?_map, ej]; rfl
    rw [hjs, List.getElem?_map] at hj
    obtain ⟨y, ey, eN'⟩ := Option.map_eq_some_iff.mp hj
    rw [← hfr, List.getElem?_map] at ey
    obtain ⟨⟨y', a⟩, ey2, rfl⟩ := Option.map_eq_some_iff.mp ey
    refine ⟨a, by rw [List.getElem?_map, ey2]; rfl, ?_⟩
    have hmem : (y', a) ∈ cloFrom P.X.env.cells scope.names [] := List.mem_of_getElem? ey2
    have hmf : (y', NameKind.free) ∈ scope.names := by
      rcases cloFrom_mem hmem with z | ⟨z, _⟩
      · cases z
      · exact z
    rw [ow.own]
    unfold ownOf
    rw [← eN']
    dsimp only
    rw [if_pos (hfree _ hmf rfl)]
    exact hlk _ hmem
  obtain ⟨F1, w1, l1, e1, e2⟩ := wd.lam (js := js) (as := (cloFrom P.X.env.cells scope.names []).map (·.2)) eN T1 f0 f1 (by intro ps q; cases q) hq (by rw [List.length_map]; exact hl)
  refine h ⟨_, F1, H1⟩ (.ref f) l1 w1 ?_
  refine Rep.fn (Fn := LF.fv ⟨P.X.env.qual ++ "<lambda>", params, body, scope, cloFrom P.X.env.cells scope.names [], c'⟩) e1 (hnf c' _ hfr) (e2 c' _ c1) ?_ hN2
  have q := ioApp_new (io := s.io) (n := st.length) (as := (cloFrom P.X.env.cells scope.names []).map (·.2))
  rw [List.length_map, hl, List.map_map] at q
  exact q
end M3


/-! functions as values: their promises, their calls -/
namespace M3
open PySem PySem.Spec PyProof.Rows L2 LamX NdefX

/-- what the captured cells hold -/
def CapsAt (cl : List (Str × Addr)) (ws : List V) (h : Heap) (H : Hp) : Prop := ws.length = cl.length ∧ ∀ (i : Nat) (p : Str × Addr) (v : V), cl[i]? = some p → ws[i]? = some v → H p.2 = none ∧ ∃ u, L2.RelV v u ∧ h.IsCell p.2 (some u)
/-- the promise of a function value -/
structure VOk (P : Program) (w : World) (K : PySem.W.Frag) (mg : Str → Option Value) (base : Heap) (CX : CXT) (k : Nat) (F : FV) (sp : Sp) : Prop where
  fn : ∀ (H : Hp) (h : Heap) (f : Addr), HOk P w H h → H f = some (F.ob f) → PySem.W.FnAt f h
  run : ∀ (A : Around) (outer : List Env) (s : Shared) (H : Hp) (f : Addr) (us : List Value) (vs : List V) (Q : VK) (E : XK), Room k A → Env0 P w K mg base A outer s H → H f = some (F.ob f) → H F.c = some (CodeO F.c F.qual) →
    (F.cl.map (·.2)).Nodup → Vals vs us → sp vs H Q E → codeAny (model P w) A (.call (.ref f) ⟨us, []⟩) (CR CX outer P w H s Q E) s
theorem VOk.mono {P : Program} {w : World} {K : PySem.W.Frag} {mg : Str → Option Value} {base : Heap} {CX : CXT} {j k : Nat} {F : FV} {sp : Sp} (o : VOk P w K mg base CX j F sp) (h : j ≤ k) : VOk P w K mg base CX k F sp :=
  ⟨o.fn, fun A outer s H f us vs Q E hr => o.run A outer s H f us vs Q E (hr.mono h)⟩
/-- the def that stands for a lambda's frame -/
def LF.nf (F : LF) : NF := ⟨"<lambda>", F.qual, F.params, [], F.scope, F.cl, F.c⟩
theorem look_nodup {cl : List (Str × Addr)} : ∀ {i : Nat} {p : Str × Addr}, (cl.map (·.1)).Nodup → cl[i]? = some p → cl.lookup p.1 = some p.2 := by
  induction cl with
  | nil => intro i p _ e; simp at e
  | cons q cl ih =>
    intro i p nd e
    rw [List.map_cons, List.nodup_cons] at nd
    rw [List.lookup_cons]
    cases i with
    | zero => simp at e; subst e; simp
    | succ i =>
      have e : cl[i]? = some p := by simpa using e
      have ne : (p.1 == q.1) = false := by
        rw [beq_eq_false_iff_ne]
        intro z
        exact nd.1 (z ▸ List.mem_map.mpr ⟨p, List.mem_of_getElem? e, rfl⟩)
      rw [ne]
      exact ih nd.2 e
theorem caps_cells {cl : List (Str × Addr)} {fr : List Str} {ws : List V} {h : Heap} {H : Hp} (hfr : cl.map (·.1) = fr) (nd : fr.Nodup) (nd2 : (cl.map (·.2)).Nodup) (c : CapsAt cl ws h H) : CellsAt cl fr (ws.map some) h H := by
  subst hfr
  have mem : ∀ {y : Str} {c : Addr}, cl.lookup y = some c → ∃ i, cl[i]? = some (y, c) := fun {y c} e => List.mem_iff_getElem?.mp (PySem.mem_of_lookup e)
  refine ⟨by rw [List.length_map, List.length_map]; exact c.1, fun y a e => ?_, fun x y a e1 e2 => ?_, fun i y e => ?_⟩
  · obtain ⟨i, hi⟩ := mem e
    obtain ⟨v, hv⟩ : ∃ v, ws[i]? = some v := ⟨ws[i]'(by rw [c.1]; exact (List.getElem?_eq_some_iff.mp hi).1), List.getElem?_eq_getElem _⟩
    obtain ⟨h1, u, _, h2⟩ := c.2 i _ v hi hv
    exact ⟨h1, _, h2⟩
  · obtain ⟨i, hi⟩ := mem e1
    obtain ⟨j, hj⟩ := mem e2
    have e3 : (cl.map (·.2))[i]? = (cl.map (·.2))[j]? := by rw [List.getElem?_map, List.getElem?_map, hi, hj]; rfl
    have li : i < (cl.map (·.2)).length := by rw [List.length_map]; exact (List.getElem?_eq_some_iff.mp hi).1
    obtain rfl : i = j := (List.getElem?_inj li nd2).mp e3
    rw [hi] at hj
    exact congrArg Prod.fst (Option.some.inj hj)
  · rw [List.getElem?_map] at e
    obtain ⟨p, ep, rfl⟩ := Option.map_eq_some_iff.mp e
    refine ⟨p.2, look_nodup nd ep, fun v ev => ?_⟩
    rw [List.getElem?_map] at ev
    obtain ⟨v', ev', z⟩ := Option.map_eq_some_iff.mp ev
    cases z
    obtain ⟨_, u, r, q⟩ := c.2 i p v ep ev'
    exact ⟨u, r, q⟩
section
variable {P : Program} {w : World} {K : PySem.W.Frag} {mg : Str → Option Value} {base : Heap} {CX : CXT} {N ps fr : List Str} {k : Nat}
/-- a lambda, by its body -/
theorem lok_of {F : LF} {sp : List V → Sp} (hfr : F.cl.map (·.1) = fr) (S : NScope N ps fr F.scope) (hb : ∀ (pm ctv : Value) (us : List Value), us.length = ps.length → bindArgs (F.fd pm ctv) ⟨us, []⟩ = pure (ps.zip us)) (len : ∀ ws vs H Q E, sp ws vs H Q E → vs.length = ps.length)
    (hbody : ∀ (A : Around) (outer : List Env) (s : Shared) (H : Hp) (f : Addr) (vs ws : List V) (Q : VK) (E : XK), Room k (A.deeper (envF F.nf f s.heap.objs.size)) → ws.length = fr.length → sp ws vs H Q E →
      ∃ t, PE (ncx CX P w K mg base N F.nf f A outer s H E) F.body t ∧ t (startF N vs (ws.map some)) H Q) :
    VOk P w K mg base CX (k + 1) F.fv (fun vs H Q E => ∃ ws, sp ws vs H Q E ∧ ws.length = F.cl.length ∧ ∀ (i : Nat) (p : Str × Addr) (v : V), F.cl[i]? = some p → ws[i]? = some v → ∃ u, L2.RelV v u ∧ base.IsCell p.2 (some u)) := by
  have ndf : fr.Nodup := by
    have q := S.nd.sublist (List.take_sublist (ps.length + fr.length) N)
    rw [S.pre] at q
    exact (List.nodup_append.mp q).2.1
  refine ⟨fun H h f ok e => ?_, fun A outer s H f us vs Q E hr e0 hf hc nd2 r ⟨ws, hsp, hwl, hcell⟩ => ?_⟩
  · obtain ⟨od, sl, pm, ctv, ho⟩ := lamO_at ok (F := F) e
    exact ⟨_, od, _, sl, ho⟩
  have hl := len _ _ _ _ _ hsp
  have lim : s.heap.NoLimit := e0.mod.nolimit.keeps fun b o e => (e0.bs b o e).1
  obtain ⟨od, sl, pm, ctv, ho⟩ := lamO_at e0.hok (F := F) hf
  have cr := codeO_at e0.hok (c := F.c) (q := F.qual) hc
  have C : CapsAt F.cl ws s.heap H := ⟨hwl, fun i p v e1 e2 => by
    obtain ⟨u, ru, o, ho, hd⟩ := hcell i p v e1 e2
    obtain ⟨h1, h2⟩ := e0.bs p.2 o ho
    exact ⟨h2, u, ru, o, h1, hd⟩⟩
  have CC := caps_cells hfr ndf nd2 C
  refine PySem.W.kla_callFunE hr.depth ho rfl S.co S.gen rfl cr ?_
  rw [hb pm ctv us (by rw [← r.length]; exact hl)]
  refine wpAny_pure (wpAny_newFunctionEnv S.nocell (fun ⟨n, _⟩ hy => S.par n (List.of_mem_zip hy).1) (fun h₁ hns hsb => ⟨lim.fresh _ hsb, ?_⟩) S.kind)
  show codeAny _ _ (.expr F.body (envF F.nf f s.heap.objs.size)) _ _
  have kp : ∀ b o, s.heap.get? b = some o → h₁.get? b = some o := fun b o e => hsb.extBut b o (Nat.ne_of_lt (Heap.lt_size e)) (Heap.get?_push_of_some _ e)
  have wl : ws.length = fr.length := by rw [← hfr, List.length_map]; exact C.1
  obtain ⟨t, ht, hq⟩ := hbody A outer s H f vs ws Q E (hr.deeper _) wl hsp
  have I : Inv (ncx CX P w K mg base N F.nf f A outer s H E) [] (startF N vs (ws.map some)) H { s with heap := h₁, toks := s.toks + (ps.zip us).length } := inv_startN (F := F.nf) S hr.hd e0 hl r CC hns kp
  refine PySem.W.kla_codeExpr (wpAny_mono (ht.run [] _ (startF N vs (ws.map some)) H Q I hq) (fun u s' hs => ?_) fun e s' hs => hs)
  obtain ⟨v, H', J, rv, q⟩ := hs
  exact ⟨v, H', J.os, J.bare, J.base, J.hok, rv, q⟩
end
/-! ### .. by mirrors -/
/-- a lambda's mirror -/
def mfnE (N : Nat) (e : EM) : List D → M D := fun ds => M.bind (e (ds.map (fun d => some (.val d)) ++ List.replicate (N - ds.length) none)) fun w => M.of w.d
def spV (G : G3) (F : FV) (n : Nat) (m : List Nat → List D → M D) : Sp := fun vs H Q E => vs.length = n ∧ ∃ (B : Addr → Prop) (s : S3) (st : Store) (ds : List D) (ks : List Nat), s.H = H ∧ Wd G B st s ∧ RepL G.R s.F s.io ds vs ∧ ks.map s.io = F.cl.map (fun y => some y.2) ∧
  Post G B (fun s d v => Rep G.R s.F s.io d v) E s Q (m ks ds st)
theorem startF_start {N : List Str} {vs ws : List V} : startF N vs (ws.map some) = L2.start N (vs ++ ws) := by
  unfold startF L2.start
  rw [List.map_append, List.append_assoc, List.length_map, List.length_append, Nat.sub_sub]
def capsS (st : Store) : List Nat → Option (List D)
  | [] => some []
  | k :: ks => match st[k]?, capsS st ks with
    | some (.kc d), some ds => some (d :: ds)
    | _, _ => none
def capsM (ks : List Nat) : M (List D) := fun st => match capsS st ks with
  | some ds => .ok ds st
  | none => .bad
theorem caps_ok {G : G3} {B : Addr → Prop} {st : Store} {s : S3} (w : Wd G B st s) : ∀ {ks : List Nat} {cs : List D} {cl : List (Str × Addr)}, capsS st ks = some cs → ks.map s.io = cl.map (fun y => some y.2) →
    ∃ ws : List V, ws.length = cl.length ∧ RepL G.R s.F s.io cs ws ∧ ∀ (i : Nat) (p : Str × Addr) (v : V), cl[i]? = some p → ws[i]? = some v → ∃ u, L2.RelV v u ∧ G.base.IsCell p.2 (some u)
  | [], cs, [], e, _ => by cases e; exact ⟨[], rfl, .nil, fun i p v h => by simp at h⟩
  | [], _, _ :: _, _, h => by cases h
  | _ :: _, _, [], _, h => by cases h
  | k :: ks, cs, p :: cl, e, h => by
    rw [List.map_cons, List.map_cons, List.cons.injEq] at h
    unfold capsS at e
    split at e
    · rename_i d ds ek es
      cases e
      obtain ⟨ws, hl, rl, q⟩ := caps_ok w es h.2
      obtain ⟨a, ea, v, u, r, c, rv⟩ := w.unt k _ ek rfl
      rw [h.1] at ea
      cases ea
      refine ⟨v :: ws, by simp [hl], .cons rv rl, fun i p' v' h1 h2 => ?_⟩
      cases i with
      | zero => simp at h1 h2; subst h1; subst h2; exact ⟨u, r, c⟩
      | succ i => exact q i p' v' (by simpa using h1) (by simpa using h2)
    · cases e
/-- a lambda's mirror over the cells that it captured -/
def capd (m : List D → M D) : List Nat → List D → M D := fun ks ds => M.bind (capsM ks) fun cs => m (ds ++ cs)
theorem lam_ok {P : Program} {w : World} {K : PySem.W.Frag} {mg : Str → Option Value} {base : Heap} {G : G3} (hK : K = G.K) (hw : w = G.w) (hB : base = G.base) {N ps fr : List Str} {k : Nat} {e : EM} {F : LF} (hfr : F.cl.map (·.1) = fr) (S : NScope N ps fr F.scope)
    (hb : ∀ (pm ctv : Value) (us : List Value), us.length = ps.length → bindArgs (F.fd pm ctv) ⟨us, []⟩ = pure (ps.zip us))
    (h : ∀ (f : Addr) (A : Around) (outer : List Env) (s : Shared) (H : Hp) (E : XK), Room k (A.deeper (envF F.nf f s.heap.objs.size)) → ME ⟨ncx (L2.CX P w) P w K mg base N F.nf f A outer s H E, G, none, fun cls d _ H => E cls d H, hK, hw⟩ F.body e) :
    VOk P w K mg base (L2.CX P w) (k + 1) F.fv (spV G F.fv ps.length (capd (mfnE N.length e))) := by
  have main := lok_of (P := P) (w := w) (K := K) (mg := mg) (base := base) (CX := L2.CX P w) (k := k) (N := N) (ps := ps) (sp := fun ws vs H Q E => vs.length = ps.length ∧ ∃ (B : Addr → Prop) (s : S3) (st : Store) (ds cs : List D), s.H = H ∧ Wd G B st s ∧ RepL G.R s.F s.io ds vs ∧ RepL G.R s.F s.io cs ws ∧
      Post G B (fun s d v => Rep G.R s.F s.io d v) E s Q (mfnE N.length e (ds ++ cs) st)) hfr S hb (fun ws vs H Q E h => h.1) fun A outer s0 H f vs ws Q E hr wl ⟨hl, B, s, st, ds, cs, eH, wd, rd, rc, hp⟩ => by
    subst eH
    obtain ⟨t, pt, ht⟩ := (h f A outer s0 s.H E hr).out
    refine ⟨t, pt, ?_⟩
    rw [startF_start]
    refine ht B B s st _ _ _ wd (slo_start (N := N) (rd.append rc)) ?_
    unfold mfnE at hp
    refine Post.bind hp fun w st1 s1 v l1 wd1 r1 h1 => ?_
    cases ed : w.d with
    | none => rw [ed] at h1; exact h1.elim
    | some d => rw [ed] at h1; exact (by obtain rfl := d_val ed; exact h1 s1 v (Le.refl _) wd1 r1)
  refine ⟨main.fn, fun A outer s H f us vs Q E hr e0 hf hc nd r ⟨hl, B, s3, st, ds, ks, eH, wd, rl, hio, hp⟩ => main.run A outer s H f us vs Q E hr e0 hf hc nd r ?_⟩
  have hp2 : ∃ cs, capsS st ks = some cs ∧ Post G B (fun s d v => Rep G.R s.F s.io d v) E s3 Q (mfnE N.length e (ds ++ cs) st) := by
    unfold capd capsM M.bind at hp
    cases e2 : capsS st ks with
    | none => simp only [e2] at hp; exact hp.elim
    | some cs => simp only [e2] at hp; exact ⟨cs, rfl, hp⟩
  obtain ⟨cs, e2, hp⟩ := hp2
  obtain ⟨ws, hwl, rc, hcell⟩ := caps_ok wd e2 hio
  exact ⟨ws, ⟨hl, B, s3, st, ds, cs, eH, wd, rl, rc, hp⟩, hwl, fun i p v h1 h2 => by
    obtain ⟨u, q1, q2⟩ := hcell i p v h1 h2
    exact ⟨u, q1, by rw [hB]; exact q2⟩⟩
/-! ### calls -/
def fnOf (w : W) : Option (String × List Nat) := match w with
  | .val (.fn c ks) => some (c, ks)
  | _ => none
abbrev FnTab := List (String × (List Nat → List D → M D))
/-- the functions of a table keep their promises -/
def TabOk (Pg : Program) (w : World) (K : PySem.W.Frag) (mg : Str → Option Value) (base : Heap) (G : G3) (k n : Nat) (tab : FnTab) : Prop := ∀ c mf, (c, mf) ∈ tab → ∀ F, G.nf c F → VOk Pg w K mg base (L2.CX Pg w) k F (spV G F n mf)
/-- the call of a function value -/
def fcall (n : Nat) (tab : FnTab) (w : W) (ds : List D) : M D := M.bind (M.of (fnOf w)) fun q => M.bind (M.of (tab.lookup q.1)) fun mf => M.bind (M.chk (ds.length = n)) fun _ => mf q.2 ds
/-- what a call of the function at f wants, the arguments at hand -/
def WantV (X : Cx) (CX : CXT) (k : Nat) (E : XK) (f : Addr) : List V → Hp → VK → Prop := fun vs H Q => ∃ (F : FV) (sp : Sp), H f = some (F.ob f) ∧ H F.c = some (CodeO F.c F.qual) ∧ (F.cl.map (·.2)).Nodup ∧ VOk X.prog X.w X.K X.mg X.base CX k F sp ∧ sp vs H Q E
theorem run_v {X : Cx} {CX : CXT} {k : Nat} {E : L2.St → XK} {pins : List (Addr × Obj)} {z : L2.St} {H : Hp} {s : Shared} {Q : VK} {f : Addr} {us : List Value} {vs : List V} (hr : Room k X.A) (hx : PassesAt CX X z (E z)) (I : Inv X pins z H s) (r : Vals vs us) (h : WantV X CX k (E z) f vs H Q) :
    wpAny (model X.prog X.w) X.A (call (.ref f) us) (EP X pins z Q) X.xe s := by
  obtain ⟨F, sp, hf, hc, nd, vo, q⟩ := h
  refine wpAny_call (codeAny_mono (vo.run X.A X.stack s H f us vs Q (E z) hr I.env0 hf hc nd r q) fun r s' hq => ?_)
  cases r with
  | error e => exact hx pins H s e s' I hq
  | ok fl =>
    cases fl with
    | ret u => exact I.after hq
    | next => exact False.elim hq
    | brk => exact False.elim hq
    | cont => exact False.elim hq
/-- a lambda or a def -/
def FnL (F : FV) : Prop := (∃ L : LF, F = L.fv) ∨ ∃ N : NF, F = ⟨fun p => FnO p N, N.c, N.qual, N.cl⟩
abbrev FnA (X : Cx) (F : FV) : Prop := ∀ (H : Hp) (h : Heap) (f : Addr), HOk X.prog X.w H h → H f = some (F.ob f) → PySem.W.FnAt f h
theorem FnL.at_ {X : Cx} {F : FV} (h : FnL F) : FnA X F := fun H hp f ok e => by
  rcases h with ⟨L, rfl⟩ | ⟨N, rfl⟩
  · obtain ⟨od, sl, pm, ctv, ho⟩ := lamO_at ok (F := L) e
    exact ⟨_, od, _, sl, ho⟩
  · obtain ⟨od, sl, doc, pm, ctv, ho⟩ := fnO_at ok (F := N) e
    exact ⟨_, od, _, sl, ho⟩
section
variable {X : Cx} {CX : CXT} {k i : Nat} {E : L2.St → XK} {x m : Str} {p pos apos : Pos} {e o : Expr} {es : List Expr} {t : TA} {to : TE} {C : Addr}
/-- x(..), x a name that holds a function -/
theorem pe_callV (hr : Room k X.A) (hx : ∀ z, PassesAt CX X z (E z)) (hN : X.N[i]? = some x) (hv : Vis X.env.scope x) (ha : PA X (e :: es) t)
    (hd : (x == ("__debug__" : Str)) = false := by decide) (hcd : (x == ("__classdict__" : Str)) = false := by decide)
    (he : starEach (e :: es) X.env = (false, eval e X.env) :: starEach es X.env := by rfl) (hpl : (backTo pos (starEach es X.env)).any (·.1) = false := by rfl) :
    PE X (.Call (.Name x p) (e :: es) [] pos) (fun z H Q => ∃ f F, z[i]? = some (some (.ref f)) ∧ H f = some (FV.ob F f) ∧ FnA X F ∧ t z H fun vs H1 => H1 f = some (F.ob f) ∧ WantV X CX k (E z) f vs H1 Q) := by
  refine ⟨fun pins s σ H Q I h => ?_⟩
  obtain ⟨f, F, hs, hf, fa, ht⟩ := h
  refine wpAny_Call_Name_kw (thn ((pe_var (pos := p) hN hv hd hcd).run pins s σ H (fun v H1 => v = .ref f ∧ H1 = H) I ⟨.ref f, hs, rfl, rfl⟩) fun u s1 ⟨v, H1, I1, r1, q1⟩ => ?_)
  obtain ⟨ev, eH⟩ := q1
  subst ev
  rw [eH] at I1
  obtain rfl : u = Value.ref f := r1
  refine PySem.W.callWith_F (first := []) (fa _ _ f I1.hok hf) (thn (ha.run pos pins s1 σ H _ I1 ht) fun us s2 ⟨vs, H2, I2, r, h1, q⟩ => ⟨fa _ _ f I2.hok h1, ?_⟩) he hpl
  exact run_v hr (hx σ) I2 r q
theorem pe_callV0 (hr : Room k X.A) (hx : ∀ z, PassesAt CX X z (E z)) (hN : X.N[i]? = some x) (hv : Vis X.env.scope x) (hd : (x == ("__debug__" : Str)) = false := by decide) (hcd : (x == ("__classdict__" : Str)) = false := by decide) :
    PE X (.Call (.Name x p) [] [] pos) (fun z H Q => ∃ f F, z[i]? = some (some (.ref f)) ∧ H f = some (FV.ob F f) ∧ FnA X F ∧ WantV X CX k (E z) f [] H Q) := by
  refine ⟨fun pins s σ H Q I h => ?_⟩
  obtain ⟨f, F, hs, hf, fa, q⟩ := h
  refine wpAny_Call_Name_kw (thn ((pe_var (pos := p) hN hv hd hcd).run pins s σ H (fun v H1 => v = .ref f ∧ H1 = H) I ⟨.ref f, hs, rfl, rfl⟩) fun u s1 ⟨v, H1, I1, r1, q1⟩ => ?_)
  obtain ⟨ev, eH⟩ := q1
  subst ev
  rw [eH] at I1
  obtain rfl : u = Value.ref f := r1
  refine PySem.W.callWith_F0 (first := []) (fa _ _ f I1.hok hf) ?_
  exact run_v hr (hx σ) I1 .nil q
/-- o.m(..), m an attribute of the instance o -/
theorem pe_callA {pl : Sem Bool} (hr : Room k X.A) (hx : ∀ z, PassesAt CX X z (E z)) (ho : PE X o to) (ha : PA X (e :: es) t)
    (he : starEach (e :: es) X.env = (false, eval e X.env) :: starEach es X.env := by rfl) (hpl : (backTo pos (starEach es X.env)).any (·.1) = false := by rfl) (parts : MethParts X o m apos pos (e :: es) pl := by rfl) :
    PE X (.Call (.Attribute o m apos) (e :: es) [] pos) (fun z H Q => to z H fun x H1 => ∃ a C dx fs f F, x = .ref a ∧ H1 a = some (.ins C dx fs) ∧ Cls X.K C ∧ PySem.W.findIn X.K (.ref C) m = some none ∧ fs.lookup m = some (.ref f) ∧ H1 f = some (FV.ob F f) ∧ FnA X F ∧ t z H1 fun vs H2 => H2 f = some (F.ob f) ∧ WantV X CX k (E z) f vs H2 Q) := by
  refine ⟨fun pins now σ H Q inv wish => PySem.W.methodCall_KW (pl := pl) (thn (ho.run pins now σ H _ inv wish) fun v later got => ?_) parts⟩
  obtain ⟨_, H1, J, rx, a, C, dx, fs, f, F, rfl, at_, cls, no, ef, hf, fa, rest⟩ := got
  obtain rfl : v = .ref a := rx
  obtain ⟨mA, O, r, _, _, _⟩ := ins_get J.hok at_
  have rm : RelO (fs.lookup m) (mA m) := r m
  rw [ef] at rm
  have hm : mA m = some (.ref f) := by
    cases q : mA m with
    | none => rw [q] at rm; exact False.elim rm
    | some u =>
      rw [q] at rm
      have rm : L2.RelV (.ref f) u := rm
      obtain rfl : u = .ref f := rm
      rfl
  obtain ⟨od, I', hl⟩ := O.look
  have pg := PySem.W.plainGet_of (cls.get m)
  refine PySem.W.method_usual J.kIn I' pg.1 pg.2 no rfl (get_map J.kIn O (cls.get m) cls.hd no hm rfl ?_)
  have J2 : Inv X pins σ H1 { later with toks := later.toks + 1 } := J.tok _
  refine PySem.W.callWith_F (first := []) (fa _ _ f J2.hok hf) (thn (ha.run pos pins _ σ H1 _ J2 rest) fun us s2 ⟨vs, H2, I2, rr, h1, q⟩ => ⟨fa _ _ f I2.hok h1, ?_⟩) he hpl
  exact run_v hr (hx σ) I2 rr q
end

/-! ### .. by mirrors -/
/-- x(..), x at slot i -/
def eCallV (n : Nat) (tab : FnTab) (i : Nat) (ma : AM) : EM := fun u => M.bind (eVar i u) fun w => M.bind (M.of (fnOf w)) fun _ => M.bind (ma u) fun ws => M.bind (M.of (asDs ws)) fun ds => M.bind (fcall n tab w ds) fun d => M.pure (.val d)
def eCallA (n : Nat) (tab : FnTab) (cs : List String) (f : Str) (mo : EM) (ma : AM) : EM := fun u => M.bind (mo u) fun w => M.bind (insOf w) fun q => M.bind (M.chk (q.2.1 ∈ cs)) fun _ => M.bind (M.of (q.2.2.lookup f)) fun d => M.bind (M.of (fnOf (.val d))) fun _ =>
  M.bind (ma u) fun ws => M.bind (M.of (asDs ws)) fun ds => M.bind (fcall n tab (.val d) ds) fun d => M.pure (.val d)
theorem fnOf_eq {w : W} {q : String × List Nat} (e : fnOf w = some q) : w = .val (.fn q.1 q.2) := by
  unfold fnOf at e
  split at e
  · cases e; rfl
  · cases e
section
variable {P : P3} {pos p apos : Pos} {x m : Str} {e o : Expr} {es : List Expr} {ma : AM} {mo : EM} {tab : FnTab} {k j n i : Nat} {cs : List String}
/-- the call's wish, met by the mirror -/
theorem want_ok (h : TabOk P.X.prog P.X.w P.X.K P.X.mg P.X.base P.G k n tab) (hk : k ≤ j) {B : Addr → Prop} {s0 s : S3} {st : Store} {z : L2.St} {Q : VK} {f : Addr} {c : String} {ks : List Nat} {ds : List D} {vs : List V} {E : XK}
    (wd : Wd P.G B st s) (r : Rep P.G.R s.F s.io (.fn c ks) (.ref f)) (rl : RepL P.G.R s.F s.io ds vs) (hp : Post P.G B (RepW P.G P.hx B) E s Q (M.bind (fcall n tab (.val (.fn c ks)) ds) (fun d => M.pure (.val d)) st)) :
    WantV P.X (L2.CX P.X.prog P.X.w) j E f vs s.H Q := by
  cases r with
  | @fn _ _ _ F hf hnf hc hio nd =>
    have hp2 : ∃ mf, tab.lookup c = some mf ∧ ds.length = n ∧ Post P.G B (RepW P.G P.hx B) E s Q (M.bind (mf ks ds) (fun d => M.pure (.val d)) st) := by
      unfold fcall fnOf at hp
      simp only [M.bind, M.of, M.pure] at hp
      cases e1 : tab.lookup c with
      | none => rw [e1] at hp; exact hp.elim
      | some mf =>
        rw [e1] at hp
        by_cases hn : ds.length = n
        · refine ⟨mf, rfl, hn, ?_⟩
          simp only [M.of, M.pure, M.chk, hn, if_true] at hp
          exact hp
        · simp only [M.of, M.pure, M.chk, hn, if_false] at hp
          exact hp.elim
    obtain ⟨mf, e1, hn, hp⟩ := hp2
    refine ⟨F, spV P.G F n mf, wd.sub _ _ hf, wd.sub _ _ hc, nd, (h c mf (lookup_mem e1) F hnf).mono hk, by rw [← rl.length]; exact hn, B, s, st, ds, ks, rfl, wd, rl, hio, ?_⟩
    unfold M.bind at hp
    cases em : mf ks ds st with
    | ok d st' => rw [em] at hp; exact fun s' v l w r => hp s' v l w r
    | err c x st' => rw [em] at hp; exact hp
    | bad => rw [em] at hp; exact hp
theorem tab_fn (h : TabOk P.X.prog P.X.w P.X.K P.X.mg P.X.base P.G k n tab) {c : String} {F : FV} {mf : List Nat → List D → M D} (e : tab.lookup c = some mf) (hnf : P.G.nf c F) : FnA P.X F := (h c mf (lookup_mem e) F hnf).fn
/-- what runs well behind the name finds the function in the table -/
theorem me_callV (h : TabOk P.X.prog P.X.w P.X.K P.X.mg P.X.base P.G k n tab) (hf : ∀ c F, P.G.nf c F → FnL F) (hr : Room j P.X.A) (hk : k ≤ j) (tk : Takes P.X P.wx) (i : Nat) (hN : P.X.N[i]? = some x := by rfl) (hv : Vis P.X.env.scope x := by first | exact .inl rfl | exact .inr (.inl rfl) | exact .inr (.inr rfl)) (ha : MA P (e :: es) ma)
    (hd : (x == ("__debug__" : Str)) = false := by decide) (hcd : (x == ("__classdict__" : Str)) = false := by decide) (he : starEach (e :: es) P.X.env = (false, eval e P.X.env) :: starEach es P.X.env := by rfl) (hpl : (backTo pos (starEach es P.X.env)).any (·.1) = false := by rfl) :
    ME P (.Call (.Name x p) (e :: es) [] pos) (eCallV n tab i ma) := by
  obtain ⟨t, pt, ht⟩ := ha.out
  refine ME.mk' (pe_callV (CX := L2.CX P.X.prog P.X.w) (i := i) hr (fun σ => passAt tk σ) hN hv pt hd hcd he hpl) fun B0 B s st u z Q wd sl hp => ?_
  unfold eCallV eVar at hp
  cases eu : u[i]? with
  | none => simp only [eu] at hp; exact hp.elim
  | some ow =>
    cases ow with
    | none => simp only [eu] at hp; exact hp.elim
    | some w =>
      obtain ⟨v, ez, rv⟩ := sl.get eu
      have hp : Post P.G B (RepW P.G P.hx B) (fun c d H => P.wx c d z H) s Q (M.bind (M.of (fnOf w)) (fun _ => M.bind (ma u) fun ws => M.bind (M.of (asDs ws)) fun ds => M.bind (fcall n tab w ds) fun d => M.pure (.val d)) st) := by
        simpa only [eu, M.bind, M.pure] using hp
      obtain ⟨q, eq, hp⟩ := Post.of_of hp
      obtain rfl := fnOf_eq eq
      have rv : Rep P.G.R s.F s.io (.fn q.1 q.2) v := rv
      cases rv with
      | @fn _ _ f F hF hnf hc hio nd =>
        refine ⟨f, F, ez, wd.sub _ _ hF, (hf _ _ hnf).at_, ht B0 B s st u z _ wd sl (Post.bind hp fun ws st1 s1 vs l1 wd1 r1 h1 => ?_)⟩
        obtain ⟨ds, e, h1⟩ := Post.of_of h1
        exact ⟨wd1.sub _ _ (l1.fr _ _ hF), want_ok h hk (s0 := s) (z := z) wd1 (Rep.mono l1.fr l1.io (Rep.fn hF hnf hc hio nd)) (asDs_ok r1 e) h1⟩
theorem me_callV0 (h : TabOk P.X.prog P.X.w P.X.K P.X.mg P.X.base P.G k n tab) (hf : ∀ c F, P.G.nf c F → FnL F) (hr : Room j P.X.A) (hk : k ≤ j) (tk : Takes P.X P.wx) (i : Nat) (hN : P.X.N[i]? = some x := by rfl) (hv : Vis P.X.env.scope x := by first | exact .inl rfl | exact .inr (.inl rfl) | exact .inr (.inr rfl))
    (hd : (x == ("__debug__" : Str)) = false := by decide) (hcd : (x == ("__classdict__" : Str)) = false := by decide) : ME P (.Call (.Name x p) [] [] pos) (eCallV n tab i aNil) := by
  refine ME.mk' (pe_callV0 (CX := L2.CX P.X.prog P.X.w) (i := i) hr (fun σ => passAt tk σ) hN hv hd hcd) fun B0 B s st u z Q wd sl hp => ?_
  unfold eCallV eVar at hp
  cases eu : u[i]? with
  | none => simp only [eu] at hp; exact hp.elim
  | some ow =>
    cases ow with
    | none => simp only [eu] at hp; exact hp.elim
    | some w =>
      obtain ⟨v, ez, rv⟩ := sl.get eu
      have hp : Post P.G B (RepW P.G P.hx B) (fun c d H => P.wx c d z H) s Q (M.bind (M.of (fnOf w)) (fun _ => M.bind (fcall n tab w []) fun d => M.pure (.val d)) st) := by
        simpa only [eu, M.bind, M.pure, aNil, asDs, M.of] using hp
      obtain ⟨q, eq, hp⟩ := Post.of_of hp
      obtain rfl := fnOf_eq eq
      have rv : Rep P.G.R s.F s.io (.fn q.1 q.2) v := rv
      cases rv with
      | @fn _ _ f F hF hnf hc hio nd =>
        exact ⟨f, F, ez, wd.sub _ _ hF, (hf _ _ hnf).at_, want_ok h hk (s0 := s) (z := z) wd (Rep.fn hF hnf hc hio nd) .nil hp⟩
theorem me_callA (h : TabOk P.X.prog P.X.w P.X.K P.X.mg P.X.base P.G k n tab) (hf : ∀ c F, P.G.nf c F → FnL F) (ok : ∀ c ∈ cs, FldOk P.X.K P.G c m) (hr : Room j P.X.A) (hk : k ≤ j) (tk : Takes P.X P.wx) (ho : ME P o mo) (ha : MA P (e :: es) ma)
    (he : starEach (e :: es) P.X.env = (false, eval e P.X.env) :: starEach es P.X.env := by rfl) (hpl : (backTo pos (starEach es P.X.env)).any (·.1) = false := by rfl) {pl : Sem Bool} (hT : MethParts P.X o m apos pos (e :: es) pl := by rfl) :
    ME P (.Call (.Attribute o m apos) (e :: es) [] pos) (eCallA n tab cs m mo ma) := by
  obtain ⟨t, pt, ht⟩ := ha.out
  obtain ⟨to, po, hto⟩ := ho.out
  refine ME.mk' (pe_callA (CX := L2.CX P.X.prog P.X.w) hr (fun σ => passAt tk σ) po pt he hpl hT) fun B0 B s st u z Q wd sl hp => hto B0 B s st u z _ wd sl (Post.bind hp fun w st1 s1 v l1 wd1 r1 h1 => ?_)
  obtain ⟨kk, c, fs, a, C, dx, gs, rfl, rfl, eio, ek, ec, eh, rf, nb, hFa, h1⟩ := Post.of_ins wd1 r1 h1
  obtain ⟨hm, h1⟩ := Post.of_chk h1
  obtain ⟨d, ed, h1⟩ := Post.of_of h1
  obtain ⟨q, eq, h1⟩ := Post.of_of h1
  have eq := fnOf_eq eq
  cases eq
  obtain ⟨C', ec', hc, hn⟩ := (ok c hm).ex
  rw [ec] at ec'
  cases ec'
  obtain ⟨v, ev, rv⟩ := (rf.look (f := m)).1 _ ed
  cases rv with
  | @fn _ _ f F hF hnf hcc hio nd =>
    refine ⟨a, C, dx, gs, f, F, rfl, eh, hc, hn, ev, wd1.sub _ _ hF, (hf _ _ hnf).at_, ht B0 B s1 st1 u z _ wd1 (sl.mono' l1) (Post.bind h1 fun ws st2 s2 vs l2 wd2 r2 h2 => ?_)⟩
    obtain ⟨ds, e, h2⟩ := Post.of_of h2
    exact ⟨wd2.sub _ _ (l2.fr _ _ hF), want_ok h hk (s0 := s2) (z := z) wd2 (Rep.mono l2.fr l2.io (Rep.fn hF hnf hcc hio nd)) (asDs_ok r2 e) h2⟩
end
end M3


/-! defs with a star parameter, their calls; a, *b = e -/
namespace M3
open PySem PySem.Spec PyProof.Rows L2

/-! ### a, *b = a tuple -/
section
variable {X : Cx}
theorem pg_star {e0 e1 : Expr} {g0 g1 : TG} {k : Nat} {pos p1 : Pos} (hc : X.calm = true) (h0 : PG X e0 g0) (h1 : PG X e1 g1)
    (hn : (assignEach [e0, .Starred e1 p1] X.env).length = 2 := by rfl) (hst : (assignEach [e0, .Starred e1 p1] X.env).findIdx? (·.1) = some 1 := by rfl)
    (hs : (assignEach [e0, .Starred e1 p1] X.env).map (·.2) = [assign e0 X.env, assign e1 X.env] := by rfl) :
    PG X (.Tuple [e0, .Starred e1 p1] k pos) (fun v z H Q => ∃ a v0 vs, v = .ref a ∧ SqT X.K H a (v0 :: vs) ∧ vs.length ≤ 1000 ∧ ∀ D, H D = none → g0 v0 z (upd H D (.lst vs)) fun z1 H1 => g1 (.ref D) z1 H1 Q) := by
  refine ⟨fun pins s z H v u Q I r hw => ?_⟩
  obtain ⟨l, v0, vs, e1, hq, hz, hw⟩ := hw
  subst e1
  cases r
  obtain ⟨its, rv, ht, hzz⟩ := I.tuple hq
  cases rv with
  | @cons _ i0 _ its r0 rv =>
  have hsz : (i0 :: its).toArray.size = its.length + 1 := by simp
  have hl := rv.length
  have hh := I.ok.hd hc
  rw [assign_Tuple]
  refine wpAny_bind (wpAny_standAt ?_)
  unfold PySem.unpack
  rw [hn, hst]
  have hlt : l ≠ s.heap.objs.size := by obtain ⟨o, ho, _⟩ := ht; exact Nat.ne_of_lt (Heap.lt_size ho)
  refine wpAny_bind (wpAny_holding ?_)
  unfold unpackItems
  refine wpAny_bind ?_
  unfold notIterableAtAll
  refine wpAny_bind (wpAny_specialOf ht.typeIs slot_tuple_iter.lookup ?_)
  refine wpAny_pure ?_
  simp only [Bool.false_eq_true, if_false]
  refine wpAny_bind (wpAny_holding (iter_tuple ht ?_))
  refine wpAny_bind (wpAny_holding (draw_tuple hlt 1 0 _ _ ⟨_, Heap.get?_push_size _ rfl, rfl, rfl⟩ (ht.push _) (by rw [hsz]; omega) fun h₁ hit₁ hs₁ => ?_))
  have ht₁ : IsTup h₁ l (i0 :: its).toArray := (ht.push _).extBut hs₁.extBut hlt
  rw [Nat.zero_add] at hit₁
  have hit₁' := hit₁
  obtain ⟨oi, hoi, _⟩ := hit₁'
  have ht₁' := ht₁
  obtain ⟨ol, hol, _⟩ := ht₁'
  have etake : ((i0 :: its).toArray.toList.drop 0).take 1 = [i0] := by simp
  rw [etake]
  rw [if_neg (show ¬ ([i0].length < 1) by simp)]
  refine wpAny_bind (wpAny_holding (PySem.W.kun_collect (s := { s with heap := h₁ }) (T := "tuple_iterator") (.inr (.inr (.inr rfl))) (Walks.tuple (A := X.A.in1) hh s.heap.objs.size l hlt (i0 :: its).toArray) (fun j u st => st.1.typeIs) (k := 1) (by rw [hsz]; omega) ⟨hit₁, ht₁⟩ (Heap.lt_size hoi) (Heap.lt_size hol) (fun h₂ tk hk => ?_) (by rw [hsz, sizeLine_eq]; omega)))
  have edrop : (i0 :: its).toArray.toList.drop 1 = its := by simp
  rw [edrop]
  show wpAny _ _ (if its.length < 2 - 1 - 1 then _ else _) _ _ _
  rw [if_neg (by omega)]
  show wpAny _ _ (newList (its.take (its.length - (2 - 1 - 1))) >>= fun d => pure ([i0] ++ [d] ++ its.drop (its.length - (2 - 1 - 1)))) _ _ _
  rw [show its.length - (2 - 1 - 1) = its.length by omega, List.take_length, List.drop_length]
  have keep : ∀ b o, s.heap.get? b = some o → h₂.get? b = some o := fun b o e => by
    have hb : b ≠ s.heap.objs.size := Nat.ne_of_lt (Heap.lt_size e)
    exact hk b o hb (hs₁.extBut b o hb (Heap.get?_push_of_some _ e))
  have I1 : Inv X pins z H { s with heap := h₂, toks := tk } := I.kept keep
  have vsz : vs.length ≤ sizeLine := by rw [sizeLine_eq]; omega
  refine wpAny_bind (wpAny_newList (wpAny_pure ?_) (by rw [← hl]; exact vsz))
  show wpAny _ _ (assignInOrder ((assignEach [e0, .Starred _ p1] X.env).map (·.2)) [i0, .ref h₂.objs.size]) _ _ _
  rw [hs]
  have I2 : Inv X pins z (upd H h₂.objs.size (.lst vs)) { s with heap := h₂.push { cls := .type "list", data := .seq its.toArray }, toks := tk } :=
    I1.laid (fun b u e => Heap.get?_push_of_some _ e) (Nat.le_refl _) ⟨vsz, its, 0, rv, Heap.get?_push_size _ rfl⟩
  refine assignInOrder_cons (thn (h0.run pins _ z _ v0 i0 _ I2 r0 (hw _ (I1.hok.fresh (Nat.le_refl _)))) fun _ s1 ⟨z1, H1, J1, q1⟩ => ?_)
  refine assignInOrder_cons (thn (h1.run pins s1 z1 H1 (.ref h₂.objs.size) _ Q J1 rfl q1) fun _ s2 q => ?_)
  exact wpAny_pure q
end

/-- a, *b = e: e is data; b is a new list that nobody changes -/
def sAsgStar (m : EM) (g : GM) (i : Nat) : SM := fun u st => match m u st with
  | .ok (.val d) st' => match d with
    | .ctup (x :: xs) => if xs.length ≤ 1000 then match g x u with
        | some u' => .nx (u'.set i (some (.val (.lst xs)))) st'
        | none => .bad
      else .bad
    | .tup (x :: xs) => if xs.length ≤ 1000 then match g x u with
        | some u' => .nx (u'.set i (some (.val (.lst xs)))) st'
        | none => .bad
      else .bad
    | _ => .bad
  | .ok _ _ => .bad
  | .err c x st' => .err c x u st'
  | .bad => .bad
section
variable {P : P3} {pos : Pos}
theorem ms_asgStar {e0 e : Expr} {m : EM} {g : GM} {gs : List Nat} {x : Str} {k i : Nat} {p0 p1 p2 : Pos} (hc : P.X.calm = true) (he : ME P e m) (hg : MG P e0 g gs) (hi : MG P (.Name x p2) (gName3 i) [i])
    (hn : (assignEach [e0, .Starred (.Name x p2) p1] P.X.env).length = 2 := by rfl) (hst : (assignEach [e0, .Starred (.Name x p2) p1] P.X.env).findIdx? (·.1) = some 1 := by rfl)
    (hss : (assignEach [e0, .Starred (.Name x p2) p1] P.X.env).map (·.2) = [assign e0 P.X.env, assign (.Name x p2) P.X.env] := by rfl)
    (hs : swapsWithSole [.Tuple [e0, .Starred (.Name x p2) p1] k p0] e pos.line P.X.env = pure false := by rfl) (hw : swappedStores [.Tuple [e0, .Starred (.Name x p2) p1] k p0] e P.X.env = pure none := by rfl)
    (h1 : (assignEach [.Tuple [e0, .Starred (.Name x p2) p1] k p0] P.X.env).map (·.2) = [assign (.Tuple [e0, .Starred (.Name x p2) p1] k p0) P.X.env] := by rfl) : MS P (.Assign [.Tuple [e0, .Starred (.Name x p2) p1] k p0] e pos) (sAsgStar m g i) := by
  obtain ⟨t, pt, ht⟩ := he.out
  refine MS.mk' (ps_asg pt (pg_star hc hg.pg hi.pg hn hst hss) hs hw h1) fun B0 B s o u z Dn b0 wd sl h => ht B0 B s o u z _ wd sl ?_
  unfold sAsgStar at h
  cases e : m u o with
  | bad => rw [e] at h; exact h
  | err c x st' => rw [e] at h; exact fun s' cv dd l w q => h B s' z cv dd b0 (l.less b0) w (sl.mono' l) q
  | ok w st' =>
    rw [e] at h
    cases w with
    | val d =>
      have core : ∀ (y : D) (ys : List D) (s' : S3) (v : V) (a : Addr) (vs : List V), Le B s s' → Wd P.G B st' s' → v = .ref a → SqT P.X.K s'.H a vs → RepL P.G.R s'.F s'.io (y :: ys) vs →
          PostS P.G P.hx P.wx B0 s Dn (if ys.length ≤ 1000 then match g y u with
            | some u' => SRes.nx (u'.set i (some (.val (.lst ys)))) st'
            | none => .bad
          else .bad) → ∃ a v0 vs, v = .ref a ∧ SqT P.X.K s'.H a (v0 :: vs) ∧ vs.length ≤ 1000 ∧ ∀ Dl, s'.H Dl = none → tG P.G P.hx g gs v0 z (upd s'.H Dl (.lst vs)) fun z1 H1 => tG P.G P.hx (gName3 i) [i] (.ref Dl) z1 H1 (fun z' H' => Dn.nx z' H') := by
        intro y ys s' v a vs l w ev hq rl h
        cases rl with
        | @cons _ _ v0 vs r0 rl =>
          split at h
          · rename_i hle
            refine ⟨a, v0, vs, ev, hq, by rw [← rl.length]; exact hle, fun Dl hD => ?_⟩
            cases eg : g y u with
            | none => rw [eg] at h; exact h.elim
            | some u' =>
              rw [eg] at h
              obtain ⟨w2, l2⟩ := w.froz hD (.lst vs)
              refine ⟨B0, B, s'.froz Dl (.lst vs), st', u, y, u', rfl, w2, sl.mono' (l.trans l2), r0.mono l2.fr l2.io, eg, fun z' sl' _ => ?_⟩
              refine ⟨B0, B, s'.froz Dl (.lst vs), st', u', .lst ys, u'.set i (some (.val (.lst ys))), rfl, w2, sl', .lst upd_same (rl.mono l2.fr l2.io), rfl, fun z2 sl2 _ => ?_⟩
              exact h B _ z2 b0 ((l.trans l2).less b0) w2 sl2
          · exact h.elim
      cases d with
      | ctup ds =>
        cases ds with
        | nil => exact h.elim
        | cons y ys =>
          intro s' v l w r
          cases r with
          | ctup hq rl => exact core y ys s' _ _ _ l w rfl (by rw [P.hK]; exact same_sqT w.sub hq) rl h
      | tup ds =>
        cases ds with
        | nil => exact h.elim
        | cons y ys =>
          intro s' v l w r
          cases r with
          | tup hq rl => exact core y ys s' _ _ _ l w rfl (hq.mono w.sub).sq rl h
      | _ => exact h.elim
    | _ => exact h.elim
end
/-! ### a def with a star parameter -/
def mfnS (N np : Nat) (mb : SM) : List D → M D := fun ds => if np ≤ ds.length ∧ ds.length - np ≤ 1000 then mfn N mb (ds.take np ++ [.ctup (ds.drop np)]) else M.bad
def spR (G : G3) (m : List D → M D) : Sp := fun vs H Q E => ∃ (B : Addr → Prop) (s : S3) (st : Store) (ds : List D), s.H = H ∧ Wd G B st s ∧ RepL G.R s.F s.io ds vs ∧ Post G B (fun s d v => Rep G.R s.F s.io d v) E s Q (m ds st)
section
variable {P : Program} {w : World} {K : PySem.W.Frag} {mg : Str → Option Value} {base : Heap}
/-- what a body's mirror gives, wished of the def -/
theorem body_post {G : G3} {wx : WX} {B : Addr → Prop} {s : S3} {o : Store} {u : Sl3} {Q : VK} {E : XK} {mb : SM} {N : Nat} {ds : List D} (hwx : wx = fun cls d _ H => E cls d H) (hu : u = ds.map (fun d => some (.val d)) ++ List.replicate (N - ds.length) none)
    (hp : Post G B (fun s d v => Rep G.R s.F s.io d v) E s Q (mfn N mb ds o)) : PostS G none wx B s { nx := fun _ H' => Q .non H', rt := Q } (mb u o) := by
  subst hwx hu
  unfold mfn at hp
  cases em : mb (ds.map (fun d => some (.val d)) ++ List.replicate (N - ds.length) none) o with
  | nx u' st' => rw [em] at hp; exact fun B' s' z' b l w sl => hp s' .non l (w.less b) .non
  | rt w st' =>
    rw [em] at hp
    cases w with
    | val d => exact fun B' s' v b l w r => hp s' v l (w.less b) r
    | bor xs =>
      rintro B' s' v b l w ⟨p, vs', rfl, bp, nb, hq, r⟩
      have w' : Wd G (plus B p) st' s' := w.less fun a q => q.elim (b a) fun z => z ▸ bp
      exact hp ⟨s'.io, upd s'.F p (.lst vs'), s'.H⟩ (.ref p) (l.trans (freeze_le w')) (freeze_wd w' nb hq) (.lst upd_same (r.mono (freeze_le w').fr (freeze_le w').io))
    | bod ks us => exact hp.elim
    | bdd ks us => exact hp.elim
    | exn c x => exact hp.elim
    | len xs => exact hp.elim
  | bk u' st' => rw [em] at hp; exact hp.elim
  | ct u' st' => rw [em] at hp; exact hp.elim
  | err c x u' st' => rw [em] at hp; exact fun B' s' z' cv dd b l w sl q => hp s' cv dd l (w.less b) q
  | bad => rw [em] at hp; exact hp.elim
theorem fn_okR {G : G3} (hK : K = G.K) (hw : w = G.w) {x qual : Str} {st : Stmt} {f : Addr} {fd : FuncData} {N ps : List Str} {pv : Str} {k : Nat} {mb : SM} (F : Fun K x qual st f fd) (S : FnScope N (ps ++ [pv]) (defScope st))
    (hb : ∀ us rest : List Value, us.length = ps.length → bindArgs fd ⟨us ++ rest, []⟩ = (newTuple rest >>= fun t => pure (ps.zip us ++ [(pv, t)])))
    (h : ∀ (cdv : Value) (A : Around) (outer : List Env) (s : Shared) (H : Hp) (E : XK), Room k (A.deeper (envOfC qual (defScope st) s.heap.objs.size f cdv)) →
      MSs ⟨cxOf (L2.CX P w) P w K mg base N qual (defScope st) f cdv A outer s H E, G, none, fun cls d _ H => E cls d H, hK, hw⟩ (defBody st) mb) :
    FnR P w K mg base (L2.CX P w) (k + 1) f (spR G (mfnS N.length ps.length mb)) := by
  obtain ⟨oc, od, kV, doc, pm, an, cdv, ct, osl, rfl, lk, hcd⟩ := F.ex
  have z := StX.fn_star (P := P) (w := w) (mg := mg) (base := base) (k := k) (sp := fun vs H Q E => ∃ (B : Addr → Prop) (s : S3) (st : Store) (ds : List D), s.H = H ∧ Wd G B st s ∧ RepL G.R s.F s.io ds vs ∧ Post G B (fun s d v => Rep G.R s.F s.io d v) E s Q (mfn N.length mb ds st)) lk hcd S (StX.cxUp (P := P) (w := w)) hb
    (fun A outer s0 H vs Q E hr ⟨B, s, o, ds, e, wd, rl, hp⟩ => by
      subst e
      obtain ⟨t, pt, ht⟩ := (h cdv A outer s0 s.H E hr).out
      exact ⟨t, pt, ht B B s o _ _ _ (fun _ b => b) wd (slo_start (N := N) rl) (body_post rfl rfl hp)⟩)
  refine z.imp fun vs H Q E ⟨B, s, st, ds, e, wd, rl, hp⟩ => ?_
  subst e
  unfold mfnS at hp
  split at hp
  · rename_i hl
    have e2 := rl.length
    refine ⟨vs.take ps.length, vs.drop ps.length, (List.take_append_drop _ _).symm, by rw [List.length_take]; omega, by rw [List.length_drop, sizeLine_eq]; omega, fun p hp0 => ?_⟩
    obtain ⟨w2, l2⟩ := wd.froz hp0 (.tup (vs.drop ps.length))
    refine ⟨B, s.froz p (.tup (vs.drop ps.length)), st, _, rfl, w2, ((rl.take ps.length).mono l2.fr l2.io).append (.cons (.ctup (.inl (.inl upd_same)) ((rl.drop ps.length).mono l2.fr l2.io)) .nil), Post.mono l2 hp⟩
  · exact hp.elim
end
end M3


/-! calls of defs with a star parameter, calls with a starred argument -/
namespace M3
open PySem PySem.Spec PyProof.Rows L2

section
variable {X : Cx} {CX : CXT} {k : Nat} {f g C : Addr} {x m : Str} {p pos apos sp_ : Pos} {e e1 e2 o : Expr} {es : List Expr} {t : TA} {te ta t1 t2 : TE} {E : L2.St → XK} {sp : Sp}
theorem run_fnRA {base : Heap} {pins : List (Addr × Obj)} {z : L2.St} {H : Hp} {s : Shared} {Q : VK} {us : List Value} {vs : List V} {Ez : XK} (F : FnR X.prog X.w X.K X.mg base CX k f sp) (hr : Room k X.A) (hx : PassesAt CX X z Ez) (I : Inv X pins z H s) (e0 : Env0 X.prog X.w X.K X.mg base X.A X.stack s H) (r : Vals vs us) (h : sp vs H Q Ez) :
    codeAny (model X.prog X.w) X.A (.call (.ref f) ⟨us, []⟩) (fun r s' => match r with | .ok (.ret v) => EP X pins z Q v s' | .ok _ => False | .error e => X.xe e s') s := by
  refine codeAny_mono (F X.A X.stack s H us vs Q Ez hr e0 r h) fun r s' hq => ?_
  cases r with
  | error e => exact hx pins H s e s' I hq
  | ok fl =>
    cases fl with
    | ret u => exact I.after hq
    | next => exact False.elim hq
    | brk => exact False.elim hq
    | cont => exact False.elim hq
/-- f(a, ..) -/
theorem pe_callRp (F : FnR X.prog X.w X.K X.mg X.base CX k f sp) (hr : Room k X.A) (hg : Gl X x) (hm : X.mg x = some (.ref f)) (hk : PySem.W.keepIn X.K (.ref f) = true) (hx : ∀ z, PassesAt CX X z (E z)) (ha : PA X (e :: es) t) (hdb : (x == ("__debug__" : Str)) = false := by decide)
    (he : starEach (e :: es) X.env = (false, eval e X.env) :: starEach es X.env := by rfl) (hpl : (backTo pos (starEach es X.env)).any (·.1) = false := by rfl) :
    PE X (.Call (.Name x p) (e :: es) [] pos) (fun z H Q => t z H fun vs H1 => sp vs H1 Q (E z)) := by
  refine ⟨fun pins s z H Q I h => ?_⟩
  refine wpAny_Call_Name_kw (ld_glob I hg hm ?_ hdb)
  refine PySem.W.callWith_K (h₀ := X.base) I.ok.mod.kin hk (thn (ha.run pos pins s z H _ I h) fun us s1 ⟨vs, H1, I1, r, q⟩ => ⟨I1.kIn, ?_⟩) he hpl
  exact wpAny_call (run_fnRA F hr (hx z) I1 I1.env0 r q)
/-- f() -/
theorem pe_callR0 (F : FnR X.prog X.w X.K X.mg X.base CX k f sp) (hr : Room k X.A) (hg : Gl X x) (hm : X.mg x = some (.ref f)) (hk : PySem.W.keepIn X.K (.ref f) = true) (hx : ∀ z, PassesAt CX X z (E z)) (hdb : (x == ("__debug__" : Str)) = false := by decide) :
    PE X (.Call (.Name x p) [] [] pos) (fun z H Q => sp [] H Q (E z)) := by
  refine ⟨fun pins s z H Q I h => ?_⟩
  refine wpAny_Call_Name_kw (ld_glob I hg hm ?_ hdb)
  refine PySem.W.callWith_K0 (first := []) I.kIn hk ?_
  exact wpAny_call (run_fnRA F hr (hx z) I I.env0 .nil h)
/-- f(*y) -/
theorem pe_callRs (F : FnR X.prog X.w X.K X.mg X.base CX k f sp) (hr : Room k X.A) (hk : PySem.W.keepIn X.K (.ref f) = true) (hg : Gl X x) (hm : X.mg x = some (.ref f)) (hx : ∀ z, PassesAt CX X z (E z)) (he : PE X e te) (hd : (x == ("__debug__" : Str)) = false := by decide)
    (hst : starEach [.Starred e sp_] X.env = [(true, eval e X.env)] := by rfl) :
    PE X (.Call (.Name x p) [.Starred e sp_] [] pos) (fun z H Q => te z H fun y H1 => ∃ a xs, y = V.ref a ∧ (SqT X.K H1 a xs ∨ SqL X.K H1 a xs) ∧ sp xs H1 Q (E z)) := by
  refine ⟨fun pins s z H Q I h => ?_⟩
  refine wpAny_Call_Name_kw (ld_glob I hg hm ?_ hd)
  refine PySem.W.callWith_S (h₀ := X.base) I.ok.mod.kin hk (thn (he.run pins s z H _ I h) fun v s1 ⟨y, H1, I1, ry, a, xs, ey, hxs, q⟩ => ?_) hst
  subst ey
  obtain rfl : v = Value.ref a := ry
  exact StX.star_any I1 hxs fun us s2 I2 rv => ⟨I2.kIn, wpAny_call (run_fnRA F hr (hx z) I2 I2.env0 rv q)⟩
/-- o.m(a, ..) -/
theorem pe_methRp {pl : Sem Bool} (he : PE X o ta) (hr : Room k X.A) (hx : ∀ σ, PassesAt CX X σ (E σ)) (ha : PA X (e :: es) t) (one : starEach (e :: es) X.env = (false, eval e X.env) :: starEach es X.env := by rfl)
    (plain : (backTo pos (starEach es X.env)).any (·.1) = false := by rfl) (parts : MethParts X o m apos pos (e :: es) pl := by rfl) :
    PE X (.Call (.Attribute o m apos) (e :: es) [] pos) (fun z H Q => ta z H fun x H1 => ∃ a C dx fs f sp, x = .ref a ∧ H1 a = some (.ins C dx fs) ∧ fs.lookup m = none ∧ Cls X.K C ∧ Meth X.K C m f ∧ FnR X.prog X.w X.K X.mg X.base CX k f sp ∧ t z H1 fun vs H2 => sp (x :: vs) H2 Q (E z)) :=
  ⟨fun pins now z H Q inv wish => PySem.W.methodCall_KW (pl := pl) (thn (he.run pins now z H _ inv wish) fun v later got => by
    obtain ⟨_, H1, J, rx, a, C, dx, fs, f, sp, rfl, at_, no, cls, mth, F, rest⟩ := got
    obtain rfl : v = .ref a := rx
    have args := ha.run pos pins later z H1 _ J rest
    exact getmeth_ok J at_ cls mth no (PySem.W.callWith_K (first := [.ref a]) (h₀ := X.base) J.ok.mod.kin mth.kp (thn args fun us last ⟨vs, H2, J2, rs, q⟩ => ⟨J2.kIn, wpAny_call (run_fnRA (us := .ref a :: us) (vs := .ref a :: vs) F hr (hx z) J2 J2.env0 (.cons rfl rs) q)⟩) one plain)) parts⟩
/-- o.m(a, *y) -/
theorem pe_methRs {R : L2.St → Heap → Prop} (hR : ∀ (pins : List (Addr × Obj)) (z : L2.St) (H : Hp) (s : Shared), Inv X pins z H s → ∃ b, R z b ∧ Env0 X.prog X.w X.K X.mg b X.A X.stack s H) (he : PE X o ta) (hr : Room k X.A) (hx : ∀ z, PassesAt CX X z (E z)) (h1 : PE X e1 t1) (h2 : PE X e2 t2) (hbase : attributeBase o m X.env (eval o X.env) = eval o X.env := by rfl)
    (hst : starEach [e1, .Starred e2 p] X.env = [(false, eval e1 X.env), (true, eval e2 X.env)] := by rfl) : PE X (.Call (.Attribute o m apos) [e1, .Starred e2 p] [] pos)
      (fun z H Q => ta z H fun x H1 => ∃ (a C dx : Addr) (fs : List (Str × V)) (g : Addr) (sp : Heap → Sp), x = .ref a ∧ H1 a = some (.ins C dx fs) ∧ fs.lookup m = none ∧ Cls X.K C ∧ BMeth X.K C m g ∧ (∀ b, R z b → FnR X.prog X.w X.K X.mg b CX k g (sp b)) ∧
        ∀ q, H1 q = none → t1 z (upd H1 q (.met g a)) fun y1 H2 => t2 z H2 fun y2 H3 => ∃ b vs, y2 = .ref b ∧ (SqT X.K H3 b vs ∨ SqL X.K H3 b vs) ∧ H3 q = some (.met g a) ∧ ∀ b, R z b → sp b (.ref a :: y1 :: vs) H3 Q (E z)) := by
  refine ⟨fun pins s z H Q I h => ?_⟩
  refine starcall2_of hbase hst (thn (he.run pins s z H _ I h) fun u s1 ⟨x, H1, I1, rx, a, C, dx, fs, g, sp, ex, ea, l, c, b, F, q⟩ => ?_)
  subst ex
  obtain rfl : u = Value.ref a := rx
  refine getbound_ok I1 ea c b l fun q1 s2 hq1 I2 => ?_
  refine PySem.W.ks_call (P := PySem.W.MethP X.K q1 g (.ref a)) rfl (PySem.W.keeps_M b.fi) (Calls.evalArgs_plain (Calls.spliced_cons (thn (h1.run pins s2 z _ _ I2 (q q1 hq1)) fun v1 s3 ⟨y1, H2, I3, ry1, q2⟩ =>
    PySem.W.ks_spliced (thn (h2.run pins s3 z H2 _ I3 q2) fun v2 s4 ⟨y2, H3, I4, ry2, tt, vs, ey, ht, hm, hsp⟩ => ?_))))
  subst ey
  obtain rfl : v2 = Value.ref tt := ry2
  refine StX.star_any I4 ht fun us s5 I5 rv => Calls.spliced_nil ?_
  show PySem.W.MethP X.K q1 g (.ref a) s5.heap ∧ wpAny (model X.prog X.w) X.A (call (.ref q1) (v1 :: (us ++ [])) []) (EP X pins z Q) X.xe s5
  rw [List.append_nil]
  obtain ⟨bb, rb, e0⟩ := hR _ _ _ _ I5
  exact ⟨met_P I5 hm, wpAny_call (PySem.W.method_call (met_P I5 hm).1 (run_fnRA (us := Value.ref a :: v1 :: us) (vs := V.ref a :: y1 :: vs) (F bb rb) hr (hx z) I5 e0 (.cons rfl (.cons ry1 rv)) (hsp bb rb)))⟩
end

theorem plainR {X : Cx} : ∀ (pins : List (Addr × Obj)) (z : L2.St) (H : Hp) (s : Shared), Inv X pins z H s → ∃ b, (fun _ b => b = X.base : L2.St → Heap → Prop) z b ∧ Env0 X.prog X.w X.K X.mg b X.A X.stack s H := fun _ _ _ _ I => ⟨_, rfl, I.env0⟩
theorem lentR {X : Cx} : ∀ (pins : List (Addr × Obj)) (z : L2.St) (H : Hp) (s : Shared), Inv X pins z H s → ∃ b, Rebased X z b ∧ Env0 X.prog X.w X.K X.mg b X.A X.stack s H := fun _ _ _ _ I => rebase I
/-! ### by mirrors -/
/-- a star def of the top -/
structure CalR (Pg : Program) (w : World) (K : PySem.W.Frag) (mg : Str → Option Value) (base : Heap) (G : G3) (k : Nat) (x : Str) (m : List D → M D) : Prop where
  ex : ∃ f, mg x = some (.ref f) ∧ PySem.W.keepIn K (.ref f) = true ∧ FnR Pg w K mg base (L2.CX Pg w) k f (spR G m)
/-- a star method -/
structure MthR (Pg : Program) (w : World) (K : PySem.W.Frag) (mg : Str → Option Value) (base : Heap) (G : G3) (k : Nat) (m : Str) (c : String) (mf : List D → M D) : Prop where
  ex : ∃ C f, G.cls c = some C ∧ Cls K C ∧ BMeth K C m f ∧ FnR Pg w K mg base (L2.CX Pg w) k f (spR G mf)
theorem spR_nap {G : G3} {b : Heap} (hb : KnowsTo G.base b) {m : List D → M D} {vs : List V} {H : Hp} {Q : VK} {E : XK} (h : spR G (nap m) vs H Q E) : spR (G.at b) m vs H Q E := by
  obtain ⟨B, s, st, ds, e, wd, rl, hp⟩ := h
  exact ⟨B, s, _, ds, e, wd.nap hb, rl, nap_post (fun _ _ _ r => r) wd hp⟩
theorem CalR.nap {Pg : Program} {w : World} {K : PySem.W.Frag} {mg : Str → Option Value} {base b : Heap} {G : G3} {k : Nat} {x : Str} {m : List D → M D} (h : CalR Pg w K mg base (G.at b) k x m) (hb : KnowsTo G.base b) : CalR Pg w K mg base G k x (M3.nap m) := by
  obtain ⟨f, a1, a2, F⟩ := h.ex
  exact ⟨f, a1, a2, F.imp fun _ _ _ _ h => spR_nap hb h⟩
theorem MthR.nap {Pg : Program} {w : World} {K : PySem.W.Frag} {mg : Str → Option Value} {base b : Heap} {G : G3} {k : Nat} {x : Str} {c : String} {m : List D → M D} (h : MthR Pg w K mg base (G.at b) k x c m) (hb : KnowsTo G.base b) : MthR Pg w K mg base G k x c (M3.nap m) := by
  obtain ⟨C, f, a1, a2, a3, F⟩ := h.ex
  exact ⟨C, f, a1, a2, a3, F.imp fun _ _ _ _ h => spR_nap hb h⟩
def eCallRp (m : List D → M D) (ma : AM) : EM := fun u => M.bind (ma u) fun ws => M.bind (M.of (asDs ws)) fun ds => M.bind (m ds) fun d => M.pure (.val d)
/-- f(*y) -/
def eCallRs (m : List D → M D) (me : EM) : EM := fun u => M.bind (me u) fun w => M.bind (M.of (w.d.bind D.items)) fun ds => M.bind (m ds) fun d => M.pure (.val d)
def eMethRp (m : Str) (tab : List (String × (List D → M D))) (mo : EM) (ma : AM) : EM := fun u => M.bind (mo u) fun w => M.bind (insOf w) fun q => M.bind (M.chk (q.2.2.lookup m = none)) fun _ => M.bind (M.of (tab.lookup q.2.1)) fun mf =>
  M.bind (ma u) fun ws => M.bind (M.of (asDs ws)) fun ds => M.bind (mf (.ref q.1 :: ds)) fun d => M.pure (.val d)
/-- o.m(a, *y); W: what is done to the mirror of the method -/
def eMethRs (W : Sl3 → (List D → M D) → List D → M D) (m : Str) (tab : List (String × (List D → M D))) (mo m1 m2 : EM) : EM := fun u => M.bind (mo u) fun w => M.bind (insOf w) fun q => M.bind (M.chk (q.2.2.lookup m = none)) fun _ => M.bind (M.of (tab.lookup q.2.1)) fun mf =>
  M.bind (m1 u) fun w1 => M.bind (M.of w1.d) fun d1 => M.bind (m2 u) fun w2 => M.bind (M.of (w2.d.bind D.items)) fun ds => M.bind (W u mf (.ref q.1 :: d1 :: ds)) fun d => M.pure (.val d)
theorem spR_post {G : G3} {X : Hex} {B : Addr → Prop} {s : S3} {st : Store} {E : XK} {Q : VK} {mf : List D → M D} {ds : List D} {vs : List V} (wd : Wd G B st s) (rl : RepL G.R s.F s.io ds vs)
    (h : Post G B (RepW G X B) E s Q (M.bind (mf ds) (fun d => M.pure (.val d)) st)) : spR G mf vs s.H Q E := by
  refine ⟨B, s, st, ds, rfl, wd, rl, ?_⟩
  unfold M.bind at h
  cases em : mf ds st with
  | ok d st' => rw [em] at h; exact fun s' v l w r => h s' v l w r
  | err c x st' => rw [em] at h; exact h
  | bad => rw [em] at h; exact h
theorem spR_lend {P : P3} {B0 B : Addr → Prop} {s : S3} {st : Store} {u : Sl3} {z : L2.St} {E : XK} {Q : VK} {mf : List D → M D} {ds : List D} {vs : List V} {b : Heap} (ho : OwnOk P) (hb : P.X.base = P.G.base) (wd : Wd P.G B st s) (sl : Slo P.G P.hx B0 B s u z) (rl : RepL P.G.R s.F s.io ds vs) (rb : Rebased P.X z b)
    (h : Post P.G B (RepW P.G P.hx B) E s Q (M.bind (lend u mf ds) (fun d => M.pure (.val d)) st)) : spR (P.G.at b) mf vs s.H Q E := by
  refine ⟨B, s, _, ds, rfl, wd.lend ho hb sl rb, rl, ?_⟩
  refine lend_post (R := fun s d v => RepW P.G P.hx B s (.val d) v) (fun _ _ _ r => r) wd ?_
  unfold M.bind at h
  cases em : lend u mf ds st with
  | ok d st' => rw [em] at h; exact fun s' v l w r => h s' v l w r
  | err c x st' => rw [em] at h; exact h
  | bad => rw [em] at h; exact h
/-- the items of what is handed over with a star -/
theorem star_ok {G : G3} {X : Hex} {B : Addr → Prop} {s : S3} {st : Store} {w : W} {v : V} {xs : List D} {K : PySem.W.Frag} (hK : K = G.K) (wd : Wd G B st s) (r : RepW G X B s w v) (e : w.d.bind D.items = some xs) : ∃ p vs, v = .ref p ∧ (SqT K s.H p vs ∨ SqL K s.H p vs) ∧ RepL G.R s.F s.io xs vs := by
  subst hK
  cases w with
  | val d =>
    have r : Rep G.R s.F s.io d v := r
    have e : D.items d = some xs := e
    cases r with
    | tup hq rl => cases e; exact ⟨_, _, rfl, .inl (hq.mono wd.sub).sq, rl⟩
    | ctup hq rl => cases e; exact ⟨_, _, rfl, .inl (same_sqT wd.sub hq), rl⟩
    | lst hq rl => cases e; exact ⟨_, _, rfl, .inr (.inl (.inl (wd.sub _ _ hq))), rl⟩
    | ro hq rl => cases e; exact ⟨_, _, rfl, .inr (same_sqL wd.sub hq), rl⟩
    | _ => cases e
  | _ => cases e
section
variable {P : P3} {pos p apos sp_ : Pos} {x m : Str} {e o e1 e2 : Expr} {es : List Expr} {ma : AM} {mo me m1 m2 : EM} {mf : List D → M D} {k j : Nat} {tab : List (String × (List D → M D))}
theorem me_callRp (c : CalR P.X.prog P.X.w P.X.K P.X.mg P.X.base P.G k x mf) (hr : Room j P.X.A) (hk : k ≤ j) (tk : Takes P.X P.wx) (hg : Gl P.X x) (ha : MA P (e :: es) ma)
    (hdb : (x == ("__debug__" : Str)) = false := by decide) (he : starEach (e :: es) P.X.env = (false, eval e P.X.env) :: starEach es P.X.env := by rfl) (hpl : (backTo pos (starEach es P.X.env)).any (·.1) = false := by rfl) : ME P (.Call (.Name x p) (e :: es) [] pos) (eCallRp mf ma) := by
  obtain ⟨f, hm, hkp, F⟩ := c.ex
  obtain ⟨t, pt, ht⟩ := ha.out
  refine ME.mk' (pe_callRp F (hr.mono hk) hg hm hkp (fun σ => passAt tk σ) pt hdb he hpl) fun B0 B s st u z Q wd sl h => ht B0 B s st u z _ wd sl (Post.bind h fun ws st1 s1 vs l1 wd1 r1 h1 => ?_)
  obtain ⟨ds, e, h1⟩ := Post.of_of h1
  exact spR_post wd1 (asDs_ok r1 e) h1
theorem me_callR0 (c : CalR P.X.prog P.X.w P.X.K P.X.mg P.X.base P.G k x mf) (hr : Room j P.X.A) (hk : k ≤ j) (tk : Takes P.X P.wx) (hg : Gl P.X x) (hdb : (x == ("__debug__" : Str)) = false := by decide) : ME P (.Call (.Name x p) [] [] pos) (eCallRp mf aNil) := by
  obtain ⟨f, hm, hkp, F⟩ := c.ex
  refine ME.mk' (pe_callR0 F (hr.mono hk) hg hm hkp (fun σ => passAt tk σ) hdb) fun B0 B s st u z Q wd sl h => ?_
  exact spR_post wd .nil (by simpa only [eCallRp, aNil, M.bind, M.pure, asDs, M.of] using h)
theorem me_callRs (c : CalR P.X.prog P.X.w P.X.K P.X.mg P.X.base P.G k x mf) (hr : Room j P.X.A) (hk : k ≤ j) (tk : Takes P.X P.wx) (hg : Gl P.X x) (he : ME P e me) (hdb : (x == ("__debug__" : Str)) = false := by decide)
    (hst : starEach [.Starred e sp_] P.X.env = [(true, eval e P.X.env)] := by rfl) : ME P (.Call (.Name x p) [.Starred e sp_] [] pos) (eCallRs mf me) := by
  obtain ⟨f, hm, hkp, F⟩ := c.ex
  obtain ⟨t, pt, ht⟩ := he.out
  refine ME.mk' (pe_callRs F (hr.mono hk) hkp hg hm (fun σ => passAt tk σ) pt hdb hst) fun B0 B s st u z Q wd sl h => ht B0 B s st u z _ wd sl (Post.bind h fun w st1 s1 v l1 wd1 r1 h1 => ?_)
  obtain ⟨ds, e, h1⟩ := Post.of_of h1
  obtain ⟨p, vs, rfl, hq, rl⟩ := star_ok P.hK wd1 r1 e
  exact ⟨p, vs, rfl, hq, spR_post wd1 rl h1⟩
theorem me_methRp (h : ∀ p ∈ tab, MthR P.X.prog P.X.w P.X.K P.X.mg P.X.base P.G k m p.1 p.2) (hr : Room j P.X.A) (hk : k ≤ j) (tk : Takes P.X P.wx) (ho : ME P o mo) (ha : MA P (e :: es) ma)
    (he : starEach (e :: es) P.X.env = (false, eval e P.X.env) :: starEach es P.X.env := by rfl) (hpl : (backTo pos (starEach es P.X.env)).any (·.1) = false := by rfl) {pl : Sem Bool} (hT : MethParts P.X o m apos pos (e :: es) pl := by rfl) :
    ME P (.Call (.Attribute o m apos) (e :: es) [] pos) (eMethRp m tab mo ma) := by
  obtain ⟨t, pt, ht⟩ := ha.out
  obtain ⟨to, po, hto⟩ := ho.out
  refine ME.mk' (pe_methRp po (hr.mono hk) (fun σ => passAt tk σ) pt he hpl hT) fun B0 B s st u z Q wd sl hp => hto B0 B s st u z _ wd sl (Post.bind hp fun w st1 s1 v l1 wd1 r1 h1 => ?_)
  obtain ⟨i, c, fs, a, C, dx, gs, rfl, rfl, eio, ek, ec, eh, rf, nb, hF, h1⟩ := Post.of_ins wd1 r1 h1
  obtain ⟨hn, h1⟩ := Post.of_chk h1
  obtain ⟨mf, et, h1⟩ := Post.of_of h1
  obtain ⟨C', f, ec', hc, hm, F⟩ := (h _ (lookup_mem et)).ex
  rw [ec] at ec'
  cases ec'
  refine ⟨a, C, dx, gs, f, _, rfl, eh, (rf.look (f := m)).2 hn, hc, hm.mt, F, ?_⟩
  refine ht B0 B s1 st1 u z _ wd1 (sl.mono' l1) (Post.bind h1 fun ws st2 s2 vs l2 wd2 r2 h2 => ?_)
  obtain ⟨ds, e, h2⟩ := Post.of_of h2
  exact spR_post wd2 (.cons (.ref (l2.io _ _ eio)) (asDs_ok r2 e)) h2
end
end M3


namespace M3
open PySem PySem.Spec PyProof.Rows L2
section
variable {P : P3} {pos p apos : Pos} {m : Str} {o e1 e2 : Expr} {mo m1 m2 : EM} {k j : Nat} {tab : List (String × (List D → M D))}
/-- the same for both kinds of bases -/
theorem me_methRs {R : L2.St → Heap → Prop} {W : Sl3 → (List D → M D) → List D → M D} (hR : ∀ (pins : List (Addr × Obj)) (z : L2.St) (H : Hp) (s : Shared), Inv P.X pins z H s → ∃ b, R z b ∧ Env0 P.X.prog P.X.w P.X.K P.X.mg b P.X.A P.X.stack s H) {Gb : Heap → G3}
    (h : ∀ q ∈ tab, ∀ z b, R z b → MthR P.X.prog P.X.w P.X.K P.X.mg b (Gb b) k m q.1 q.2) (hcl : ∀ z b, R z b → (Gb b).cls = P.G.cls)
    (hW : ∀ {B0 B : Addr → Prop} {s : S3} {st : Store} {u : Sl3} {z : L2.St} {E : XK} {Q : VK} {mf : List D → M D} {ds : List D} {vs : List V} {b : Heap}, Wd P.G B st s → Slo P.G P.hx B0 B s u z → RepL P.G.R s.F s.io ds vs → R z b → Post P.G B (RepW P.G P.hx B) E s Q (M.bind (W u mf ds) (fun d => M.pure (.val d)) st) → spR (Gb b) mf vs s.H Q E)
    (hex : ∃ z b, R z b) (hr : Room j P.X.A) (hk : k ≤ j) (tk : Takes P.X P.wx) (ho : ME P o mo) (h1 : ME P e1 m1) (h2 : ME P e2 m2) (hbase : attributeBase o m P.X.env (eval o P.X.env) = eval o P.X.env := by rfl)
    (hst : starEach [e1, .Starred e2 p] P.X.env = [(false, eval e1 P.X.env), (true, eval e2 P.X.env)] := by rfl) : ME P (.Call (.Attribute o m apos) [e1, .Starred e2 p] [] pos) (eMethRs W m tab mo m1 m2) := by
  obtain ⟨to, po, hto⟩ := ho.out
  obtain ⟨t1, p1, ht1⟩ := h1.out
  obtain ⟨t2, p2, ht2⟩ := h2.out
  refine ME.mk' (pe_methRs hR po (hr.mono hk) (fun σ => passAt tk σ) p1 p2 hbase hst) fun B0 B s st u z Q wd sl hp => hto B0 B s st u z _ wd sl (Post.bind hp fun w st1 s1 v l1 wd1 r1 h1 => ?_)
  obtain ⟨i, c, fs, a, C, dx, gs, rfl, rfl, eio, ek, ec, eh, rf, nb, hF, h1⟩ := Post.of_ins wd1 r1 h1
  obtain ⟨hn, h1⟩ := Post.of_chk h1
  obtain ⟨mf, et, h1⟩ := Post.of_of h1
  obtain ⟨z0, b0, rb0⟩ := hex
  obtain ⟨C', g, ec', hc, hm, _⟩ := (h _ (lookup_mem et) z0 b0 rb0).ex
  rw [hcl z0 b0 rb0, ec] at ec'
  cases ec'
  have uniq : ∀ z b, R z b → FnR P.X.prog P.X.w P.X.K P.X.mg b (L2.CX P.X.prog P.X.w) k g (spR (Gb b) mf) := fun z b rb => by
    obtain ⟨C', g', ec', _, hm', F⟩ := (h _ (lookup_mem et) z b rb).ex
    rw [hcl z b rb, ec] at ec'
    cases ec'
    have e1 := hm.mt.at_
    have e2 := hm'.mt.at_
    rw [e1] at e2
    cases e2
    exact F
  refine ⟨a, C, dx, gs, g, fun b => spR (Gb b) mf, rfl, eh, (rf.look (f := m)).2 hn, hc, hm, fun b rb => uniq z b rb, fun q hq => ?_⟩
  obtain ⟨wq, lq⟩ := own_wd (ho := .met g a) wd1 hq
  have slq : Slo P.G P.hx B0 (plus B q) ⟨s1.io, s1.F, upd s1.H q (.met g a)⟩ u z := (sl.mono' (l1.trans lq)).more fun a b => .inl b
  have nB : ¬ B q := wd1.freshB hq
  -- from the wider B to B
  have down : ∀ {α : Type} {β : Type} {R' R'' : S3 → α → β → Prop} {E : XK} {s : S3} {Q : β → Hp → Prop} {r : Res α}, (∀ s a b, R'' s a b → R' s a b) → Post P.G B R' E s Q r → Post P.G (plus B q) R'' E s Q r := fun {α β R' R'' E s Q r} hRR hp => by
    cases r with
    | ok d st' => exact fun s' v l w r => hp s' v (l.less fun a b => .inl b) (w.less fun a b => .inl b) (hRR _ _ _ r)
    | err c x st' => exact fun s' cv dd l w r => hp s' cv dd (l.less fun a b => .inl b) (w.less fun a b => .inl b) r
    | bad => exact hp
  have h1q := Post.mono lq h1
  have step1 : Post P.G (plus B q) (RepW P.G P.hx (plus B q)) (fun c d H => P.wx c d z H) ⟨s1.io, s1.F, upd s1.H q (.met g a)⟩ (fun y1 H2 => t2 z H2 fun y2 H3 => ∃ b vs, y2 = .ref b ∧ (SqT P.X.K H3 b vs ∨ SqL P.X.K H3 b vs) ∧ H3 q = some (.met g a) ∧ ∀ b, R z b → spR (Gb b) mf (.ref a :: y1 :: vs) H3 Q (WE P.wx z)) (m1 u st1) := by
    unfold M.bind at h1q
    cases em : m1 u st1 with
    | bad => rw [em] at h1q; exact h1q
    | err c x st' => rw [em] at h1q; exact fun s' cv dd l w r => h1q s' cv dd (l.less fun a b => .inl b) (w.less fun a b => .inl b) r
    | ok w1 st2 =>
      rw [em] at h1q
      intro s2 v1 l2 wd2 r2
      have h2 := Post.mono (l2.less fun a b => .inl b) h1q
      cases w1 with
      | val d1 =>
        have h2 : Post P.G B (RepW P.G P.hx B) (fun c d H => P.wx c d z H) s2 Q (M.bind (m2 u) (fun w2 => M.bind (M.of (w2.d.bind D.items)) fun ds => M.bind (W u mf (.ref i :: d1 :: ds)) fun d => M.pure (.val d)) st2) := h2
        refine ht2 B0 (plus B q) s2 st2 u z _ wd2 (slq.mono' l2) ?_
        unfold M.bind at h2
        cases em2 : m2 u st2 with
        | bad => rw [em2] at h2; exact h2
        | err c x st' => rw [em2] at h2; exact fun s' cv dd l w r => h2 s' cv dd (l.less fun a b => .inl b) (w.less fun a b => .inl b) r
        | ok w2 st3 =>
          rw [em2] at h2
          intro s3 v2 l3 wd3 r3
          have h3 := Post.mono (l3.less fun a b => .inl b) h2
          have h3 : Post P.G B (RepW P.G P.hx B) (fun c d H => P.wx c d z H) s3 Q (M.bind (M.of (w2.d.bind D.items)) (fun ds => M.bind (W u mf (.ref i :: d1 :: ds)) fun d => M.pure (.val d)) st3) := h3
          obtain ⟨ds, e3, h3⟩ := Post.of_of h3
          obtain ⟨b, vs, rfl, hq2, rl⟩ := star_ok P.hK wd3 r3 e3
          refine ⟨b, vs, rfl, hq2, ?_, fun bb rb => ?_⟩
          · rw [l3.hid q (.inr rfl), l2.hid q (.inr rfl)]
            exact upd_same
          · have r2' : Rep P.G.R s2.F s2.io d1 v1 := r2
            refine hW (B0 := B0) (B := B) (wd3.less fun a b => .inl b) ?_ (.cons (.ref (l3.io _ _ (l2.io _ _ eio))) (.cons (r2'.mono l3.fr l3.io) rl)) rb h3
            have lB : Le B s1 s3 := (lq.trans (l2.less fun a b => .inl b)).trans (l3.less fun a b => .inl b)
            exact sl.mono' (l1.trans lB)
      | _ => exact h2.elim
  exact ht1 B0 (plus B q) _ st1 u z _ wq slq step1
/-- o.m(a, *y), nothing lent -/
theorem me_methS (h : ∀ q ∈ tab, MthR P.X.prog P.X.w P.X.K P.X.mg P.X.base P.G k m q.1 q.2) (hr : Room j P.X.A) (hk : k ≤ j) (tk : Takes P.X P.wx) (ho : ME P o mo) (h1 : ME P e1 m1) (h2 : ME P e2 m2) (hbase : attributeBase o m P.X.env (eval o P.X.env) = eval o P.X.env := by rfl)
    (hst : starEach [e1, .Starred e2 p] P.X.env = [(false, eval e1 P.X.env), (true, eval e2 P.X.env)] := by rfl) : ME P (.Call (.Attribute o m apos) [e1, .Starred e2 p] [] pos) (eMethRs (fun _ mf => mf) m tab mo m1 m2) :=
  me_methRs (R := fun _ b => b = P.X.base) (Gb := fun _ => P.G) (plainR (X := P.X)) (fun q hq z b rb => by subst rb; exact h q hq) (fun _ _ _ => rfl) (fun wd _ rl rb h => spR_post wd rl h) ⟨[], _, rfl⟩ hr hk tk ho h1 h2 hbase hst
/-- o.m(a, *y), the frame's cells lent -/
theorem me_methL (ow : OwnOk P) (hb : P.X.base = P.G.base) (h : ∀ q ∈ tab, ∀ b, Over P.X.base b → MthR P.X.prog P.X.w P.X.K P.X.mg b (P.G.at b) k m q.1 q.2) (hr : Room j P.X.A) (hk : k ≤ j) (tk : Takes P.X P.wx) (ho : ME P o mo) (h1 : ME P e1 m1) (h2 : ME P e2 m2) (hbase : attributeBase o m P.X.env (eval o P.X.env) = eval o P.X.env := by rfl)
    (hst : starEach [e1, .Starred e2 p] P.X.env = [(false, eval e1 P.X.env), (true, eval e2 P.X.env)] := by rfl) : ME P (.Call (.Attribute o m apos) [e1, .Starred e2 p] [] pos) (eMethRs lend m tab mo m1 m2) :=
  me_methRs (R := fun z b => Rebased P.X z b) (Gb := fun b => P.G.at b) (lentR (X := P.X)) (fun q hq z b rb => h q hq b rb.le) (fun _ _ _ => rfl) (fun wd sl rl rb h => spR_lend ow hb wd sl rl rb h) ⟨[], P.X.base, ⟨fun _ _ e => e, fun _ _ _ _ _ _ _ _ e => by simp at e⟩⟩ hr hk tk ho h1 h2 hbase hst
end
end M3


/-! defs that are called while an exception is handled: they raise nothing, and nothing in them asks what is handled -/
namespace M3
open PySem PySem.Spec PyProof.Rows L2

def startO (N : List Str) (ws : List (Option V)) : L2.St := ws ++ List.replicate (N.length - ws.length) none
abbrev RoomQ := L2H.RoomH
/-- the context of such a def's body -/
def cxQ (P : Program) (w : World) (K : PySem.W.Frag) (mg : Str → Option Value) (base : Heap) (N : List Str) (qual : Str) (scope : Scope) (f : Addr) (cd : Value) (A : Around) (outer : List Env) (s : Shared) (H : Hp) : Cx :=
  { cxOf C8.CX0 P w K mg base N qual scope f cd A outer s H C8.E0 with calm := false }
theorem inv_startQ {P : Program} {w : World} {K : PySem.W.Frag} {mg : Str → Option Value} {base : Heap} {N ps : List Str} {qual : Str} {scope : Scope} {f : Addr} {cd : Value} {A : Around} {outer : List Env} {s s1 : Shared} {H : Hp} {us : List Value} {ws : List (Option V)}
    (S : FnScope N ps scope) (e0 : Env0 P w K mg base A outer s H) (hl : ws.length = ps.length) (hu : us.length = ps.length) (r : ∀ (i : Nat) (v : V), ws[i]? = some (some v) → ∃ u, us[i]? = some u ∧ L2.RelV v u)
    (x : InCallC s s.heap.objs.size (bindL (envOfC qual scope s.heap.objs.size f cd).kindOf (ps.zip us) fun _ => none) (cellsFrom (s.heap.objs.size + 1) scope.names []) (bindC (envOfC qual scope s.heap.objs.size f cd).kindOf (ps.zip us) fun _ => none) s1) :
    Inv (cxQ P w K mg base N qual scope f cd A outer s H) [] (startO N ws) H s1 := by
  have hpl : ps.length ≤ N.length := by have := congrArg List.length S.pre; rw [List.length_take] at this; omega
  obtain ⟨h1, tk, rfl, hk⟩ := x.done
  have noA : ∀ b : Addr, b ∉ (cxQ P w K mg base N qual scope f cd A outer s H).ex := fun b z => absurd (show b ∈ ([] : List Addr) from z) (by simp)
  refine ⟨⟨e0.mod, S.kind, rfl, rfl, Nat.le_refl _, fun y z c h1 h2 => ?_, fun y hy => ?_, fun y c _ h => ?_, (fun z => Bool.noConfusion (show false = true from z)), Around.frames_deeper e0.frames, .inr ⟨rfl, rfl⟩, fun b z => absurd z (noA b), e0.bs, e0.bsz, fun b _ _ => noA b, fun b z => absurd z (noA b), e0.funs, e0.frf⟩,
    rfl, e0.bare, Un.kept hk, ⟨_, x.toInCall.ns, fun i y v h1 h2 h3 => ?_⟩, fun y c h => ⟨_, x.cell y c h⟩, e0.hok.fresh (Nat.le_refl _), fun y c h => ?_, fun q hq => absurd (show q ∈ ([] : List (Addr × Obj)) ++ [] from hq) (by simp), e0.hok.kept hk, ?_⟩
  · exact name_of_addr x.apart (PySem.mem_of_lookup h1) (PySem.mem_of_lookup h2)
  · have hy : scope.names.lookup y = some .cell ∨ scope.names.lookup y = some .free := hy
    rcases hy with hy | hy
    · exact cell_has hy
    · exact absurd rfl (S.nofree _ (PySem.mem_of_lookup hy))
  · exact Nat.le_of_lt (x.above y c (PySem.mem_of_lookup h))
  · have hi : i < ws.length := by
      unfold startO at h2
      by_cases hi : i < ws.length
      · exact hi
      · rw [List.getElem?_append_right (by simpa using hi), List.getElem?_replicate] at h2
        split at h2 <;> cases h2
    have ha : ws[i]? = some (some v) := by
      unfold startO at h2
      rw [List.getElem?_append_left hi] at h2
      exact h2
    obtain ⟨u, hu', rv⟩ := r i v ha
    have hp : ps[i]? = some y := by
      rw [← S.pre, List.getElem?_take_of_lt (by omega)]; exact h1
    have ndP : ps.Nodup := by rw [← S.pre]; exact S.nd.sublist (List.take_sublist _ _)
    refine ⟨u, rv, ?_⟩
    rcases S.par y (List.mem_of_getElem? hp) with k | k
    · exact .inl ⟨k, bindL_get ndP hp hu' k⟩
    · obtain ⟨c, e⟩ := cell_has (n := s.heap.objs.size + 1) k
      refine .inr ⟨.inl k, c, e, ?_⟩
      have q := x.cell y c e
      rw [bindC_get ndP hp hu' (by show scope.names.lookup y ≠ _; rw [k]; decide)] at q
      exact q
  · exact e0.hok.fresh (Nat.le_of_lt (x.above y c (PySem.mem_of_lookup h)))
  · unfold startO
    show _ = N.length
    rw [List.length_append, List.length_replicate]
    omega
/-- such a def's promise; a value that is not told is nobody's -/
structure FnQ (P : Program) (w : World) (K : PySem.W.Frag) (mg : Str → Option Value) (base : Heap) (k : Nat) (f : Addr) (fd : FuncData) (ps : List Str) (sp : List (Option V) → Hp → VK → Prop) : Prop where
  run : ∀ (A : Around) (outer : List Env) (s : Shared) (H : Hp) (args : Args) (us : List Value) (ws : List (Option V)) (Q : VK), RoomQ k A → Env0 P w K mg base A outer s H → BindsTo s fd args (ps.zip us) → us.length = ps.length → ws.length = ps.length →
    (∀ (i : Nat) (v : V), ws[i]? = some (some v) → ∃ u, us[i]? = some u ∧ L2.RelV v u) → sp ws H Q → codeAny (model P w) A (.call (.ref f) args) (CR C8.CX0 outer P w H s Q C8.E0) s
theorem fn_ofQ {P : Program} {w : World} {K : PySem.W.Frag} {mg : Str → Option Value} {base : Heap} {k : Nat} {f : Addr} {name qual : Str} {params : Arguments} {body : List Stmt} {scope : Scope} {dV kV doc pm cdv ct oc : Value} {an od : Option Addr}
    {osl : Array (Option Value)} {N ps : List Str} {sp : List (Option V) → Hp → VK → Prop} (lk : K.lookup f = some ⟨oc, od, .func (PySem.W.fnOf name qual params body scope dV kV doc pm an cdv ct), osl⟩) (hcd : PySem.W.codeIn K cdv qual = true) (S : FnScope N ps scope)
    (hbody : ∀ (A : Around) (outer : List Env) (s : Shared) (H : Hp) (ws : List (Option V)) (Q : VK), RoomQ k (A.deeper (envOfC qual scope s.heap.objs.size f cdv)) → sp ws H Q →
      ∃ t, PSs (cxQ P w K mg base N qual scope f cdv A outer s H) body t ∧ t { nx := fun _ H' => Q .non H', rt := Q } (startO N ws) H) :
    FnQ P w K mg base (k + 1) f (PySem.W.fnOf name qual params body scope dV kV doc pm an cdv ct) ps sp := by
  refine ⟨fun A outer s H args us ws Q hr e0 hb hu hl r hsp => ?_⟩
  have KX : K.In s.heap := e0.mod.kin.keeps fun b o e => (e0.bs b o e).1
  have lim : s.heap.NoLimit := e0.mod.nolimit.keeps fun b o e => (e0.bs b o e).1
  have hkind : ∀ y ∈ ps.zip us, scope.names.lookup y.1 = some .local ∨ (scope.names.lookup y.1 = some .cell ∧ ((cellsFrom (s.heap.objs.size + 1) scope.names []).lookup y.1).isSome = true) := fun ⟨n, v⟩ hy => by
    rcases S.par n (List.of_mem_zip hy).1 with q | q
    · exact .inl q
    · exact .inr ⟨q, PySem.W.cellsFrom_some _ _ _ (.inl q)⟩
  refine codeAny_call_function hr.depth (KX _ _ lk) rfl S.co S.gen rfl (PySem.W.codeRec_of KX hcd) (hb _ _ _ _ ?_)
  refine wpAny_newFunctionEnv_cells S.kind hkind fun env he s1 x => ?_
  subst he
  refine ⟨lim.keeps x.toInCall.keep, codeAny_func ?_⟩
  obtain ⟨t, ht, hq⟩ := hbody A outer s H ws Q (hr.deeper _) hsp
  have I : Inv (cxQ P w K mg base N qual scope f cdv A outer s H) [] (startO N ws) H s1 := inv_startQ S e0 hl hu r x
  refine wpAny_mono (ht.run [] s1 (startO N ws) H _ I hq) (fun fl s' hs => ?_) fun e s' hs => hs
  have fin : ∀ {σ' : L2.St} {H' : Hp} {v : V} {u : Value}, Inv (cxQ P w K mg base N qual scope f cdv A outer s H) [] σ' H' s' → RelV v u → Q v H' → CE outer P w H s Q u s' :=
    fun {σ' H' v u} J rv q => ⟨v, H', J.os, J.bare, J.base, J.hok, rv, q⟩
  cases fl with
  | ret u =>
    obtain ⟨v, σ', H', J, rv, q⟩ := hs
    exact fin J rv q
  | next =>
    obtain ⟨σ', H', J, q⟩ := hs
    exact fin (v := V.non) (u := Value.none) J rfl q
  | brk =>
    obtain ⟨_, _, _, q⟩ := hs
    exact False.elim q
  | cont =>
    obtain ⟨_, _, _, q⟩ := hs
    exact False.elim q
/-- .. by mirrors: the first values are told -/
def spQ (G : G3) (n : Nat) (m : List D → M D) : List (Option V) → Hp → VK → Prop := fun ws H Q => ∃ (vs : List V) (B : Addr → Prop) (s : S3) (st : Store) (ds : List D), ws = vs.map some ++ List.replicate (n - vs.length) none ∧ s.H = H ∧ Wd G B st s ∧ RepL G.R s.F s.io ds vs ∧
  Post G B (fun s d v => Rep G.R s.F s.io d v) C8.E0 s Q (m ds st)
section
variable {P : Program} {w : World} {K : PySem.W.Frag} {mg : Str → Option Value} {base : Heap}
theorem fn_okQ {G : G3} (hK : K = G.K) (hw : w = G.w) {x qual : Str} {st : Stmt} {f : Addr} {fd : FuncData} {N ps : List Str} {k : Nat} {mb : SM} (F : Fun K x qual st f fd) (S : FnScope N ps (defScope st))
    (h : ∀ (cdv : Value) (A : Around) (outer : List Env) (s : Shared) (H : Hp), RoomQ k (A.deeper (envOfC qual (defScope st) s.heap.objs.size f cdv)) →
      MSs ⟨cxQ P w K mg base N qual (defScope st) f cdv A outer s H, G, none, fun cls d _ H => C8.E0 cls d H, hK, hw⟩ (defBody st) mb) :
    FnQ P w K mg base (k + 1) f fd ps (spQ G ps.length (mfn N.length mb)) := by
  obtain ⟨oc, od, kV, doc, pm, an, cdv, ct, osl, rfl, lk, hcd⟩ := F.ex
  have hpl : ps.length ≤ N.length := by have := congrArg List.length S.pre; rw [List.length_take] at this; omega
  refine fn_ofQ lk hcd S fun A outer s0 H ws Q hr ⟨vs, B, s, o, ds, ews, e, wd, rl, hp⟩ => ?_
  subst e
  obtain ⟨t, pt, ht⟩ := (h cdv A outer s0 s.H hr).out
  refine ⟨t, pt, ht B B s o (ds.map (fun d => some (M3.W.val d)) ++ List.replicate (N.length - ds.length) none) _ _ (fun _ b => b) wd ?_ (body_post rfl rfl hp)⟩
  have q := slo_start (G := G) (X := none) (B0 := B) (B := B) (N := N) rl
  have e2 : ∀ i v, (L2.start N vs)[i]? = some (some v) → (startO N ws)[i]? = some (some v) := fun i v e => by
    subst ews
    unfold L2.start at e
    unfold startO
    by_cases hi : i < vs.length
    · rw [List.getElem?_append_left (by simpa using hi)] at e
      rw [List.append_assoc, List.getElem?_append_left (by simpa using hi)]
      exact e
    · rw [List.getElem?_append_right (by simpa using hi), List.getElem?_replicate] at e
      split at e <;> cases e
  obtain ⟨hlen, ow, h1, h2⟩ := q
  refine ⟨?_, ow, fun i w e => ?_, h2⟩
  · rw [hlen]
    subst ews
    unfold L2.start startO
    have := rl.length
    by_cases hv : vs.length ≤ ps.length
    · simp; omega
    · simp; omega
  · obtain ⟨v, q1, q2, q3⟩ := h1 i w e
    exact ⟨v, e2 i v q1, q2, q3⟩
end
end M3


namespace PySem.W
open PySem PySem.Calls PyProof.Rows
section
variable {prog : Program} {w : World} {M : Model} {A : Around} {E : Value → Shared → Prop} {s : Shared} {env : Env} {K : Frag} {x C L fe fx : Addr} {h₀ : Heap} {m : Str → Option Value} {ox : Obj} {od : Option Obj} {pos : Pos}
/-- what is asked where an exception has been noted and put down: its class, its traceback, the call of __exit__ -/
def ExitOk (prog : Program) (w : World) (A : Around) (E : Value → Shared → Prop) (env : Env) (x fx : Addr) (Q : Flow → Shared → Prop) (e : Value) (s : Shared) : Prop :=
  ∃ cls tb : Value, (∀ Q' : Value → Shared → Prop, Q' cls s → wpAny (model prog w) A (typeOf e) Q' E s) ∧ (∀ Q' : Value → Shared → Prop, Q' tb s → wpAny (model prog w) A (tracebackOf e) Q' E s) ∧ e ≠ byPass ∧
    codeAny (model prog w) (A.mark (some e)) (.call (.ref fx) ⟨[.ref x, cls, e, tb], []⟩) (fun r s' => match r with | .ok (.ret .none) => wpAny (model prog w) A (passOn "with" e env : Sem Flow) Q E s' | _ => False) s
theorem kw_coreE {bdy : Sem Flow} {Q : Flow → Shared → Prop} {EE : Value → Shared → Prop} (X : K.In s.heap) (I : InstAt s.heap x ox C od) (he : findIn K (.ref C) "__enter__" = some (some (.ref fe))) (hfe : isFn K (.ref fe) = true) (hx : findIn K (.ref C) "__exit__" = some (some (.ref fx))) (hfx : isFn K (.ref fx) = true)
    (h : wpAny (model prog w) A (call (.ref fe) [.ref x]) (fun v s₂ => wpAny (model prog w) A bdy (fun f s₄ => wpAny (model prog w) A (call (.ref fx) [.ref x, .none, .none, .none]) (fun _ s₅ => Q f s₅) E s₄) EE s₂) E s)
    (hE : ∀ e s₄, EE e s₄ → wpAny (model prog w) A (noteFrame e env) (fun _ s₅ => wpAny (model prog w) A (setFlight e none) (fun _ s₆ => ExitOk prog w A E env x fx Q e s₆) E s₅) E s₄) :
    wpAny (model prog w) A (withItem false pos env (pure (.ref x)) none bdy) Q E s := by
  obtain ⟨cd, hcd, ae⟩ := kw_along he
  obtain ⟨cd', hcd', ax⟩ := kw_along hx
  cases hcd.symm.trans hcd'
  obtain ⟨hh, g, d, tt, os⟩ := s
  have L1 : Looks (model prog w) hh (specialOnItsLine (.ref x) "__enter__") (some (.ref fe), cd.mro) := kw_special X I hcd ae
  have L2 : Looks (model prog w) hh (specialOnItsLine (.ref x) "__exit__") (some (.ref fx), cd.mro) := kw_special X I hcd ax
  have L3 : Looks (model prog w) hh (bindSpecial (.ref fe) (.ref x)) (.ref fe, [.ref x]) := bind_fn X _ (beq_iff_eq.mp hfe)
  have L4 : Looks (model prog w) hh (bindSpecial (.ref fx) (.ref x)) (.ref fx, [.ref x]) := bind_fn X _ (beq_iff_eq.mp hfx)
  have L5 : Looks (model prog w) hh (aMethodOfAnotherBuiltinTypeStops (.ref fe) cd.mro) () := Looks.of_pure rfl
  have L6 : Looks (model prog w) hh (aMethodOfAnotherBuiltinTypeStops (.ref fx) cd.mro) () := Looks.of_pure rfl
  unfold withItem
  refine wpAny_bind (wpAny_pure ?_)
  refine wpAny_bind (wpAny_standAt ?_)
  simp only [Bool.false_eq_true, if_false]
  kw_lk
  refine wpAny_mono h (fun v s₂ h₂ => ?_) fun _ _ z => z
  kw_lk
  refine wpAny_attempt (kw_held ?_)
  show wpAny _ _ bdy _ _ _
  refine wpAny_mono h₂ (fun f s₄ h₄ => ?_) fun e s₄ h₄ => ?_
  · kw_lk
    refine wpAny_mono h₄ (fun _ s₅ h₅ => ?_) fun _ _ z => z
    kw_lk
    exact h₅
  · dsimp only
    refine wpAny_bind (wpAny_mono (hE e s₄ h₄) (fun _ s₅ h₅ => ?_) fun _ _ z => z)
    refine wpAny_bind (wpAny_mono h₅ (fun _ s₆ h₆ => ?_) fun _ _ z => z)
    obtain ⟨cls, tb, ht, hb, hnb, hc⟩ := h₆
    refine wpAny_bind (wpAny_standAt (wpAny_holding ?_))
    refine wpAny_bind (ht _ (wpAny_bind (hb _ ?_)))
    refine wpAny_bind ?_
    unfold withItem.marked
    refine wpAny_bind (wpAny_run (codeAny_mono hc fun r s' hr => ?_) (fun z => hnb (Option.some.inj z)))
    cases r with
    | error e => exact hr.elim
    | ok fl =>
      cases fl with
      | ret v =>
        cases v with
        | none =>
          refine wpAny_pure (wpAny_bind (wpAny_pure ?_))
          refine wpAny_bind (wpAny_pure ?_)
          rw [if_neg Bool.false_ne_true]
          exact hr
        | _ => exact hr.elim
      | _ => exact hr.elim
end
end PySem.W
namespace M3
open PySem PySem.Spec PyProof.Rows L2 PySem.W
/-- a class whose instances a with takes: its __enter__ and __exit__ -/
structure WithC (K : PySem.W.Frag) (C fe fx : Addr) : Prop where
  en : PySem.W.findIn K (.ref C) "__enter__" = some (some (.ref fe))
  ef : PySem.W.isFn K (.ref fe) = true
  ex : PySem.W.findIn K (.ref C) "__exit__" = some (some (.ref fx))
  xf : PySem.W.isFn K (.ref fx) = true
/-- what __exit__ is told of: the manager alone -/
def exitV (a : Addr) : List (Option V) := [some (.ref a), none, none, none]
section
variable {X : Cx} {k : Nat} {a fx : Addr} {fdx : FuncData} {psx : List Str} {spx : List (Option V) → Hp → VK → Prop} {pins : List (Addr × Obj)} {z : L2.St} {H : Hp} {s : Shared}
theorem exit_vals {u1 u2 u3 : Value} : ∀ (i : Nat) (v : V), (exitV a)[i]? = some (some v) → ∃ u, [Value.ref a, u1, u2, u3][i]? = some u ∧ L2.RelV v u
  | 0, v, e => by simp [exitV] at e; subst e; exact ⟨_, rfl, rfl⟩
  | 1, v, e => by simp [exitV] at e
  | 2, v, e => by simp [exitV] at e
  | 3, v, e => by simp [exitV] at e
  | n + 4, v, e => by simp [exitV] at e
/-- __exit__ where nothing was raised -/
theorem exit_ok {Q : VK} (F : FnQ X.prog X.w X.K X.mg X.base k fx fdx psx spx) (hr : RoomQ k X.A) (hb : Binds X.K fdx psx []) (hl : psx.length = 4) (I : Inv X pins z H s) (h : spx (exitV a) H Q) (u1 u2 u3 : Value) :
    codeAny (model X.prog X.w) X.A (.call (.ref fx) ⟨[.ref a, u1, u2, u3], []⟩) (fun r s' => match r with | .ok (.ret u) => EP X pins z Q u s' | _ => False) s := by
  have b := hb s [.ref a, u1, u2, u3] I.kIn (by simp [hl])
  rw [List.append_nil] at b
  refine codeAny_mono (F.run X.A X.stack s H ⟨[.ref a, u1, u2, u3], []⟩ [.ref a, u1, u2, u3] (exitV a) Q hr I.env0 b (by simp [hl]) (by simp [exitV, hl]) exit_vals h) fun r s' hq => ?_
  cases r with
  | error e => exact (show False from hq).elim
  | ok fl =>
    cases fl with
    | ret u => exact I.after hq
    | next => exact False.elim hq
    | brk => exact False.elim hq
    | cont => exact False.elim hq
/-- the exception meets the with: noted, __exit__ run, on it goes -/
theorem with_exc {D : Ends} {Wout : WX} {u : Value} {s' : Shared} (hs : X.stack = X.env :: X.outer) (hf : X.env.frame = some X.env.locals) (hex : X.ex = []) (ok : X.Ok) (tk : Takes X Wout)
    (F : FnQ X.prog X.w X.K X.mg X.base k fx fdx psx spx) (hr : RoomQ k X.A) (hb : Binds X.K fdx psx []) (hl : psx.length = 4) {xe : Value → Shared → Prop}
    (xx : XE (X.tr (X.pn ++ pins) xe) (fun cls d z H => spx (exitV a) H fun r H2 => r = .non ∧ Wout cls d z H2) u s') :
    wpAny (model X.prog X.w) X.A (noteFrame u X.env) (fun _ s₂ => wpAny (model X.prog X.w) X.A (setFlight u none) (fun _ s₃ => ExitOk X.prog X.w X.A X.xe X.env a fx (SP X pins D) u s₃) X.xe s₂) X.xe s' := by
  have hfr : X.A.frames = some (X.env :: X.outer) := by rw [ok.frames, hs]
  obtain ⟨e, B, sI, pins', σ', H', cls, d, rfl, J', nb, up, sky, na, os, ag, hw⟩ := xx
  have J : Inv X pins σ' H' sI := J'.ofTry ok
  have sky' : Sky B (X.env :: X.outer) e (Zc cls d) X.env.locals s'.heap := by rw [← hs]; exact sky
  refine L2.Sky.land Zc.steady hfr hf sky' fun h3 fl3 up3 => ?_
  have J3 : Inv X pins σ' H' { s' with heap := h3 } := J.landed nb fl3.1 (up.trans up3) os ag
  obtain ⟨k1, k2, k3, oe, vs, T, oT, ts, he3, hz, hd, hv1, hnT, hTe, hT, hdT, ht3⟩ := id fl3
  have nT : H' T = none := (J.inGround nb).gone hnT
  have notFr : ∀ (b : Addr) (o : Obj) (fv : Array Value), h3.get? b = some o → o.data = .fields fv → b ∉ frs (X.env :: X.outer) := fun b o fv e dd hm => by
    obtain ⟨_, o', e', hnf⟩ := k3.mem hm
    have eo : o = o' := Option.some.inj (e.symm.trans e')
    rw [← eo] at hnf
    exact hnf _ dd
  have fa := notFr e oe vs he3 hd
  have fT := notFr T oT ts hT hdT
  obtain ⟨t1, et1⟩ : ∃ x, ts[1]? = some x := by
    have := (Array.getElem?_eq_some_iff.mp ht3).1
    exact ⟨ts[1], Array.getElem?_eq_getElem (by omega)⟩
  refine ⟨cls, if t1 == .none then .none else .ref T, fun Q' q => wpAny_typeOf_ref he3 (by rw [hz.1]; exact q), fun Q' q => ?_, ref_ne_byPass e, ?_⟩
  · unfold tracebackOf
    refine wpAny_bind (wpAny_field he3 hd hv1 ?_)
    dsimp only
    refine wpAny_bind (wpAny_field hT hdT et1 ?_)
    by_cases hh : (t1 == Value.none) = true
    · rw [if_pos hh] at q ⊢
      exact wpAny_pure q
    · rw [if_neg hh] at q ⊢
      first
        | exact wpAny_pure q
        | exact wpAny_bind (wpAny_pure (wpAny_pure q))
  have bnd := hb ({ s' with heap := h3 } : Shared) [.ref a, cls, .ref e, if t1 == .none then .none else .ref T] J3.kIn (by simp [hl])
  rw [List.append_nil] at bnd
  have e0 : Env0 X.prog X.w X.K X.mg X.base (X.A.mark (some (.ref e))) X.stack { s' with heap := h3 } H' := by
    obtain ⟨q1, q2, q3, q4, q5, q6, q7, q8⟩ := J3.env0
    exact ⟨q1, q2, q3, q4, q5, q6, q7, q8⟩
  refine codeAny_mono (F.run (X.A.mark (some (.ref e))) X.stack { s' with heap := h3 } H' ⟨[.ref a, cls, .ref e, _], []⟩ [.ref a, cls, .ref e, _] (exitV a) _ ⟨hr.dp, hr.un⟩ e0 bnd (by simp [hl]) (by simp [exitV, hl]) exit_vals hw) fun r s6 hq => ?_
  cases r with
  | error e => exact (show False from hq).elim
  | ok fl =>
  cases fl with
  | next => exact False.elim hq
  | brk => exact False.elim hq
  | cont => exact False.elim hq
  | ret uu =>
    obtain ⟨v6, H6, os6, bare6, un6, hok6, r6, ev6, q6⟩ := hq
    subst ev6
    obtain rfl : uu = Value.none := r6
    have J6 : Inv X pins σ' H6 s6 := J3.call' (ch := []) os6 un6 hok6 bare6 fun b z => by simp at z
    have fs2 : ∀ b, b ∉ frs (X.env :: X.outer) → b ∉ frs X.stack := fun b h => by rw [hs]; exact h
    have ga : s6.heap.get? e = some oe := un6.keep e oe he3 na (fs2 _ fa) (by simp)
    have gT : s6.heap.get? T = some oT := un6.keep T oT hT nT (fs2 _ fT) (by simp)
    have na6 : H6 e = none := un6.free e oe he3 na (by simp)
    have nT6 : H6 T = none := un6.free T oT hT nT (by simp)
    have far : ∀ b o, sI.heap.get? b = some o → b ≠ e ∧ b ≠ T := fun b o eb => by
      by_cases hb : b ∈ frs X.stack
      · rw [hs] at hb
        exact ⟨fun z => fa (by rw [← z]; exact hb), fun z => fT (by rw [← z]; exact hb)⟩
      · have q := nb b o eb hb
        exact ⟨fun z => by rw [z, k2] at q; exact (nomatch q), fun z => by rw [z, hnT] at q; cases q⟩
    have far0 : ∀ b o, X.s_0.heap.get? b = some o → b ≠ e ∧ b ≠ T := fun b o eb => by
      obtain ⟨o', q⟩ := J.base.there b o eb (by rw [hex]; simp)
      exact far b o' q
    have farP : ∀ p ∈ X.pn ++ pins, p.1 ≠ e ∧ p.1 ≠ T := fun p hp => far p.1 p.2 (J.pin p hp).1
    obtain ⟨G, g1, g2⟩ := restrict s6.heap fun b => !(decide (b = e) || decide (b = T))
    have gIn : ∀ b o, G.get? b = some o → s6.heap.get? b = some o ∧ b ≠ e ∧ b ≠ T := fun b o eb => by
      cases q : (!(decide (b = e) || decide (b = T))) with
      | false => rw [g2 b q] at eb; cases eb
      | true =>
        rw [g1 b q] at eb
        simp only [Bool.not_eq_true', Bool.or_eq_false_iff, decide_eq_false_iff_not] at q
        exact ⟨eb, q.1, q.2⟩
    have gOf : ∀ b o, b ≠ e → b ≠ T → s6.heap.get? b = some o → G.get? b = some o := fun b o h1 h2 eb => by
      rw [g1 b (by simp [h1, h2])]
      exact eb
    have I6 : Inv X pins σ' H6 { s6 with heap := G } := J6.less (fun b o eb => (gIn b o eb).1) gOf ⟨oe, vs, ga, hd⟩ ⟨oT, ts, gT, hdT⟩ na6 nT6 far0 farP
    have B6in : ∀ b o, (PySem.W.hideAll G (frs X.stack)).get? b = some o → s6.heap.get? b = some o := fun b o eb => (gIn b o (PySem.W.of_hideAll _ eb)).1
    have Bno : ∀ b, (b = e ∨ b = T) → (PySem.W.hideAll G (frs X.stack)).get? b = none := fun b hb => by
      cases q : (PySem.W.hideAll G (frs X.stack)).get? b with
      | none => rfl
      | some o =>
        obtain ⟨_, n1, n2⟩ := gIn b o (PySem.W.of_hideAll _ q)
        rcases hb with z | z
        · exact absurd z n1
        · exact absurd z n2
    have fl6 : HandSPX.FlyingZ (PySem.W.hideAll G (frs X.stack)) (X.env :: X.outer) e (Zc cls d) s6.heap := by
      refine ⟨B6in, Bno e (.inl rfl), ?_, oe, vs, T, oT, ts, ga, hz, hd, hv1, Bno T (.inr rfl), hTe, gT, hdT, ht3⟩
      have ff := funFrames_none (B := PySem.W.hideAll G (frs X.stack)) J6.stack fun b hb => PySem.W.hideAll_none _ hb
      rw [← hs]
      exact ff
    show wpAny (model X.prog X.w) X.A (PySem.passOn "with" (.ref e) X.env) (SP X pins D) X.xe s6
    unfold PySem.passOn
    refine wpAny_bind (wpAny_field ga hd hv1 ?_)
    rw [if_neg (show ¬ ((Value.ref T == Value.none) = true) from by simp)]
    have goOn : wpAny (model X.prog X.w) X.A (setFlight (.ref e) X.env.frame) (fun _ s7 => wpAny (model X.prog X.w) X.A (throw (.ref e) : Sem Flow) (SP X pins D) X.xe s7) X.xe s6 := by
      rw [hf]
      refine HandSPX.setFlight_upZ fl6 fun h7 hh7 up7 => wpAny_throw (tk _ _ ?_)
      refine ⟨e, PySem.W.hideAll G (frs X.stack), { s6 with heap := G }, pins, σ', H6, cls, d, rfl, I6, fun b o eb hb => PySem.W.hideAll_get _ eb hb, ?_, .inr (.inr (by rw [← hs] at hh7; exact hh7)), na6, rfl, J6.bare, q6⟩
      exact Heap.UpToSlots.trans (Heap.UpToSlots.of_keeps fun b o eb => (gIn b o eb).1) up7
    first
      | exact wpAny_bind (wpAny_pure (wpAny_bind goOn))
      | exact wpAny_bind goOn
end
end M3
namespace M3
open PySem PySem.Spec PyProof.Rows L2 PySem.W
section
variable {X : Cx}
theorem ps_with {ctx : Expr} {body : List Stmt} {pos : Pos} {te : TE} {tb : WX → TS} {Wout : WX} (hs : X.stack = X.env :: X.outer) (hf : X.env.frame = some X.env.locals) (hex : X.ex = []) (tk : Takes X Wout) {j : Nat} (hr : Room j X.A)
    (he : PE X ctx te) (hb : ∀ (W : WX) (pn : List (Addr × Obj)) (xe : Value → Shared → Prop), Takes (X.tr pn xe) W → PassesOwn (model X.prog X.w) X.A X.env xe → PSs (X.tr pn xe) body (tb W)) :
    PS X (.With [⟨ctx, none⟩] body pos) (fun D z H => te z H fun x H1 => ∃ (a C dx : Addr) (fs : List (Str × V)) (fe fx : Addr) (fde fdx : FuncData) (pse psx : List Str) (k kx : Nat) (spe : Sp) (spx : List (Option V) → Hp → VK → Prop), x = .ref a ∧ H1 a = some (.ins C dx fs) ∧ WithC X.K C fe fx ∧
      FnOk X.prog X.w X.K X.mg X.base (L2.CX X.prog X.w) k fe fde pse spe ∧ Binds X.K fde pse [] ∧ k ≤ j ∧ FnQ X.prog X.w X.K X.mg X.base kx fx fdx psx spx ∧ Binds X.K fdx psx [] ∧ psx.length = 4 ∧ kx ≤ j ∧
      spe [.ref a] H1 (fun _ H2 => tb (fun cls d z' H' => spx (exitV a) H' fun r H3 => r = .non ∧ Wout cls d z' H3)
        { nx := fun z' H' => spx (exitV a) H' fun _ H3 => D.nx z' H3, rt := fun v H' => spx (exitV a) H' fun _ H3 => D.rt v H3, bk := fun z' H' => spx (exitV a) H' fun _ H3 => D.bk z' H3, ct := fun z' H' => spx (exitV a) H' fun _ H3 => D.ct z' H3 } z H2) (WE Wout z)) := by
  refine ⟨fun pins s z H D I h => ?_⟩
  have ok := I.ok
  refine kw_exec0 (thn (he.run pins s z H _ I h) fun u s1 ⟨x, H1, I1, rx, a, C, dx, fs, fe, fx, fde, fdx, pse, psx, k, kx, spe, spx, ex, ea, wc, F, hbe, hk, Fx, hbx, hlx, hkx, hsp⟩ => ?_)
  subst ex
  obtain rfl : u = Value.ref a := rx
  obtain ⟨mA, O, _, _, _, _⟩ := ins_get I1.hok ea
  obtain ⟨od, IA, _⟩ := O.look
  have hq := (L2H.roomH_of (hr.mono hkx))
  unfold KwIn
  refine kw_coreE (EE := fun e s₁ => wpAny (model X.prog X.w) X.A (noteFrame e X.env) (fun _ s₂ => wpAny (model X.prog X.w) X.A (setFlight e none) (fun _ s₃ => ExitOk X.prog X.w X.A X.xe X.env a fx (SP X pins D) e s₃) X.xe s₂) X.xe s₁) I1.kIn IA wc.en wc.ef wc.ex wc.xf ?_ (fun e s4 z => z)
  refine thn (run_fnS (us := [.ref a]) (vs := [.ref a]) F (hr.mono hk) hbe (E := WE Wout) (fun pins H s e s' I c => passAt tk z pins H s e s' I c) I1 (.cons rfl .nil) hsp) fun v s2 ⟨_, H2, I2, _, q2⟩ => ?_
  refine wpAny_mono ((hb _ (X.pn ++ pins) _ (fun u s' xx => with_exc hs hf hex ok tk Fx hq hbx hlx xx) PassesOwn.looking).run [] s2 z H2 _ (I2.toTry _) q2) (fun f s4 hsp => ?_) fun e s4 z => z
  -- __exit__ behind the body
  have fin : ∀ {z' : L2.St} {H' : Hp} {Q : VK}, Inv X pins z' H' s4 → spx (exitV a) H' Q → wpAny (model X.prog X.w) X.A (call (.ref fx) [.ref a, .none, .none, .none]) (EP X pins z' Q) X.xe s4 := fun {z' H' Q} J q =>
    wpAny_call (codeAny_mono (exit_ok Fx hq hbx hlx J q .none .none .none) fun r s' hr => by
      cases r with
      | error e => exact hr.elim
      | ok fl => cases fl <;> first | exact hr | exact hr.elim)
  cases f with
  | next =>
    obtain ⟨z', H', J, q⟩ := hsp
    exact thn (fin (J.ofTry ok) q) fun _ s5 ⟨_, H3, J3, _, q3⟩ => ⟨z', H3, J3, q3⟩
  | brk =>
    obtain ⟨z', H', J, q⟩ := hsp
    exact thn (fin (J.ofTry ok) q) fun _ s5 ⟨_, H3, J3, _, q3⟩ => ⟨z', H3, J3, q3⟩
  | cont =>
    obtain ⟨z', H', J, q⟩ := hsp
    exact thn (fin (J.ofTry ok) q) fun _ s5 ⟨_, H3, J3, _, q3⟩ => ⟨z', H3, J3, q3⟩
  | ret u =>
    obtain ⟨v, z', H', J, r, q⟩ := hsp
    exact thn (fin (J.ofTry ok) q) fun _ s5 ⟨_, H3, J3, _, q3⟩ => ⟨v, z', H3, J3, r, q3⟩
end
end M3
namespace M3
open PySem PySem.Spec PyProof.Rows L2 PySem.W
structure WithOk (Pg : Program) (w : World) (K : PySem.W.Frag) (mg : Str → Option Value) (base : Heap) (G : G3) (k : Nat) (c : String) (mfe mfx : List D → M D) : Prop where
  ex : ∃ C fe fx fde fdx pse psx, G.cls c = some C ∧ WithC K C fe fx ∧ Binds K fde pse [] ∧ FnOk Pg w K mg base (L2.CX Pg w) k fe fde pse (spM G 1 mfe) ∧ Binds K fdx psx [] ∧ psx.length = 4 ∧ FnQ Pg w K mg base k fx fdx psx (spQ G 4 mfx)
/-- behind the body: __exit__, then as the body ended -/
def sExit (mfx : List D → M D) (k : Nat) : SRes → SRes
  | .nx u st => match mfx [.ref k] st with
    | .ok _ st' => .nx u st'
    | _ => .bad
  | .rt (.val d) st => match mfx [.ref k] st with
    | .ok _ st' => .rt (.val d) st'
    | _ => .bad
  | .err c x u st => match mfx [.ref k] st with
    | .ok .non st' => .err c x u st'
    | _ => .bad
  | _ => .bad
def sWith (c : String) (mfe mfx : List D → M D) (me : EM) (mb : SM) : SM := fun u st => match M.bind (me u) (fun w => M.bind (insOf w) fun q => M.bind (M.chk (q.2.1 = c)) fun _ => M.bind (mfe [.ref q.1]) fun _ => M.pure q.1) st with
  | .ok k st' => sExit mfx k (mb u st')
  | .err c x st' => .err c x u st'
  | .bad => .bad
section
variable {P : P3} {pos : Pos}
theorem ms_with {c : String} {ctx : Expr} {body : List Stmt} {me : EM} {mb : SM} {mfe mfx : List D → M D} {k j : Nat} (h : WithOk P.X.prog P.X.w P.X.K P.X.mg P.X.base P.G k c mfe mfx) (hs : P.X.stack = P.X.env :: P.X.outer) (hf : P.X.env.frame = some P.X.env.locals) (hex : P.X.ex = []) (tk : Takes P.X P.wx) (hr : Room j P.X.A) (hk : k ≤ j)
    (he : ME P ctx me) (hb : ∀ (W : WX) (pn : List (Addr × Obj)) (xe : Value → Shared → Prop), Takes (P.X.tr pn xe) W → PassesOwn (model P.X.prog P.X.w) P.X.A P.X.env xe → MSs (P.tr pn xe W) body mb) : MS P (.With [⟨ctx, none⟩] body pos) (sWith c mfe mfx me mb) := by
  obtain ⟨C, fe, fx, fde, fdx, pse, psx, gc, wc, bE, FE, bX, lX, FX⟩ := h.ex
  obtain ⟨t, pt, ht⟩ := he.out
  refine MS.mk' (ps_with (tb := fun W => tS P.G P.hx W mb) hs hf hex tk hr pt fun W pn xe tk' ow => (hb W pn xe tk' ow).pss) fun B0 B s o u z Dn b0 wd sl h => ht B0 B s o u z _ wd sl ?_
  unfold sWith at h
  unfold M.bind at h
  cases em : me u o with
  | bad => rw [em] at h; exact h
  | err c x st' => rw [em] at h; exact fun s' cv dd l w q => h B s' z cv dd b0 (l.less b0) w (sl.mono' l) q
  | ok w0 st1 =>
    rw [em] at h
    intro s1 v l1 wd1 r1
    have h := PostS.mono (l1.less b0) h
    dsimp only at h
    cases ei : insOf w0 st1 with
    | bad => simp only [ei] at h; exact h.elim
    | err c' x st' =>
      exfalso
      unfold insOf at ei
      split at ei
      · split at ei <;> cases ei
      · cases ei
    | ok q st2 =>
      obtain ⟨rfl, rfl, ek⟩ := ins_of ei
      simp only [ei] at h
      by_cases hc : q.2.1 = c
      · simp only [M.chk, hc, if_true] at h
        have r1 : Rep P.G.R s1.F s1.io (.ref q.1) v := r1
        cases r1 with
        | ref eio =>
          obtain ⟨a, e1, nb, hF, C', dx, gs, ec, eh, rf⟩ := wd1.obj _ _ ek rfl
          rw [eio] at e1
          cases e1
          rw [hc, gc] at ec
          cases ec
          refine ⟨_, _, dx, gs, fe, fx, fde, fdx, pse, psx, k, k, _, spQ P.G 4 mfx, rfl, eh, wc, FE, bE, hk, FX, bX, lX, hk, ?_⟩
          refine ⟨rfl, B, s1, st2, [.ref q.1], rfl, wd1, .cons (.ref eio) .nil, ?_⟩
          cases en : mfe [.ref q.1] st2 with
          | bad => simp only [en] at h; exact h.elim
          | err c' x st' => simp only [en] at h; exact fun s' cv dd l w q => h B s' z cv dd b0 (l.less b0) w ((sl.mono' l1).mono' l) q
          | ok d2 st3 =>
            simp only [en, M.pure] at h
            intro s2 v2 l2 wd2 _
            have h := PostS.mono (l2.less b0) h
            have eio2 := l2.io _ _ eio
            refine ⟨B0, B, s2, st3, u, rfl, b0, wd2, (sl.mono' l1).mono' l2, ?_⟩
            have exit : ∀ {aa : Addr} {B' : Addr → Prop} {st' : Store} {s' : S3} {Q : VK}, Wd P.G B' st' s' → s'.io q.1 = some aa → Post P.G B' (fun s d v => Rep P.G.R s.F s.io d v) C8.E0 s' Q (mfx [.ref q.1] st') → spQ P.G 4 mfx (exitV aa) s'.H Q := fun {aa B' st' s' Q} w e p =>
              ⟨[.ref aa], B', s', st', [.ref q.1], rfl, rfl, w, .cons (.ref e) .nil, p⟩
            cases eb : mb u st3 with
            | bk u' st' => rw [eb] at h; exact h.elim
            | ct u' st' => rw [eb] at h; exact h.elim
            | bad => rw [eb] at h; exact h.elim
            | nx u' st' =>
              rw [eb] at h
              intro B' s' z' bb l' w' sl'
              refine exit w' (l'.io _ _ eio2) ?_
              unfold sExit at h
              dsimp only at h
              cases ex : mfx [.ref q.1] st' with
              | bad => rw [ex] at h; exact h.elim
              | err c' x st4 => rw [ex] at h; exact h.elim
              | ok d st4 =>
                rw [ex] at h
                exact fun s4 v4 l4 w4 _ => h B' s4 z' bb (l'.trans (l4.less bb)) w4 (sl'.mono' l4)
            | rt w st' =>
              rw [eb] at h
              cases w with
              | val d =>
                intro B' s' v' bb l' w' r'
                refine exit w' (l'.io _ _ eio2) ?_
                unfold sExit at h
                dsimp only at h
                cases ex : mfx [.ref q.1] st' with
                | bad => rw [ex] at h; exact h.elim
                | err c' x st4 => rw [ex] at h; exact h.elim
                | ok d' st4 =>
                  rw [ex] at h
                  have r' : Rep P.G.R s'.F s'.io d v' := r'
                  exact fun s4 v4 l4 w4 _ => h B' s4 v' bb (l'.trans (l4.less bb)) w4 (r'.mono l4.fr l4.io)
              | _ => exact h.elim
            | err c' x u' st' =>
              rw [eb] at h
              intro B' s' z' cv dd bb l' w' sl' xr
              refine exit w' (l'.io _ _ eio2) ?_
              unfold sExit at h
              dsimp only at h
              cases ex : mfx [.ref q.1] st' with
              | bad => rw [ex] at h; exact h.elim
              | err c' x st4 => rw [ex] at h; exact h.elim
              | ok d' st4 =>
                rw [ex] at h
                cases d' with
                | non =>
                  intro s4 v4 l4 w4 r4
                  cases r4
                  refine ⟨rfl, h B' s4 z' cv dd bb (l'.trans (l4.less bb)) w4 (sl'.mono' l4) ?_⟩
                  unfold ExR at xr ⊢
                  split at xr
                  · exact xr
                  · rename_i C hcl
                    refine ⟨xr.1, ?_⟩
                    have x2 := xr.2
                    split at x2
                    · exact x2
                    · obtain ⟨dd', fs, v, y1, y2, y3, y4⟩ := x2
                      exact ⟨dd', fs, v, y1, l4.fr _ _ y2, y3, y4.mono l4.fr l4.io⟩
                | _ => exact h.elim
      · simp only [M.chk, hc, if_false] at h
        exact h.elim
end
end M3


/-! defs whose cells are captured; the end with tables -/
namespace M3
open PySem PySem.Spec PyProof.Rows L2 LamX NdefX
theorem TabB.over {b0 b : Heap} {mg : Str → Option Value} {c P : Addr} (t : TabB b0 mg c P) (h : Over b0 b) : TabB b mg c P := ⟨t.code.keeps h, t.bm.keeps h, t.gP⟩
/-- the store as the callers have it -/
def ownFix {α : Type} (m : List D → M α) : List D → M α := fun ds st => match m ds st with
  | .ok d st' => .ok d (st'.map MO.nap)
  | .err c x st' => .err c x (st'.map MO.nap)
  | .bad => .bad
def mfnC (N : Nat) (mb : SM) : List D → M D := ownFix (mfn N mb)
section
variable {G : G3} {b : Heap} {w : Nat → Option Addr} {B : Addr → Prop} {st : Store} {s : S3}
theorem Wd.owned (h : Wd (G.at b) B st s) : Wd ((G.at b).owning w) B st s := by
  refine ⟨h.sub, h.hid, h.ftb, h.dom, h.inj, fun k o e t => ?_, fun k o e t => ?_, h.tabs⟩
  · obtain ⟨a, e1, b1, f1, x⟩ := h.obj k o e t
    refine ⟨a, e1, b1, f1, ?_⟩
    cases o <;> exact x
  · obtain ⟨a, e1, x⟩ := h.unt k o e t
    refine ⟨a, e1, ?_⟩
    cases o with
    | slp i => have x : (G.at b).own i = some a := x; cases x
    | _ => exact x
theorem Wd.disown (h : Wd ((G.at b).owning w) B st s) : Wd (G.at b) B (st.map MO.nap) s := Wd.nap (G := (G.at b).owning w) (KnowsTo.refl _) h
theorem body_postC {wx : WX} {o : Store} {u : Sl3} {Q : VK} {E : XK} {mb : SM} {N : Nat} {ds : List D} (hwx : wx = fun cls d _ H => E cls d H) (hu : u = ds.map (fun d => some (.val d)) ++ List.replicate (N - ds.length) none)
    (hp : Post (G.at b) B (fun s d v => Rep (G.at b).R s.F s.io d v) E s Q (mfnC N mb ds o)) : PostS ((G.at b).owning w) none wx B s { nx := fun _ H' => Q .non H', rt := Q } (mb u o) := by
  subst hwx hu
  unfold mfnC ownFix mfn at hp
  cases em : mb (ds.map (fun d => some (.val d)) ++ List.replicate (N - ds.length) none) o with
  | nx u' st' => rw [em] at hp; exact fun B' s' z' b l w sl => hp s' .non l (Wd.disown (w.less b)) .non
  | rt w st' =>
    rw [em] at hp
    cases w with
    | val d => exact fun B' s' v b l w r => hp s' v l (Wd.disown (w.less b)) r
    | bor xs =>
      rintro B' s' v b l w ⟨p, vs', rfl, bp, nb, hq, r⟩
      have w' : Wd _ (plus B p) st' s' := w.less fun a q => q.elim (b a) fun z => z ▸ bp
      exact hp ⟨s'.io, upd s'.F p (.lst vs'), s'.H⟩ (.ref p) (l.trans (freeze_le w')) (Wd.disown (freeze_wd w' nb hq)) (.lst upd_same (r.mono (freeze_le w').fr (freeze_le w').io))
    | bod ks us => exact hp.elim
    | bdd ks us => exact hp.elim
    | exn c x => exact hp.elim
    | len xs => exact hp.elim
  | bk u' st' => rw [em] at hp; exact hp.elim
  | ct u' st' => rw [em] at hp; exact hp.elim
  | err c x u' st' => rw [em] at hp; exact fun B' s' z' cv dd b l w sl q => hp s' cv dd l (Wd.disown (w.less b)) q
  | bad => rw [em] at hp; exact hp.elim
end
section
variable {P : Program} {w : World} {K : PySem.W.Frag} {mg : Str → Option Value} {base : Heap}
theorem fn_okC {G : G3} (hK : K = G.K) (hw : w = G.w) {x qual : Str} {st : Stmt} {f : Addr} {c : Addr} {fd : FuncData} {N ps : List Str} {k : Nat} {mb : SM} (F : Fun K x qual st f fd) (hc : fd.code = .ref c) (S : FnScope N ps (defScope st))
    (h : ∀ (A : Around) (outer : List Env) (s : Shared) (H : Hp) (E : XK), Room k (A.deeper (envOfC qual (defScope st) s.heap.objs.size f (.ref c))) →
      MSs ⟨cxOf (L2.CX P w) P w K mg base N qual (defScope st) f (.ref c) A outer s H E, (G.at base).owning (ownOf N (defScope st) (envOfC qual (defScope st) s.heap.objs.size f (.ref c)).cells), none, fun cls d _ H => E cls d H, hK, hw⟩ (defBody st) mb) :
    FnOk P w K mg base (L2.CX P w) (k + 1) f fd ps (spM (G.at base) ps.length (mfnC N.length mb)) := by
  obtain ⟨oc, od, kV, doc, pm, an, cdv, ct, osl, rfl, lk, hcd⟩ := F.ex
  obtain rfl : cdv = .ref c := hc
  refine fn_of lk hcd S (fun vs H Q E h => h.1) fun A outer s0 H vs Q E hr ⟨hl, B, s, o, ds, e, wd, rl, hp⟩ => ?_
  subst e
  obtain ⟨t, pt, ht⟩ := (h A outer s0 s.H E hr).out
  exact ⟨t, pt, ht B B s o _ _ _ (fun _ b => b) wd.owned (slo_start (N := N) rl) (body_postC rfl rfl hp)⟩
end
/-! ### what a frame with captured cells calls -/
section
variable {Pg : Program} {w : World} {K : PySem.W.Frag} {mg : Str → Option Value} {base b : Heap} {G : G3} {k n : Nat} {x f : Str} {c : String} {m : List D → M D} {dd : List D}
theorem CalW.nap {m : List M3.W → M D} (h : CalW Pg w K mg base (G.at b) k x n m) (hb : KnowsTo G.base b) : CalW Pg w K mg base G k x n (M3.nap m) := by
  obtain ⟨f, fd, ps, a1, a2, a3, a4, F⟩ := h.ex
  exact ⟨f, fd, ps, a1, a2, a3, a4, F.imp fun _ _ _ _ h => spMW_nap hb h⟩
theorem CalD.nap (h : CalD Pg w K mg base (G.at b) k x n dd m) (hb : KnowsTo G.base b) : CalD Pg w K mg base G k x n dd (M3.nap m) := by
  obtain ⟨f, fd, ps, dvs, dsv, a1, a2, a3, a4, a5, F⟩ := h.ex
  exact ⟨f, fd, ps, dvs, dsv, a1, a2, a3, a4, a5, F.imp fun _ _ _ _ h => spM_nap hb h⟩
theorem MkOk3.nap (h : MkOk3 Pg w K mg base (G.at b) k x c n dd m) (hb : KnowsTo G.base b) : MkOk3 Pg w K mg base G k x c n dd (M3.nap m) := by
  obtain ⟨C, f, fd, ps, dvs, dsv, a1, a2, a3, a4, a5, a6, F⟩ := h.ex
  exact ⟨C, f, fd, ps, dvs, dsv, a1, a2, a3, a4, a5, a6, F.imp fun _ _ _ _ h => spM_nap hb h⟩
theorem MkOkK.nap {ks : List Str} {arr : List D → List D → List D} {N : Nat} (h : MkOkK Pg w K mg base (G.at b) k x c n ks arr N m) (hb : KnowsTo G.base b) : MkOkK Pg w K mg base G k x c n ks arr N (M3.nap m) := by
  obtain ⟨C, f, fd, ps, g, gV, hV, a1, a2, a3, a4, a5, a6, a7, F⟩ := h.ex
  exact ⟨C, f, fd, ps, g, gV, hV, a1, a2, a3, a4, a5, a6, a7, F.imp fun _ _ _ _ h => spM_nap hb h⟩
theorem MthOk.nap (h : MthOk Pg w K mg base (G.at b) k x n c m) (hb : KnowsTo G.base b) : MthOk Pg w K mg base G k x n c (M3.nap m) := by
  obtain ⟨C, f, fd, ps, a1, a2, a3, a4, F⟩ := h.ex
  exact ⟨C, f, fd, ps, a1, a2, a3, a4, F.imp fun _ _ _ _ h => spM_nap hb h⟩
theorem PropOk.nap (h : PropOk Pg w K mg base (G.at b) k f c m) (hb : KnowsTo G.base b) : PropOk Pg w K mg base G k f c (M3.nap m) := by
  obtain ⟨C, p, g, fd, ps, a1, a2, a3, a4, F⟩ := h.ex
  exact ⟨C, p, g, fd, ps, a1, a2, a3, a4, F.imp fun _ _ _ _ h => spM_nap hb h⟩
theorem PropOkL.nap {m : List D → M (List D)} (h : PropOkL Pg w K mg base (G.at b) k f c m) (hb : KnowsTo G.base b) : PropOkL Pg w K mg base G k f c (M3.nap m) := by
  obtain ⟨C, p, g, fd, ps, a1, a2, a3, a4, F⟩ := h.ex
  exact ⟨C, p, g, fd, ps, a1, a2, a3, a4, F.imp fun _ _ _ _ h => spML_nap hb h⟩
theorem XcOk.nap (h : XcOk Pg w K mg base (G.at b) k x c) : XcOk Pg w K mg base G k x c := h.1.elim fun C ⟨D, f, fd, ps, fld, h⟩ => ⟨C, D, f, fd, ps, fld, h⟩
theorem FldOk.sw {w : Nat → Option Addr} (h : FldOk K G c f) : FldOk K ((G.at b).owning w) c f := ⟨h.ex⟩
theorem FnQ.mono {P : Program} {j : Nat} {g : Addr} {fd : FuncData} {ps : List Str} {sp : List (Option V) → Hp → VK → Prop} (F : FnQ P w K mg base j g fd ps sp) (h : j ≤ k) : FnQ P w K mg base k g fd ps sp :=
  ⟨fun A outer s H args us ws Q hr => F.run A outer s H args us ws Q (hr.mono h)⟩
section
variable {w' : Nat → Option Addr}
theorem Cal.ow (h : Cal Pg w K mg base (G.at base) k x n m) : Cal Pg w K mg base ((G.at base).owning w') k x n (M3.nap m) := Cal.nap (G := (G.at base).owning w') (b := base) h (KnowsTo.refl _)
theorem CalW.ow {m : List M3.W → M D} (h : CalW Pg w K mg base (G.at base) k x n m) : CalW Pg w K mg base ((G.at base).owning w') k x n (M3.nap m) := CalW.nap (G := (G.at base).owning w') (b := base) h (KnowsTo.refl _)
theorem CalD.ow (h : CalD Pg w K mg base (G.at base) k x n dd m) : CalD Pg w K mg base ((G.at base).owning w') k x n dd (M3.nap m) := CalD.nap (G := (G.at base).owning w') (b := base) h (KnowsTo.refl _)
theorem MkOk3.ow (h : MkOk3 Pg w K mg base (G.at base) k x c n dd m) : MkOk3 Pg w K mg base ((G.at base).owning w') k x c n dd (M3.nap m) := MkOk3.nap (G := (G.at base).owning w') (b := base) h (KnowsTo.refl _)
theorem MkOkK.ow {ks : List Str} {arr : List D → List D → List D} {N : Nat} (h : MkOkK Pg w K mg base (G.at base) k x c n ks arr N m) : MkOkK Pg w K mg base ((G.at base).owning w') k x c n ks arr N (M3.nap m) := MkOkK.nap (G := (G.at base).owning w') (b := base) h (KnowsTo.refl _)
theorem MthOk.ow (h : MthOk Pg w K mg base (G.at base) k x n c m) : MthOk Pg w K mg base ((G.at base).owning w') k x n c (M3.nap m) := MthOk.nap (G := (G.at base).owning w') (b := base) h (KnowsTo.refl _)
theorem PropOk.ow (h : PropOk Pg w K mg base (G.at base) k f c m) : PropOk Pg w K mg base ((G.at base).owning w') k f c (M3.nap m) := PropOk.nap (G := (G.at base).owning w') (b := base) h (KnowsTo.refl _)
theorem PropOkL.ow {m : List D → M (List D)} (h : PropOkL Pg w K mg base (G.at base) k f c m) : PropOkL Pg w K mg base ((G.at base).owning w') k f c (M3.nap m) := PropOkL.nap (G := (G.at base).owning w') (b := base) h (KnowsTo.refl _)
theorem CalR.ow (h : CalR Pg w K mg base (G.at base) k x m) : CalR Pg w K mg base ((G.at base).owning w') k x (M3.nap m) := CalR.nap (G := (G.at base).owning w') (b := base) h (KnowsTo.refl _)
theorem MthR.ow (h : MthR Pg w K mg base (G.at base) k x c m) : MthR Pg w K mg base ((G.at base).owning w') k x c (M3.nap m) := MthR.nap (G := (G.at base).owning w') (b := base) h (KnowsTo.refl _)
end
end
/-! ### a def that holds lambdas: its code object, its table -/
structure OwnT (G : G3) (mg : Str → Option Value) (base : Heap) (c T : Addr) (q : Str) : Prop where
  tb : TabB base mg c T
  m : (T, fun _ _ => q) ∈ G.tabs
  u : ∀ p ∈ G.tabs, p.1 = T → p.2 = fun _ _ => q
def stB (i : Nat) : Stmt → Stmt
  | .FunctionDef _ _ b _ _ _ _ _ _ _ => b.getD i (.Pass ⟨0, 0, 0, 0⟩)
  | .For _ _ b _ _ => b.getD i (.Pass ⟨0, 0, 0, 0⟩)
  | .While _ b _ _ => b.getD i (.Pass ⟨0, 0, 0, 0⟩)
  | .If _ b _ _ => b.getD i (.Pass ⟨0, 0, 0, 0⟩)
  | .With _ b _ => b.getD i (.Pass ⟨0, 0, 0, 0⟩)
  | .Try b _ _ _ _ => b.getD i (.Pass ⟨0, 0, 0, 0⟩)
  | s => s
def stO (i : Nat) : Stmt → Stmt
  | .If _ _ b _ => b.getD i (.Pass ⟨0, 0, 0, 0⟩)
  | s => s
def noE : Expr := .Tuple [] 0 ⟨0, 0, 0, 0⟩
def stE : Stmt → Expr
  | .Assign _ e _ => e
  | .Return (some e) _ => e
  | .Expr e _ => e
  | _ => noE
def exA (i : Nat) : Expr → Expr
  | .Call _ es _ _ => es.getD i noE
  | _ => noE
def exL (i : Nat) : Expr → Expr
  | .List es _ => es.getD i noE
  | .Tuple es _ _ => es.getD i noE
  | _ => noE
def lamP : Expr → Arguments
  | .Lambda a _ _ _ => a
  | _ => defArgs (.Pass ⟨0, 0, 0, 0⟩)
def lamB : Expr → Expr
  | .Lambda _ b _ _ => b
  | _ => noE
def lamS : Expr → Scope
  | .Lambda _ _ s _ => s
  | _ => defScope (.Pass ⟨0, 0, 0, 0⟩)
/-! ### the end -/
open PySem.W PySem.Calls in
theorem walk3T {l : OpenLaw} {n k : Nat} {q : Program} {loose : List Str} {XP : (Str → Option Value) → Heap → Prop} {YP : World → Heap → Prop} {d : DefRec} {K : Params → Frag} {x : Str} {m : List D → M D} (tn : List Str)
    (hn : l.most = some n) (hn2 : n ≤ sizeLine) (hdf : d.params.defaults = []) (hr : L2.Room k callerA) (hY : ∀ (w : World) (h : Heap), YP w h → (K w.params).In h) (htn : ∀ y ∈ tn, ((recsOf q).find? fun e => e.name == y).isSome = true)
    (F : ∀ (w : World) (mg : Str → Option Value) (fa : Addr) (h : Heap), (K w.params).In h → h.Ns mainGlobals mg → mg d.name = some (.ref fa) → ∃ (G : G3) (fd : FuncData) (cs : List (Addr × Addr)), G.K = K w.params ∧
        (∀ p ∈ cs, (K w.params).lookup p.2 = none ∧ ∃ y ∈ tn, tabIn (K w.params) y = some p) ∧ (∀ p ∈ G.tabs, ∃ c, (c, p.1) ∈ cs) ∧ (∀ (s : Shared) (u : Value), BindsTo s fd ⟨[u], []⟩ [(x, u)]) ∧
        ∀ base : Heap, (K w.params).In base → base.Ns mainGlobals mg → (∀ p ∈ cs, TabB base mg p.1 p.2) → L2.FnOk l.prog w (K w.params) mg base (L2.CX l.prog w) k fa fd [x] (spM (G.at base) 1 m))
    (hm : ∀ ns : List Int, ns.length ≤ n → (∀ i ∈ ns, i.natAbs.log2 ≤ 1048576) → ∃ st, m [.ro (ns.map .int)] [] = .ok (.bl true) st) : WalkO q loose XP YP l.row.toRowW d [] (fun f vs => PySem.call f vs) := by
  intro w s₀ s₁ mg mb Gr Y fa o pm cd doc dV kV ho hd hcd hD hmg hg args vals as hpre hlay hrd hwl hlo
  cases Dflts.none hD hdf
  cases Dflts.noKw hD
  obtain ⟨a, vs, ns, rfl, rfl, hobj, hints, hlen⟩ := Att.script_of hn hpre hwl
  have KX := hY w _ Y
  obtain ⟨G, fd, cs, hK, hcs, hTG, hb, hF⟩ := F w mg fa _ KX Gr.T.g hmg
  obtain ⟨st, hst⟩ := hm ns hlen (bits_of hlay)
  have hT : ∀ p ∈ cs, CodeHd s₁.heap p.1 p.2 ∧ s₁.heap.get? p.2 = some (tabObj #[]) := fun p hp => by
    obtain ⟨_, y, hy, e⟩ := hcs p hp
    obtain ⟨dr, er⟩ := Option.isSome_iff_exists.mp (htn y hy)
    exact tab_of Gr.T KX er e
  refine enter_call (codeAny_mono (LamX.law_callTs (CX := L2.CX l.prog w) (cs := cs) KX Gr.T.g Gr.T.b Gr.T.builtins Gr.T.nolimit hg (fun p hp => (hT p hp).2) (fun p hp => (hcs p hp).1) (fun p hp => (hT p hp).1) Gr.T.bmain hobj hints (Nat.le_trans hlen hn2) hr (sp := fun vs H Q E => ∀ b, spM (G.at b) 1 m vs H Q E) (fun base i1 i2 i3 => (hF base i1 i2 i3).imp fun _ _ _ _ h => h base) hb (fun H hO hS => ?_) fun H e s' hq => ?_) fun r s' hq => ?_)
  · intro bb
    refine ⟨rfl, fun _ => False, ⟨fun _ => none, fun b => match H b with | some (.tbl _) => none | o => o, H⟩, [], [.ro (ns.map .int)], rfl, ⟨fun b o e => ?_, fun _ z => z.elim, (fun b o e ps q => ?_), (fun _ _ z => nomatch z), (fun _ _ _ _ _ z => nomatch z), (fun _ _ z => nomatch z), (fun _ _ z => nomatch z), fun p hp => ?_⟩,   .cons (Rep.ro (vs := ns.map V.int) ?_ ?_) .nil, ?_⟩
    · dsimp only at e
      split at e
      · cases e
      · exact e
    · dsimp only at e
      subst q
      split at e
      · cases e
      · rename_i q
        exact q _ e
    · obtain ⟨c, hc⟩ := hTG p hp
      exact ⟨#[], hO _ hc, trivial, fun pos cv z => by cases z⟩
    · show L2.SqL G.K _ _ _
      rw [hK]
      rcases hS with hS | hS
      · refine .inl (hS.imp (fun e => ?_) fun ⟨o, e⟩ => ⟨o, ?_⟩)
        · dsimp only
          rw [e]
        · dsimp only
          rw [e]
      · exact .inr hS
    · clear hst hobj hints hlen hS hlay hrd hwl hpre
      induction ns with
      | nil => exact .nil
      | cons i ns ih => exact .cons .int ih
    · rw [hst]
      intro s2 v l2 w2 r2
      cases r2
      rfl
  · obtain ⟨_, _, _, _, _, _, _, _, _, _, _, _, z⟩ := hq
    exact z
  · obtain ⟨rfl, h2, h3, h4⟩ := hq
    exact ⟨.inl ⟨.bool true, .bool true, [], rfl, fun _ => rfl, .bool true, Att.post_true l _, fun _ => ⟨List.Pairwise.nil, fun _ hm => (nomatch hm)⟩⟩, h2, h3, h4⟩
end M3
namespace M3
open PySem PySem.Spec PyProof.Rows L2 PySem.W
theorem tabIn_of {K : PySem.W.Frag} {x : Str} {f c T : Addr} {oc : Value} {od : Option Addr} {fd : FuncData} {sl : Array (Option Value)} {oc2 : Value} {od2 : Option Addr} {vs : Array Value} {sl2 : Array (Option Value)} (a : nsIn K mainGlobals x = some (some (.ref f))) (l : K.lookup f = some ⟨oc, od, .func fd, sl⟩)
    (hc : fd.code = .ref c) (lc : K.lookup c = some ⟨oc2, od2, .fields vs, sl2⟩) (hv : vs[11]? = some (.ref T)) : tabIn K x = some (c, T) := by
  unfold tabIn
  rw [a]
  dsimp only
  rw [l]
  dsimp only
  rw [hc]
  dsimp only
  rw [lc]
  dsimp only
  rw [hv]
end M3


/-! running what function values, frames with captured cells, star calls and with brought -/
namespace M3
open PySem L2
section
variable {α β γ : Type} {k : Res α → Prop} {kw : Res W → Prop} {kl : Res (List D) → Prop} {ks : SRes → Prop} {kd : Res D → Prop} {st : Store} {u : Sl3} {m a b mo m1 m2 : EM} {ma mk : AM} {g : GM} {tab : FnTab}
@[simp] theorem run_eCallV (n i : Nat) : run (eCallV n tab i ma u st) kw = kVar st (kBind (fun w => M.bind (M.of (fnOf w)) fun _ => M.bind (ma u) fun ws => M.bind (M.of (asDs ws)) fun ds => M.bind (fcall n tab w ds) fun d => M.pure (.val d)) kw) u[i]? := by
  rw [← run_eVar]
  exact run_bind _ _
@[simp] theorem run_eCallA (n : Nat) (cs : List String) (f : Str) : run (eCallA n tab cs f mo ma u st) kw = run (mo u st) (kBind (fun w => M.bind (insOf w) fun q => M.bind (M.chk (q.2.1 ∈ cs)) fun _ => M.bind (M.of (q.2.2.lookup f)) fun d => M.bind (M.of (fnOf (.val d))) fun _ =>
  M.bind (ma u) fun ws => M.bind (M.of (asDs ws)) fun ds => M.bind (fcall n tab (.val d) ds) fun d => M.pure (.val d)) kw) := run_bind _ _
@[simp] theorem fnOf_fn (c : String) (js : List Nat) : fnOf (.val (.fn c js)) = some (c, js) := rfl
@[simp] theorem run_fcall (n : Nat) (w : W) (ds : List D) : run (fcall n tab w ds st) kd = run (M.of (fnOf w) st) (kBind (fun q => M.bind (M.of (tab.lookup q.1)) fun mf => M.bind (M.chk (ds.length = n)) fun _ => mf q.2 ds) kd) := run_bind _ _
@[simp] theorem run_eLam (c : String) (js : List Nat) : run (eLam c js u st) kw = kw (.ok (.val (.fn c (List.range' st.length js.length))) (st ++ js.map .slp)) := rfl
@[simp] theorem run_capd (f : List D → M D) (js : List Nat) (ds : List D) : run (capd f js ds st) kd = run (capsM js st) (kBind (fun cs => f (ds ++ cs)) kd) := run_bind _ _
theorem run_capsM {js : List Nat} {cs : List D} (h : capsS st js = some cs) : run (capsM js st) kl = kl (.ok cs st) := by unfold run capsM; rw [h]
@[simp] theorem run_mfnE (N : Nat) (e : EM) (ds : List D) : run (mfnE N e ds st) kd = run (e (ds.map (fun d => some (.val d)) ++ List.replicate (N - ds.length) none) st) (kBind (fun w => M.of w.d) kd) := run_bind _ _
/-! calls from a frame with captured cells -/
def kBack (st : Store) (k : Res α → Prop) : Res α → Prop
  | .ok d st' => k (.ok d (back st st'))
  | .err c x st' => k (.err c x (back st st'))
  | .bad => k .bad
@[simp] theorem kBack_ok (d : α) (st') : kBack st k (.ok d st') = k (.ok d (back st st')) := rfl
@[simp] theorem kBack_err (c x st') : kBack st k (.err c x st') = k (.err c x (back st st')) := rfl
@[simp] theorem kBack_bad : kBack st k (.bad : Res α) = k .bad := rfl
@[simp] theorem run_nap (m : β → M α) (ds : β) : run (nap m ds st) k = run (m ds (st.map MO.nap)) (kBack st k) := by
  unfold run nap kBack
  cases m ds (st.map MO.nap) <;> rfl
@[simp] theorem run_lend (m : β → M α) (ds : β) : run (lend u m ds st) k = run (m ds (st.map (MO.lent u))) (kBack st k) := by
  unfold run lend kBack
  cases m ds (st.map (MO.lent u)) <;> rfl
@[simp] theorem run_eCallR (n : Nat) (f : List D → M D) : run (eCallR n f ma u st) kw = run (ma u st) (kBind (fun ws => M.bind (M.of (asDs ws)) fun ds => M.bind (M.chk (ds.length = n)) fun _ => M.bind (lend u f ds) fun d => M.pure (.val d)) kw) := run_bind _ _
def kOwn (k : Res α → Prop) : Res α → Prop
  | .ok d st' => k (.ok d (st'.map MO.nap))
  | .err c x st' => k (.err c x (st'.map MO.nap))
  | .bad => k .bad
@[simp] theorem kOwn_ok (d : α) (st') : kOwn k (.ok d st') = k (.ok d (st'.map MO.nap)) := rfl
@[simp] theorem kOwn_err (c x st') : kOwn k (.err c x st' : Res α) = k (.err c x (st'.map MO.nap)) := rfl
@[simp] theorem kOwn_bad : kOwn k (.bad : Res α) = k .bad := rfl
theorem run_mfnC (N : Nat) (mb : SM) (ds : List D) : run (mfnC N mb ds st) kd = run (mfn N mb ds st) (kOwn kd) := by
  unfold run mfnC ownFix kOwn
  cases mfn N mb ds st <;> rfl
/-! star -/
theorem run_mfnS (N np : Nat) (mb : SM) (ds : List D) : run (mfnS N np mb ds st) kd = if np ≤ ds.length ∧ ds.length - np ≤ 1000 then run (mfn N mb (ds.take np ++ [.ctup (ds.drop np)]) st) kd else kd .bad := by
  unfold run mfnS
  split <;> rfl
@[simp] theorem run_eMethRp (f : Str) (tb : List (String × (List D → M D))) : run (eMethRp f tb mo ma u st) kw = run (mo u st) (kBind (fun w => M.bind (insOf w) fun q => M.bind (M.chk (q.2.2.lookup f = none)) fun _ => M.bind (M.of (tb.lookup q.2.1)) fun mf =>
  M.bind (ma u) fun ws => M.bind (M.of (asDs ws)) fun ds => M.bind (mf (.ref q.1 :: ds)) fun d => M.pure (.val d)) kw) := run_bind _ _
@[simp] theorem run_eMethRs (X : Sl3 → (List D → M D) → List D → M D) (f : Str) (tb : List (String × (List D → M D))) : run (eMethRs X f tb mo m1 m2 u st) kw = run (mo u st) (kBind (fun w => M.bind (insOf w) fun q => M.bind (M.chk (q.2.2.lookup f = none)) fun _ => M.bind (M.of (tb.lookup q.2.1)) fun mf =>
  M.bind (m1 u) fun w1 => M.bind (M.of w1.d) fun d1 => M.bind (m2 u) fun w2 => M.bind (M.of (w2.d.bind D.items)) fun ds => M.bind (X u mf (.ref q.1 :: d1 :: ds)) fun d => M.pure (.val d)) kw) := run_bind _ _
@[simp] theorem lenF_ctup (xs : List D) : lenF [.val (.ctup xs)] = some (.val (.int xs.length)) := rfl
def kStar (g : GM) (i : Nat) (u : Sl3) (ks : SRes → Prop) : Res W → Prop
  | .ok w st' => match w with
    | .val (.ctup (x :: xs)) => if xs.length ≤ 1000 then kAsg2 st' ks ((g x u).map fun u' => u'.set i (some (.val (.lst xs)))) else ks .bad
    | .val (.tup (x :: xs)) => if xs.length ≤ 1000 then kAsg2 st' ks ((g x u).map fun u' => u'.set i (some (.val (.lst xs)))) else ks .bad
    | _ => ks .bad
  | .err c x st' => ks (.err c x u st')
  | .bad => ks .bad
@[simp] theorem kStar_ctup (i : Nat) (x xs st') : kStar g i u ks (.ok (.val (.ctup (x :: xs))) st') = if xs.length ≤ 1000 then kAsg2 st' ks ((g x u).map fun u' => u'.set i (some (.val (.lst xs)))) else ks .bad := rfl
@[simp] theorem srun_sAsgStar (i : Nat) : srun (sAsgStar m g i u st) ks = run (m u st) (kStar g i u ks) := by
  unfold srun sAsgStar run kStar
  cases m u st with
  | ok w st' =>
    cases w with
    | val d =>
      cases d with
      | ctup xs => cases xs with
        | nil => rfl
        | cons x xs =>
          dsimp only
          split
          · cases g x u <;> rfl
          · rfl
      | tup xs => cases xs with
        | nil => rfl
        | cons x xs =>
          dsimp only
          split
          · cases g x u <;> rfl
          · rfl
      | _ => rfl
    | _ => rfl
  | _ => rfl
/-! with -/
def kExit (mfx : List D → M D) (j : Nat) (ks : SRes → Prop) (r : SRes) : Prop := ks (sExit mfx j r)
@[simp] theorem kExit_rt {mfx : List D → M D} {j : Nat} {d : D} {r st'} (h : mfx [.ref j] st = .ok r st') : kExit mfx j ks (.rt (.val d) st) = ks (.rt (.val d) st') := by
  unfold kExit sExit
  simp only [h]
@[simp] theorem kExit_nx {mfx : List D → M D} {j : Nat} {r st'} (h : mfx [.ref j] st = .ok r st') : kExit mfx j ks (.nx u st) = ks (.nx u st') := by
  unfold kExit sExit
  simp only [h]
@[simp] theorem kExit_err {mfx : List D → M D} {j : Nat} {c x st'} (h : mfx [.ref j] st = .ok .non st') : kExit mfx j ks (.err c x u st) = ks (.err c x u st') := by
  unfold kExit sExit
  simp only [h]
def kWithIn (mfx : List D → M D) (mb : SM) (u : Sl3) (ks : SRes → Prop) : Res Nat → Prop
  | .ok j st' => srun (mb u st') (kExit mfx j ks)
  | .err c x st' => ks (.err c x u st')
  | .bad => ks .bad
@[simp] theorem kWithIn_ok {mfx : List D → M D} {mb : SM} (j) : kWithIn mfx mb u ks (.ok j st) = srun (mb u st) (kExit mfx j ks) := rfl
@[simp] theorem srun_sWith (c : String) (mfe mfx : List D → M D) (mb : SM) : srun (sWith c mfe mfx m mb u st) ks = run (m u st) (kBind (fun w => M.bind (insOf w) fun q => M.bind (M.chk (q.2.1 = c)) fun _ => M.bind (mfe [.ref q.1]) fun _ => M.pure q.1) (kWithIn mfx mb u ks)) := by
  rw [← run_bind]
  unfold srun sWith run kWithIn
  cases (M.bind (m u) (fun w => M.bind (insOf w) fun q => M.bind (M.chk (q.2.1 = c)) fun _ => M.bind (mfe [.ref q.1]) fun _ => M.pure q.1) st) <;> rfl
end
/-! the store behind such calls -/
theorem back_self : ∀ {st : Store}, back st (st.map MO.nap) = st
  | [] => rfl
  | o :: st => by
    show o.pick o.nap :: back st (st.map MO.nap) = o :: st
    rw [back_self]
    congr 1
    unfold MO.pick
    split
    · rename_i h
      have : o.nap = o := by cases o <;> first | rfl | cases h
      rw [this]
      unfold MO.cut
      rw [if_pos h]
    · rfl
end M3


/-! a def within a def that stores to a captured name: give_answers and the function that it gives -/
namespace M3
open PySem PySem.Spec PyProof.Rows L2 LamX NdefX

section
variable {X : Cx} {pins : List (Addr × Obj)} {σ : L2.St} {H : Hp} {s : Shared}
/-- a store to a captured name whose cell the callers track -/
theorem store_free {M : Model} {A : Around} {E : Value → Shared → Prop} {i : Nat} {x : Str} {v : V} {u : Value} {Q : Unit → Shared → Prop} (I : Inv X pins σ H s) (hN : X.N.Nodup) (hi : X.N[i]? = some x) (hk : X.env.scope.names.lookup x = some .free)
    (h0 : ∀ c, X.env.cells.lookup x = some c → ∃ v, X.H_0 c = some (CellO c v)) (r : RelV v u) (h : ∀ s', Inv X pins (σ.set i (some v)) H s' → Q () s') : wpAny M A (storeName X.env x u) Q E s := by
  obtain ⟨m, hn, hl⟩ := id I.loc
  have hiσ : i < σ.length := by rw [I.len]; exact (List.getElem?_eq_some_iff.mp hi).1
  have cne := I.cne
  obtain ⟨c, hc⟩ := I.ok.has x (.inr hk)
  obtain ⟨w', z⟩ := I.cell x c hc
  obtain ⟨v0, hv0⟩ := h0 c hc
  have n0 : ∀ b, X.H_0 b = none → b ≠ c := fun b e q => by rw [q, hv0] at e; cases e
  obtain ⟨oc, hoc, hocd⟩ := id z
  have go : ∀ h', h'.IsCell c (some u) → Heap.SameBut c s.heap h' → Q () { s with heap := h' } := fun h' hc' hs => by
    have tracked : HOk X.prog X.w H h' := fun b ob e => by
      refine (I.hok b ob e).stay (fun d w' hd q => (hs.2 d ?_).trans q) (fun _ q => q) fun _ _ q => q
      have hfree := I.freeC x c hc
      rintro rfl
      rcases hd with rfl | hd
      · rw [hfree] at e; cases e
      · rw [hfree] at hd; cases hd
    refine h { s with heap := h' } ⟨I.ok, I.os, I.bare, ⟨fun b o e n hb hx => ?_, fun b o e n hb hx => ?_, I.base.free, fun b o e hx => ?_, I.base.tups, I.base.frzs, I.base.tbls⟩, ⟨m, hn.sameBut hs (Ne.symm (cne x c hc)), fun j y v' e1 e2 e3 => ?_⟩, fun y c' e => ?_, I.free, I.freeC, fun p hp => ?_, tracked, by simpa using I.len⟩
    · exact (hs.2 b (n0 b n)).trans (I.base.keep b o e n hb hx)
    · obtain ⟨sl, e1⟩ := I.base.slot b o e n hb hx
      exact ⟨sl, (hs.2 b (n0 b n)).trans e1⟩
    · by_cases hb : b = c
      · subst hb
        obtain ⟨o', q, _⟩ := hc'
        exact ⟨o', q⟩
      · obtain ⟨o', e1⟩ := I.base.there b o e hx
        exact ⟨o', (hs.2 b hb).trans e1⟩
    · by_cases hj : j = i
      · subst hj
        rw [hi] at e1; cases e1
        rw [List.getElem?_set_self hiσ] at e2
        cases e2
        exact ⟨u, r, .inr ⟨.inr hk, c, hc, hc'⟩⟩
      · rw [List.getElem?_set_ne (Ne.symm hj)] at e2
        obtain ⟨u', r', q⟩ := hl j y v' e1 e2 e3
        refine ⟨u', r', ?_⟩
        rcases q with q | ⟨k, c', e, z'⟩
        · exact .inl q
        · refine .inr ⟨k, c', e, z'.sameBut hs ?_⟩
          rintro rfl
          exact hj (nodup_ix hN e1 (I.ok.inj _ _ _ e hc ▸ hi))
    · by_cases hcc : c' = c
      · subst hcc; exact ⟨_, hc'⟩
      · obtain ⟨w2, z2⟩ := I.cell y c' e
        exact ⟨w2, z2.sameBut hs hcc⟩
    · obtain ⟨e, n, ne, nf, d⟩ := I.pin p hp
      refine ⟨(hs.2 p.1 ?_).trans e, n, ne, nf, d⟩
      intro q
      rw [q, hoc] at e
      have q' : oc = p.2 := Option.some.inj e
      exact d w' (by rw [← q']; exact hocd)
  have hl2 : X.env.kindOf x = some .free := hk
  unfold storeName
  simp only [hl2, I.ok.kind]
  exact wpAny_bind (wpAny_cellOf hc (wpAny_cellSet z go))
theorem ps_nonlocal {names : List Str} {pos : Pos} : PS X (.Nonlocal names pos) (fun D σ H => D.nx σ H) := ⟨fun pins s σ H D I h => wpAny_Nonlocal ⟨σ, H, I, h⟩⟩
theorem ps_augF {i : Nat} {x : Str} {e : Expr} {te : TE} {op : Operator} {ti : TIp} {pos' pos : Pos} (hN : X.N.Nodup) (hi : X.N[i]? = some x) (hk : X.env.scope.names.lookup x = some .free) (h0 : ∀ c, X.env.cells.lookup x = some c → ∃ v, X.H_0 c = some (CellO c v)) (he : PE X e te) (ho : PIp X op ti)
    (hcd : (x == ("__classdict__" : Str)) = false := by decide) : PS X (.AugAssign (.Name x pos') op e pos) (tAug i te ti) := by
  refine ⟨fun pins s σ H D I h => ?_⟩
  obtain ⟨v, e1, h⟩ := h
  obtain ⟨m, hn, hl⟩ := I.loc
  obtain ⟨u, r, l⟩ := hl i x v hi e1 (.inr (.inr hk))
  refine wpAny_AugAssign_Name ?_
  have go : wpAny (model X.prog X.w) X.A (eval e X.env) (fun w s₂ => wpAny (model X.prog X.w) X.A (inplaceOp op u w) (fun r s₃ => wpAny (model X.prog X.w) X.A (storeName X.env x r) (fun _ => SP X pins D .next) X.xe s₃) X.xe s₂) X.xe s := by
    refine thn (he.run pins s σ H _ I h) fun w s1 ⟨y, H1, I1, r1, q1⟩ => ?_
    refine thn (ho pins s1 σ H1 v y u w _ I1 r r1 q1) fun z s2 ⟨zv, H2, I2, r2, q2⟩ => ?_
    exact store_free I2 hN hi hk h0 r2 (fun s3 I3 => ⟨_, H2, I3, q2⟩)
  rcases l with ⟨hk', hm⟩ | ⟨hk', c, hc, hcell⟩
  · have hk' : X.env.scope.names.lookup x = some .local := hk'
    rw [hk] at hk'; cases hk'
  · exact wpAny_loadName_free I.ok.kind hk hc hcell go hcd
end
section
variable {P : P3} {pos : Pos} {x : Str}
theorem ms_nonlocal {names : List Str} : MS P (.Nonlocal names pos) sNext := MS.mk' ps_nonlocal fun B0 B s o u z D b wd sl h => h B s z b (Le.refl _) wd sl
theorem ms_augF (i : Nat) {op : Operator} {f : W → W → Option W} {me : EM} {e : Expr} {pos' : Pos} (hN : P.X.N.Nodup) (ho : IpM P op f) (he : ME P e me) (hk : P.X.env.scope.names.lookup x = some .free) (h0 : ∀ c, P.X.env.cells.lookup x = some c → ∃ v, P.X.H_0 c = some (CellO c v)) (hi : P.X.N[i]? = some x := by rfl)
    (hcd : (x == ("__classdict__" : Str)) = false := by decide) : MS P (.AugAssign (.Name x pos') op e pos) (sAug i f me) := by
  obtain ⟨t, pt, ht⟩ := he.out
  obtain ⟨r, hr, hq⟩ := ho
  refine MS.mk' (ps_augF hN hi hk h0 pt hr hcd) fun B0 B s o u z D b0 wd sl h => ?_
  unfold sAug at h
  cases eu : u[i]? with
  | none => rw [eu] at h; exact h.elim
  | some ow =>
    rw [eu] at h
    cases ow with
    | none => exact h.elim
    | some w =>
      dsimp only at h
      obtain ⟨v, ez, _⟩ := sl.get eu
      refine ⟨v, ez, ht B0 B s o u z _ wd sl ?_⟩
      cases em : me u o with
      | bad => rw [show M.bind (me u) (fun y => M.of (f w y)) o = .bad from by unfold M.bind; rw [em]] at h; exact h
      | err c x st' => rw [show M.bind (me u) (fun y => M.of (f w y)) o = .err c x st' from by unfold M.bind; rw [em]] at h; exact fun s' cv dd l w q => h B s' z cv dd b0 (l.less b0) w (sl.mono' l) q
      | ok y st' =>
        rw [show M.bind (me u) (fun y => M.of (f w y)) o = M.of (f w y) st' from by unfold M.bind; rw [em]] at h
        cases ef : f w y with
        | none => rw [ef] at h; exact h.elim
        | some zz =>
          rw [ef] at h
          cases zz with
          | val d =>
            intro s' v2 l w2 r2
            obtain ⟨v', ez', rv⟩ := (sl.mono' l).get eu
            rw [ez] at ez'
            cases ez'
            exact hq B s' w y (.val d) v v2 _ rv r2 ef fun uu ru => h B s' _ b0 (l.less b0) w2 ((sl.mono' l).set ru i)
          | _ => exact h.elim
end
/-! ### a frame whose captured cells the callers track -/
/-- the abstract heap with the cells -/
def addC (H : Hp) (cu ca : Addr) (vu va : V) : Hp := upd (upd H cu (CellO cu vu)) ca (CellO ca va)
/-- .. without them -/
def delC (H : Hp) (cu ca : Addr) : Hp := fun b => if b = cu ∨ b = ca then none else H b
section
variable {X : Cx} {pins : List (Addr × Obj)} {σ : L2.St} {H : Hp} {s : Shared} {cu ca : Addr} {vu va : V}
theorem hok_add {P : Program} {w : World} {h : Heap} (hok : HOk P w H h) (nu : H cu = none) (na : H ca = none) (hcu : ∃ u, L2.RelV vu u ∧ h.IsCell cu (some u)) (hca : ∃ u, L2.RelV va u ∧ h.IsCell ca (some u)) : HOk P w (addC H cu ca vu va) h := by
  have cell : ∀ {c : Addr} {v : V}, (∃ u, L2.RelV v u ∧ h.IsCell c (some u)) → ObjOk P w (addC H cu ca vu va) h c (CellO c v) := fun {c v} ⟨u, r, o, ho, hd⟩ =>
    ⟨⟨u, r, o, ho, hd⟩, ⟨o, ho⟩, fun h1 h2 ⟨u, r, o, ho, hd⟩ st => ⟨u, r, o, st _ ho, hd⟩⟩
  have sub : ∀ b o, H b = some o → addC H cu ca vu va b = some o := fun b o e => by
    unfold addC
    rw [upd_ne (ne_of_none e na), upd_ne (ne_of_none e nu)]
    exact e
  intro b o e
  unfold addC at e
  by_cases h1 : b = ca
  · subst h1; rw [upd_same] at e; cases e; exact cell hca
  · rw [upd_ne h1] at e
    by_cases h2 : b = cu
    · subst h2; rw [upd_same] at e; cases e; exact cell hcu
    · rw [upd_ne h2] at e
      exact (hok b o e).stay (fun _ _ _ q => q) (fun c q => sub c _ q) fun c _ q => sub c _ q
/-- the cells as the frame's slots tell of them -/
theorem Inv.cellAt (I : Inv X pins σ H s) {i : Nat} {y : Str} {c : Addr} {v : V} (hN : X.N[i]? = some y) (hk : X.env.scope.names.lookup y = some .cell ∨ X.env.scope.names.lookup y = some .free) (hc : X.env.cells.lookup y = some c) (hz : σ[i]? = some (some v)) : ∃ u, L2.RelV v u ∧ s.heap.IsCell c (some u) := by
  obtain ⟨m, hns, hl⟩ := I.loc
  obtain ⟨u, r, q⟩ := hl i y v hN hz (hk.elim (fun z => .inr (.inl z)) fun z => .inr (.inr z))
  refine ⟨u, r, ?_⟩
  rcases q with ⟨q, _⟩ | ⟨_, c', ec, hcell⟩
  · have q : X.env.scope.names.lookup y = some .local := q
    rcases hk with k | k <;> rw [k] at q <;> cases q
  · rw [hc] at ec; cases ec; exact hcell
/-- an exception leaves such a frame -/
theorem leaveC {W : WX} {E : XK} {s' : Shared} {i j : Nat} {y1 y2 : Str} (hs : X.stack = X.env :: X.outer) (hf : X.env.frame = some X.env.locals) (hex : X.ex = []) {E₁ : Value → Shared → Prop} (n1 : X.N[i]? = some y1) (n2 : X.N[j]? = some y2) (k1 : X.env.scope.names.lookup y1 = some .free) (k2 : X.env.scope.names.lookup y2 = some .free)
    (c1 : X.env.cells.lookup y1 = some cu) (c2 : X.env.cells.lookup y2 = some ca) (t1 : ∃ v, X.H_0 cu = some (CellO cu v)) (t2 : ∃ v, X.H_0 ca = some (CellO ca v)) (h0 : ∃ o1 o2, X.s_0.heap.get? cu = some o1 ∧ X.s_0.heap.get? ca = some o2) (nf : cu ∉ X.fs ∧ ca ∉ X.fs)
    (hW : ∀ cls d σ H, W cls d σ H → H cu = none → H ca = none → ∃ vu va, σ[i]? = some (some vu) ∧ σ[j]? = some (some va) ∧ E cls d (addC H cu ca vu va)) {u : Value} (x : XE X W u s') :
    wpAny (model X.prog X.w) X.A (leaving X.env u) (fun _ s'' => CX X.prog X.w X.outer X.H_0 X.s_0 E u s'') E₁ s' := by
  obtain ⟨a, B, sI, pins, σ, H, cls, d, rfl, I, nb, up, sky, na, os, ag, w⟩ := x
  obtain ⟨vu, va, z1, z2, hE⟩ := hW _ _ _ _ w (I.freeC y1 cu c1) (I.freeC y2 ca c2)
  have hfr : X.A.frames = some (X.env :: X.outer) := by rw [I.ok.frames, hs]
  have nst : ∀ b o, X.s_0.heap.get? b = some o → b ∉ X.fs → b ∉ frs X.stack := fun b o e hb hm => by
    rcases List.mem_cons.mp (I.stkSub b hm) with z | z
    · have h1 := Heap.lt_size e
      have h2 := I.ok.above
      rw [z] at h1
      exact absurd (Nat.lt_of_lt_of_le h1 h2) (Nat.lt_irrefl _)
    · exact hb z
  have hex' : ∀ b, b ∉ X.ex := fun b hb => by rw [hex] at hb; cases hb
  have hu0 := I.freeC y1 cu c1
  have ha0 := I.freeC y2 ca c2
  obtain ⟨o1, o2, g1, g2⟩ := h0
  have inB : ∀ {c : Addr} {o : Obj} {v : V}, X.s_0.heap.get? c = some o → c ∉ X.fs → (∃ u, L2.RelV v u ∧ sI.heap.IsCell c (some u)) → ∃ u, L2.RelV v u ∧ B.IsCell c (some u) := fun {c o v} g hn ⟨u, r, oc, ho, hd⟩ => ⟨u, r, oc, nb c oc ho (nst c o g hn), hd⟩
  have hokB : HOk X.prog X.w (addC H cu ca vu va) B := hok_add (I.inGround nb) hu0 ha0 (inB g1 nf.1 (M3.Inv.cellAt I n1 (.inr k1) c1 z1)) (inB g2 nf.2 (M3.Inv.cellAt I n2 (.inr k2) c2 z2))
  have nea : a ≠ cu ∧ a ≠ ca := by
    constructor <;> intro z
    · subst z
      rcases sky with ⟨_, hB, _⟩ | fl | hd
      · obtain ⟨_, _, ⟨_, q, _⟩⟩ := inB g1 nf.1 (M3.Inv.cellAt I n1 (.inr k1) c1 z1)
        rw [hB] at q; cases q
      · obtain ⟨_, _, ⟨_, q, _⟩⟩ := inB g1 nf.1 (M3.Inv.cellAt I n1 (.inr k1) c1 z1)
        rw [fl.2.1] at q; cases q
      · obtain ⟨_, _, ⟨_, q, _⟩⟩ := inB g1 nf.1 (M3.Inv.cellAt I n1 (.inr k1) c1 z1)
        rw [hd.2.1] at q; cases q
    · subst z
      rcases sky with ⟨_, hB, _⟩ | fl | hd
      · obtain ⟨_, _, ⟨_, q, _⟩⟩ := inB g2 nf.2 (M3.Inv.cellAt I n2 (.inr k2) c2 z2)
        rw [hB] at q; cases q
      · obtain ⟨_, _, ⟨_, q, _⟩⟩ := inB g2 nf.2 (M3.Inv.cellAt I n2 (.inr k2) c2 z2)
        rw [fl.2.1] at q; cases q
      · obtain ⟨_, _, ⟨_, q, _⟩⟩ := inB g2 nf.2 (M3.Inv.cellAt I n2 (.inr k2) c2 z2)
        rw [hd.2.1] at q; cases q
  have naC : addC H cu ca vu va a = none := by
    unfold addC
    rw [upd_ne nea.2, upd_ne nea.1]
    exact na
  have subC : ∀ b o, H b = some o → addC H cu ca vu va b = some o := fun b o e => by
    unfold addC
    rw [upd_ne (ne_of_none e ha0), upd_ne (ne_of_none e hu0)]
    exact e
  have fin : ∀ h', HandSPX.FlyingZ B X.outer a (Zc cls d) h' → s'.heap.UpToSlots h' → CX X.prog X.w X.outer X.H_0 X.s_0 E (.ref a) { s' with heap := h' } := fun h' fl up' => by
    refine ⟨a, B, addC H cu ca vu va, cls, d, rfl, fl, hokB, ⟨fun b o e n hb => nb b o (I.base.keep b o e n hb (hex' b)) (nst b o e hb), fun b o e hb => ?_, fun b o e n => ?_, fun b o e hb => ?_, fun b xs q => subC b _ (I.base.tups b xs q), fun b o xs q => subC b _ (I.base.frzs b o xs q), fun b ps q => let ⟨m, q2⟩ := I.base.tbls b ps q; ⟨m, subC b _ q2⟩⟩,
      naC, os.trans I.os, ag, hE⟩
    · obtain ⟨_, o₀, e₀, hnf⟩ := I.ok.funs.mem hb
      rw [e] at e₀; cases e₀
      obtain ⟨sl, e1⟩ := I.base.slot b o e (I.ok.frf b hb) hb (hex' b)
      obtain ⟨sl2, e2⟩ := up b _ e1 hnf
      obtain ⟨sl3, e3⟩ := up' b _ e2 hnf
      exact ⟨sl3, e3⟩
    · have q := I.base.free b o e n (hex' b)
      have q1 : b ≠ cu := fun z => by subst z; obtain ⟨_, t⟩ := t1; rw [n] at t; cases t
      have q2 : b ≠ ca := fun z => by subst z; obtain ⟨_, t⟩ := t2; rw [n] at t; cases t
      unfold addC
      rw [upd_ne q2, upd_ne q1]
      exact q
    · obtain ⟨o', e1⟩ := I.base.there b o e (hex' b)
      exact ⟨o', nb b o' e1 (nst b o e hb)⟩
  rw [hs] at sky
  rcases sky with ⟨hB, hn, hl, oe, vs, he, hz, hd, h1⟩ | fl | hd
  · exact HandSPX.leaving_firstZ Zc.steady hfr hl hf he hB hn hd h1 hz fin
  · exact HandSPX.leaves_onZ Zc.steady hfr hf fl fin
  · exact HandSPX.leaves_heldZ hf hd fin
end
/-! ### a body that ends with return e, the slots known at its end -/
section
variable {X : Cx}
structure PRs (X : Cx) (sts : List Stmt) (t : (V → L2.St → Hp → Prop) → L2.St → Hp → Prop) : Prop where
  run : ∀ (pins : List (Addr × Obj)) (s : Shared) (σ : L2.St) (H : Hp) (R : V → L2.St → Hp → Prop), Inv X pins σ H s → t R σ H → wpAny (model X.prog X.w) X.A (execs sts X.env) (fun f s' => match f with
    | .ret u => ∃ v σ' H', Inv X pins σ' H' s' ∧ L2.RelV v u ∧ R v σ' H'
    | _ => False) X.xe s
theorem prs_cons {st : Stmt} {rest : List Stmt} {t : TS} {u : (V → L2.St → Hp → Prop) → L2.St → Hp → Prop} (h1 : PS X st t) (h2 : PRs X rest u) :
    PRs X (st :: rest) (fun R σ H => t { nx := fun σ H => u R σ H, rt := fun _ _ => False, bk := fun _ _ => False, ct := fun _ _ => False } σ H) := by
  refine ⟨fun pins s σ H R I h => ?_⟩
  refine wpAny_execs_cons (thn (h1.run pins s σ H _ I h) fun f s1 q => ?_)
  cases f with
  | next =>
    obtain ⟨σ', H', I', q⟩ := q
    exact h2.run pins s1 σ' H' R I' q
  | ret v => obtain ⟨_, _, _, _, _, q⟩ := q; exact False.elim q
  | brk => obtain ⟨_, _, _, q⟩ := q; exact False.elim q
  | cont => obtain ⟨_, _, _, q⟩ := q; exact False.elim q
theorem prs_ret {e : Expr} {te : TE} {pos : Pos} (he : PE X e te) : PRs X [.Return (some e) pos] (fun R σ H => te σ H fun v H1 => R v σ H1) := by
  refine ⟨fun pins s σ H R I h => ?_⟩
  exact wpAny_execs_cons (wpAny_Return_some (thn (he.run pins s σ H _ I h) fun v s1 ⟨x, H1, I1, r1, q1⟩ => ⟨x, σ, H1, I1, r1, q1⟩))
end
def PostR (P : P3) (me : EM) (B0 : Addr → Prop) (s : S3) (R : V → L2.St → Hp → Prop) : SRes → Prop
  | .nx u' st' => ∀ (B' : Addr → Prop) (s' : S3) (z' : L2.St), (∀ a, B0 a → B' a) → Le B0 s s' → Wd P.G B' st' s' → Slo P.G P.hx B0 B' s' u' z' → Post P.G B' (fun s d v => Rep P.G.R s.F s.io d v) (fun c d H => P.wx c d z' H) s' (fun v H => R v z' H) (M.bind (me u') (fun w => M.of w.d) st')
  | .err c x u' st' => ∀ (B' : Addr → Prop) (s' : S3) (z' : L2.St) (cv : Value) (dd : Option Addr), (∀ a, B0 a → B' a) → Le B0 s s' → Wd P.G B' st' s' → Slo P.G P.hx B0 B' s' u' z' → ExR P.G s' c x cv dd → P.wx cv dd z' s'.H
  | _ => False
theorem PostR.mono {P : P3} {me : EM} {B0 : Addr → Prop} {s s1 : S3} {R : V → L2.St → Hp → Prop} {r : SRes} (l : Le B0 s s1) (h : PostR P me B0 s R r) : PostR P me B0 s1 R r := by
  cases r with
  | nx u' st' => exact fun B' s' z' b l' w r => h B' s' z' b (l.trans l') w r
  | err c x u' st' => exact fun B' s' z' cv dd b l' w r => h B' s' z' cv dd b (l.trans l') w r
  | _ => exact h
def tRG (P : P3) (mb : SM) (me : EM) : (V → L2.St → Hp → Prop) → L2.St → Hp → Prop := fun R z H => ∃ (B0 B : Addr → Prop) (s : S3) (o : Store) (u : Sl3), s.H = H ∧ (∀ a, B0 a → B a) ∧ Wd P.G B o s ∧ Slo P.G P.hx B0 B s u z ∧ PostR P me B0 s R (mb u o)
structure MR (P : P3) (sts : List Stmt) (mb : SM) (me : EM) : Prop where
  out : PRs P.X sts (tRG P mb me)
section
variable {P : P3} {pos : Pos}
theorem mr_ret {e : Expr} {me : EM} (he : ME P e me) : MR P [.Return (some e) pos] sNext me := by
  obtain ⟨t, pt, ht⟩ := he.out
  refine ⟨⟨fun pins s0 z H R I ⟨B0, B, s, o, u, e, b, wd, sl, p⟩ => ?_⟩⟩
  subst e
  refine (prs_ret pt).run pins s0 z _ R I (ht B0 B s o u z _ wd sl ?_)
  have p : PostR P me B0 s R (.nx u o) := p
  have q := p B s z b (Le.refl _) wd sl
  unfold M.bind at q
  cases em : me u o with
  | bad => rw [em] at q; exact q
  | err c x st' => rw [em] at q; exact q
  | ok w st' =>
    rw [em] at q
    cases w with
    | val d => exact fun s' v l w r => q s' v l w r
    | _ => exact q.elim
theorem mr_cons {st : Stmt} {rest : List Stmt} {a b : SM} {me : EM} (h1 : MS P st a) (h2 : MR P rest b me) : MR P (st :: rest) (sSeq a b) me := by
  obtain ⟨ta, pa, ha⟩ := h1.out
  refine ⟨⟨fun pins s0 z H R I ⟨B0, B, s, o, u, e, b0, wd, sl, p⟩ => ?_⟩⟩
  subst e
  refine (prs_cons pa h2.out).run pins s0 z _ R I (ha B0 B s o u z _ b0 wd sl ?_)
  unfold sSeq at p
  cases em : a u o with
  | nx u' o' =>
    rw [em] at p
    exact fun B' s' z' bb l' w' sl' => ⟨B0, B', s', o', u', rfl, bb, w', sl', PostR.mono l' p⟩
  | err c x u' o' => rw [em] at p; exact p
  | _ => rw [em] at p; exact p.elim
end
/-! ### the cells taken from the callers, and given back -/
theorem hok_del {P : Program} {w : World} {H : Hp} {h : Heap} {cu ca : Addr} {vu va : V} (hok : HOk P w H h) (eu : H cu = some (CellO cu vu)) (ea : H ca = some (CellO ca va)) : HOk P w (delC H cu ca) h := by
  have sub : ∀ b o, delC H cu ca b = some o → H b = some o := fun b o e => by
    unfold delC at e
    split at e
    · cases e
    · exact e
  have keep : ∀ b o, (∀ c v, o ≠ CellO c v) → H b = some o → delC H cu ca b = some o := fun b o n e => by
    unfold delC
    rw [if_neg]
    · exact e
    · rintro (rfl | rfl)
      · rw [eu] at e; exact n _ _ (Option.some.inj e).symm
      · rw [ea] at e; exact n _ _ (Option.some.inj e).symm
  intro b o e
  exact (hok b o (sub b o e)).stay (fun _ _ _ q => q) (fun c q => keep c _ (fun _ _ z => by cases z) q) fun c xs q => keep c _ (fun _ _ z => by cases z) q
section
variable {G : G3} {B : Addr → Prop} {st : Store} {s : S3} {ku ka : Nat} {cu ca : Addr} {vu va : V} {du da eu ea : D}
theorem Wd.takeC (w : Wd G B st s) (iu : s.io ku = some cu) (ia : s.io ka = some ca) (hu : st[ku]? = some (.cell du)) (ha : st[ka]? = some (.cell da)) : Wd G B ((st.set ku .dead).set ka .dead) ⟨s.io, s.F, delC s.H cu ca⟩ := by
  obtain ⟨au, e1, bu, fu, vu, hvu, ru⟩ := w.obj ku _ hu rfl
  obtain ⟨aa, e2, ba, fa, va, hva, ra⟩ := w.obj ka _ ha rfl
  rw [iu] at e1; cases e1
  rw [ia] at e2; cases e2
  have off : ∀ b, b ≠ cu → b ≠ ca → delC s.H cu ca b = s.H b := fun b h1 h2 => if_neg fun z => z.elim h1 h2
  have get : ∀ {k : Nat} {o : MO}, ((st.set ku .dead).set ka .dead)[k]? = some o → (k = ku ∨ k = ka) ∧ o = .dead ∨ k ≠ ku ∧ k ≠ ka ∧ st[k]? = some o := fun {k o} e => by
    by_cases q : k = ka
    · subst q
      have hl : k < (st.set ku .dead).length := by rw [List.length_set]; exact (List.getElem?_eq_some_iff.mp ha).1
      rw [List.getElem?_set_self hl] at e
      exact .inl ⟨.inr rfl, (Option.some.inj e).symm⟩
    · rw [List.getElem?_set_ne (Ne.symm q)] at e
      by_cases q2 : k = ku
      · subst q2
        rw [List.getElem?_set_self (List.getElem?_eq_some_iff.mp hu).1] at e
        exact .inl ⟨.inl rfl, (Option.some.inj e).symm⟩
      · rw [List.getElem?_set_ne (Ne.symm q2)] at e
        exact .inr ⟨q2, q, e⟩
  have tr : ∀ {k : Nat} {o : MO}, ((st.set ku .dead).set ka .dead)[k]? = some o → o.tr = true → k ≠ ku ∧ k ≠ ka ∧ st[k]? = some o := fun {k o} e t => by
    rcases get e with ⟨_, rfl⟩ | h
    · cases t
    · exact h
  refine ⟨fun b o e => ?_, fun a b => ?_, w.ftb, fun k a e => by rw [List.length_set, List.length_set]; exact w.dom k a e, fun j k a oj ok e1 e2 q1 t1 q2 t2 => w.inj j k a oj ok e1 e2 (tr q1 t1).2.2 t1 (tr q2 t2).2.2 t2, fun k o e t => ?_, fun k o e t => ?_, w.tabM (fun _ _ e => e) fun P ps e => ?_⟩
  · show delC s.H cu ca b = some o
    rw [off b (fun z => by subst z; rw [fu] at e; cases e) fun z => by subst z; rw [fa] at e; cases e]
    exact w.sub b o e
  · obtain ⟨h1, o, h2, h3⟩ := w.hid a b
    refine ⟨h1, o, ?_, h3⟩
    show delC s.H cu ca a = some o
    rw [off a (fun z => by subst z; exact bu b) fun z => by subst z; exact ba b]
    exact h2
  · obtain ⟨n1, n2, e'⟩ := tr e t
    obtain ⟨a, i1, b1, f1, x⟩ := w.obj k o e' t
    refine ⟨a, i1, b1, f1, ObjR.mono (s := s) (s' := ⟨s.io, s.F, delC s.H cu ca⟩) (IoLe.refl _) (Same.refl _) (off a (fun z => ?_) fun z => ?_) x⟩
    · subst z; exact n1 (w.inj k ku a _ _ i1 iu e' t hu rfl)
    · subst z; exact n2 (w.inj k ka a _ _ i1 ia e' t ha rfl)
  · rcases get e with ⟨h, rfl⟩ | ⟨_, _, e'⟩
    · rcases h with rfl | rfl
      · exact ⟨cu, iu, True.intro⟩
      · exact ⟨ca, ia, True.intro⟩
    · exact w.untM (s' := ⟨s.io, s.F, delC s.H cu ca⟩) (IoLe.refl _) (Same.refl _) k o e' t
  · show delC s.H cu ca P = some (.tbl ps)
    rw [off P (fun z => ?_) fun z => ?_]
    · exact e
    · subst z; rw [hvu] at e; unfold CellO at e; cases e
    · subst z; rw [hva] at e; unfold CellO at e; cases e
theorem cellO_own {a : Addr} {v : V} : OwnH (CellO a v) := ⟨fun ps q => (by cases q), fun c q z => cellO_code z⟩
theorem Wd.giveC (w : Wd G B st s) (iu : s.io ku = some cu) (ia : s.io ka = some ca) (nu : s.H cu = none) (na : s.H ca = none) (ne : cu ≠ ca) (ru : Rep G.R s.F s.io eu vu) (ra : Rep G.R s.F s.io ea va) :
    Wd G B ((st.set ku (.cell eu)).set ka (.cell ea)) ⟨s.io, s.F, addC s.H cu ca vu va⟩ := by
  have nk : ku ≠ ka := fun z => by rw [z, ia] at iu; cases iu; exact ne rfl
  have lu := w.dom ku _ iu
  have la := w.dom ka _ ia
  have sub : ∀ b o, s.H b = some o → addC s.H cu ca vu va b = some o := fun b o e => by
    unfold addC
    rw [upd_ne (ne_of_none e na), upd_ne (ne_of_none e nu)]
    exact e
  have off : ∀ b, b ≠ cu → b ≠ ca → addC s.H cu ca vu va b = s.H b := fun b h1 h2 => by
    unfold addC
    rw [upd_ne h2, upd_ne h1]
  have atu : addC s.H cu ca vu va cu = some (CellO cu vu) := by
    unfold addC
    rw [upd_ne ne, upd_same]
  have ata : addC s.H cu ca vu va ca = some (CellO ca va) := by
    unfold addC
    exact upd_same
  have get : ∀ {k : Nat} {o : MO}, ((st.set ku (.cell eu)).set ka (.cell ea))[k]? = some o → k = ku ∧ o = .cell eu ∨ k = ka ∧ o = .cell ea ∨ k ≠ ku ∧ k ≠ ka ∧ st[k]? = some o := fun {k o} e => by
    by_cases q : k = ka
    · subst q
      rw [List.getElem?_set_self (by rw [List.length_set]; exact la)] at e
      exact .inr (.inl ⟨rfl, (Option.some.inj e).symm⟩)
    · rw [List.getElem?_set_ne (Ne.symm q)] at e
      by_cases q2 : k = ku
      · subst q2
        rw [List.getElem?_set_self lu] at e
        exact .inl ⟨rfl, (Option.some.inj e).symm⟩
      · rw [List.getElem?_set_ne (Ne.symm q2)] at e
        exact .inr (.inr ⟨q2, q, e⟩)
  have far : ∀ {k : Nat} {o : MO} {a : Addr}, st[k]? = some o → o.tr = true → s.io k = some a → a ≠ cu ∧ a ≠ ca := fun {k o a} e t i => by
    obtain ⟨a', i1, b1, f1, x⟩ := w.obj k o e t
    rw [i] at i1; cases i1
    obtain ⟨u, hu⟩ := x.there
    exact ⟨fun z => (by subst z; rw [nu] at hu; cases hu), fun z => (by subst z; rw [na] at hu; cases hu)⟩
  have nB : ∀ a, s.H a = none → ¬ B a := fun a h => w.freshB h
  refine ⟨fun b o e => sub b o (w.sub b o e), fun a b => let ⟨h1, o, h2, h3⟩ := w.hid a b; ⟨h1, o, sub a o h2, h3⟩, w.ftb, fun k a e => by rw [List.length_set, List.length_set]; exact w.dom k a e, fun j k a oj ok e1 e2 q1 t1 q2 t2 => ?_, fun k o e t => ?_, fun k o e t => ?_, w.tabM (fun _ _ e => e) fun P ps e => sub P _ e⟩
  · have e1 : s.io j = some a := e1
    have e2 : s.io k = some a := e2
    rcases get q1 with ⟨rfl, _⟩ | ⟨rfl, _⟩ | ⟨_, _, y1⟩ <;> rcases get q2 with ⟨rfl, _⟩ | ⟨rfl, _⟩ | ⟨_, _, y2⟩
    · rfl
    · rw [iu] at e1; rw [ia] at e2; cases e1; cases e2; exact absurd rfl ne
    · rw [iu] at e1; cases e1; exact absurd rfl (far y2 t2 e2).1
    · rw [ia] at e1; rw [iu] at e2; cases e1; cases e2; exact absurd rfl ne
    · rfl
    · rw [ia] at e1; cases e1; exact absurd rfl (far y2 t2 e2).2
    · rw [iu] at e2; cases e2; exact absurd rfl (far y1 t1 e1).1
    · rw [ia] at e2; cases e2; exact absurd rfl (far y1 t1 e1).2
    · exact w.inj j k a oj ok e1 e2 y1 t1 y2 t2
  · rcases get e with ⟨rfl, rfl⟩ | ⟨rfl, rfl⟩ | ⟨_, _, e'⟩
    · exact ⟨cu, iu, nB cu nu, w.freshF nu, vu, atu, ru⟩
    · exact ⟨ca, ia, nB ca na, w.freshF na, va, ata, ra⟩
    · obtain ⟨a, i1, b1, f1, x⟩ := w.obj k o e' t
      obtain ⟨n1, n2⟩ := far e' t i1
      exact ⟨a, i1, b1, f1, ObjR.mono (s := s) (s' := ⟨s.io, s.F, addC s.H cu ca vu va⟩) (IoLe.refl _) (Same.refl _) (off a n1 n2) x⟩
  · rcases get e with ⟨_, rfl⟩ | ⟨_, rfl⟩ | ⟨_, _, e'⟩
    · cases t
    · cases t
    · exact w.untM (s' := ⟨s.io, s.F, addC s.H cu ca vu va⟩) (IoLe.refl _) (Same.refl _) k o e' t
end
end M3


/-! a def within a def that changes what it captured: its promise -/
namespace M3
open PySem PySem.Spec PyProof.Rows L2 LamX NdefX
/-- the mirror: two cells, the slots behind the parameters, back into them -/
def mfnG (N np : Nat) (mb : SM) (me : EM) : List Nat → List D → M D := fun ks ds st => match ks with
  | [ku, ka] => match st[ku]?, st[ka]? with
    | some (.cell du), some (.cell da) =>
      match mb ((ds ++ [du, da]).map (fun d => some (.val d)) ++ List.replicate (N - (ds ++ [du, da]).length) none) ((st.set ku .dead).set ka .dead) with
      | .nx u st1 => match u[np]?, u[np + 1]? with
        | some (some (.val eu)), some (some (.val ea)) => match M.bind (me u) (fun w => M.of w.d) st1 with
          | .ok d st2 => .ok d ((st2.set ku (.cell eu)).set ka (.cell ea))
          | _ => .bad
        | _, _ => .bad
      | .err c x u st1 => match u[np]?, u[np + 1]? with
        | some (some (.val eu)), some (some (.val ea)) => .err c x ((st1.set ku (.cell eu)).set ka (.cell ea))
        | _, _ => .bad
      | _ => .bad
    | _, _ => .bad
  | _ => .bad
/-- what an exception that leaves such a frame is told of -/
def wxG (np : Nat) (cu ca : Addr) (E : XK) : WX := fun cls d σ H => H cu = none → H ca = none → ∃ vu va, σ[np]? = some (some vu) ∧ σ[np + 1]? = some (some va) ∧ E cls d (addC H cu ca vu va)
section
variable {P : Program} {w : World} {K : PySem.W.Frag} {mg : Str → Option Value} {base : Heap}
theorem env0_del {A : Around} {outer : List Env} {s : Shared} {H : Hp} {cu ca : Addr} {vu va : V} (e0 : Env0 P w K mg base A outer s H) (eu : H cu = some (CellO cu vu)) (ea : H ca = some (CellO ca va)) : Env0 P w K mg base A outer s (delC H cu ca) := by
  have none_ : ∀ b, H b = none → delC H cu ca b = none := fun b e => by
    unfold delC
    split
    · rfl
    · exact e
  exact ⟨e0.frames, e0.mod, fun b o e => ⟨(e0.bs b o e).1, none_ b (e0.bs b o e).2⟩, e0.bsz, e0.funs, fun b hb => none_ b (e0.frf b hb), hok_del e0.hok eu ea, e0.bare⟩
theorem cap_ok {G : G3} (hK : K = G.K) (hw : w = G.w) {N ps : List Str} {k : Nat} {F : NF} {yu ya : Str} {cu ca : Addr} {mb : SM} {me : EM} (hcl : F.cl = [(yu, cu), (ya, ca)]) (S : NScope N ps [yu, ya] F.scope)
    (hb : ∀ (doc pm ctv : Value) (us : List Value), us.length = ps.length → bindArgs (F.fd doc pm ctv) ⟨us, []⟩ = pure (ps.zip us))
    (h : ∀ (f : Addr) (A : Around) (outer : List Env) (s : Shared) (H : Hp) (E : XK) (vu va : V), H cu = some (CellO cu vu) → H ca = some (CellO ca va) → (∃ o1 o2, s.heap.get? cu = some o1 ∧ s.heap.get? ca = some o2) → (cu ∉ frs outer ∧ ca ∉ frs outer) → Room k (A.deeper (envF F f s.heap.objs.size)) → MR ⟨ncx (L2.CX P w) P w K mg base N F f A outer s H E, G, none, wxG ps.length cu ca E, hK, hw⟩ F.body mb me) :
    VOk P w K mg base (L2.CX P w) (k + 1) ⟨fun p => FnO p F, F.c, F.qual, F.cl⟩ (spV G ⟨fun p => FnO p F, F.c, F.qual, F.cl⟩ ps.length (mfnG N.length ps.length mb me)) := by
  refine ⟨fun H h f ok e => ?_, fun A outer s H f us vs Q E hr e0 hf hc nd2 r ⟨hl, B, s3, st, ds, ks, eH, wd, rl, hio, hp⟩ => ?_⟩
  · obtain ⟨od, sl, doc, pm, ctv, ho⟩ := fnO_at ok (F := F) e
    exact ⟨_, od, _, sl, ho⟩
  subst eH
  have hio : ks.map s3.io = [some cu, some ca] := by rw [hio]; show F.cl.map _ = _; rw [hcl]; rfl
  have nd2 : (F.cl.map (·.2)).Nodup := nd2
  rw [hcl] at nd2
  have ne : cu ≠ ca := by simpa using nd2
  match ks, hio, hp with
  | [ku, ka], hio, hp =>
  simp only [List.map_cons, List.map_nil, List.cons.injEq, and_true] at hio
  obtain ⟨iu, ia⟩ := hio
  unfold mfnG at hp
  dsimp only at hp
  have cells : ∃ du da, st[ku]? = some (.cell du) ∧ st[ka]? = some (.cell da) := by
    split at hp
    · rename_i du da h1 h2; exact ⟨du, da, h1, h2⟩
    · exact hp.elim
  obtain ⟨du, da, hu, ha⟩ := cells
  rw [hu, ha] at hp
  dsimp only at hp
  have wt := wd.takeC iu ia hu ha
  obtain ⟨a1, q1, b1, f1, vu, hvu, ru⟩ := wd.obj ku _ hu rfl
  obtain ⟨a2, q2, b2, f2, va, hva, ra⟩ := wd.obj ka _ ha rfl
  rw [iu] at q1; cases q1
  rw [ia] at q2; cases q2
  have lim : s.heap.NoLimit := e0.mod.nolimit.keeps fun b o e => (e0.bs b o e).1
  obtain ⟨od, sl, doc, pm, ctv, ho⟩ := fnO_at e0.hok (F := F) hf
  obtain ⟨⟨uu, rvu, ou, hou, du_⟩, _, _⟩ := e0.hok cu _ hvu
  obtain ⟨⟨ua, rva, oa, hoa, da_⟩, _, _⟩ := e0.hok ca _ hva
  have nfu : cu ∉ frs outer := fun z => by have q := e0.frf cu z; rw [hvu] at q; cases q
  have nfa : ca ∉ frs outer := fun z => by have q := e0.frf ca z; rw [hva] at q; cases q
  have e1 := env0_del e0 hvu hva
  have dcu : delC s3.H cu ca cu = none := if_pos (.inl rfl)
  have dca : delC s3.H cu ca ca = none := if_pos (.inr rfl)
  have hne : (yu == ya) = false ∧ (ya == yu) = false := by
    have q := S.nd.sublist (List.take_sublist (ps.length + [yu, ya].length) N)
    rw [S.pre] at q
    have q := (List.nodup_append.mp q).2.1
    have : yu ≠ ya := by simpa using q
    exact ⟨by simpa using this, by simpa using Ne.symm this⟩
  have C : CellsAt F.cl [yu, ya] [some vu, some va] s.heap (delC s3.H cu ca) := by
    rw [hcl]
    have look : ∀ {y c}, List.lookup y [(yu, cu), (ya, ca)] = some c → y = yu ∧ c = cu ∨ y = ya ∧ c = ca := fun {y c} e => by
      rw [List.lookup_cons] at e
      split at e
      · rename_i q; exact .inl ⟨by simpa using q, (Option.some.inj e).symm⟩
      · rw [List.lookup_cons] at e
        split at e
        · rename_i q; exact .inr ⟨by simpa using q, (Option.some.inj e).symm⟩
        · cases e
    refine ⟨rfl, fun y c e => ?_, fun x y c ex ey => ?_, fun i y e => ?_⟩
    · rcases look e with ⟨rfl, rfl⟩ | ⟨rfl, rfl⟩
      · exact ⟨dcu, _, ou, hou, du_⟩
      · exact ⟨dca, _, oa, hoa, da_⟩
    · rcases look ex with ⟨rfl, rfl⟩ | ⟨rfl, rfl⟩ <;> rcases look ey with ⟨rfl, z⟩ | ⟨rfl, z⟩
      · rfl
      · exact absurd z ne
      · exact absurd z.symm ne
      · rfl
    · match i, e with
      | 0, e =>
        cases e
        exact ⟨cu, by simp [List.lookup_cons], fun v ev => by cases ev; exact ⟨uu, rvu, ou, hou, du_⟩⟩
      | 1, e =>
        cases e
        exact ⟨ca, by simp [List.lookup_cons, hne.2], fun v ev => by cases ev; exact ⟨ua, rva, oa, hoa, da_⟩⟩
      | n + 2, e => simp at e
  refine codeAny_call_function hr.depth ho rfl S.co S.gen rfl (codeO_at e0.hok hc) ?_
  rw [hb doc pm ctv us (by rw [← r.length]; exact hl)]
  refine wpAny_pure (wpAny_newFunctionEnv S.nocell (fun ⟨n, _⟩ hy => S.par n (List.of_mem_zip hy).1) (fun h₁ hns hsb => ⟨lim.fresh _ hsb, ?_⟩) S.kind)
  show codeAny _ _ (.func F.body (envF F f s.heap.objs.size)) _ _
  refine codeAny_func ?_
  have kp : ∀ b o, s.heap.get? b = some o → h₁.get? b = some o := fun b o e => hsb.extBut b o (Nat.ne_of_lt (Heap.lt_size e)) (Heap.get?_push_of_some _ e)
  have I1 : Inv (ncx (L2.CX P w) P w K mg base N F f A outer s (delC s3.H cu ca) E) [] (startF N vs [some vu, some va]) (delC s3.H cu ca) { s with heap := h₁, toks := s.toks + (ps.zip us).length } := inv_startN S hr.hd e1 hl r C hns kp
  have noA : ∀ b : Addr, b ∉ (ncx (L2.CX P w) P w K mg base N F f A outer s s3.H E).ex := fun b z => absurd (show b ∈ ([] : List Addr) from z) (by simp)
  have I : Inv (ncx (L2.CX P w) P w K mg base N F f A outer s s3.H E) [] (startF N vs [some vu, some va]) (delC s3.H cu ca) { s with heap := h₁, toks := s.toks + (ps.zip us).length } := by
    refine ⟨?_, I1.os, I1.bare, ?_, I1.loc, I1.cell, I1.free, I1.freeC, I1.pin, I1.hok, I1.len⟩
    · obtain ⟨c1, c2, c3, c4, c5, c6, c7, c8, c9, c10, c11, c12, c13, c14, c15, c16, c17, c18⟩ := I1.ok
      exact ⟨c1, c2, c3, c4, c5, c6, c7, c8, c9, c10, c11, c12, fun b o e => e0.bs b o e, c14, c15, c16, c17, fun b hb => e0.frf b hb⟩
    · have off : ∀ b, b ≠ cu → b ≠ ca → delC s3.H cu ca b = s3.H b := fun b h1 h2 => if_neg fun z => z.elim h1 h2
      refine ⟨fun b o e _ _ _ => kp b o e, fun b o e _ _ _ => ⟨_, kp b o e⟩, fun b o _ n _ => ?_, fun b o e _ => ⟨o, kp b o e⟩, fun b xs e => ?_, fun b o xs e => ?_, fun b q e => ⟨#[], ?_⟩⟩
      · show delC s3.H cu ca b = none
        unfold delC
        split
        · rfl
        · exact n
      all_goals
        have n1 : b ≠ cu := fun z => by
          have e : s3.H b = _ := e
          rw [z, hvu] at e
          unfold CellO at e
          cases e
        have n2 : b ≠ ca := fun z => by
          have e : s3.H b = _ := e
          rw [z, hva] at e
          unfold CellO at e
          cases e
        rw [off b n1 n2]
        first
          | exact e
          | (rw [Array.append_empty]; exact e)
  have mr := h f A outer s s3.H E vu va hvu hva ⟨ou, oa, hou, hoa⟩ ⟨nfu, nfa⟩ (hr.deeper _)
  let s4 : S3 := ⟨s3.io, s3.F, delC s3.H cu ca⟩
  have rl2 : RepL G.R s4.F s4.io (ds ++ [du, da]) (vs ++ [vu, va]) := rl.append (.cons ru (.cons ra .nil))
  have lB : ∀ {a : Addr}, B a → a ≠ cu ∧ a ≠ ca := fun {a} b => ⟨fun z => by subst z; exact b1 b, fun z => by subst z; exact b2 b⟩
  -- given back
  have fin2 : ∀ {B' : Addr → Prop} {s' s'' : S3} {st2 : Store} {z' : L2.St} {u' : Sl3} {eu ea : D}, (∀ a, B a → B' a) → Le B s4 s' → Le B' s' s'' → Wd G B' st2 s'' → Slo G none B B' s' u' z' → u'[ps.length]? = some (some (.val eu)) → u'[ps.length + 1]? = some (some (.val ea)) → s''.H cu = none → s''.H ca = none →
      ∃ vu' va', z'[ps.length]? = some (some vu') ∧ z'[ps.length + 1]? = some (some va') ∧ Le B s3 ⟨s''.io, s''.F, addC s''.H cu ca vu' va'⟩ ∧ Wd G B ((st2.set ku (.cell eu)).set ka (.cell ea)) ⟨s''.io, s''.F, addC s''.H cu ca vu' va'⟩ := by
    intro B' s' s'' st2 z' u' eu ea bb l1 l2 w2 sl e1 e2 n1 n2
    obtain ⟨vu', z1, r1⟩ := sl.get e1
    obtain ⟨va', z2, r2⟩ := sl.get e2
    have r1 : Rep G.R s'.F s'.io eu vu' := r1
    have r2 : Rep G.R s'.F s'.io ea va' := r2
    have i1 := l2.io _ _ (l1.io _ _ iu)
    have i2 := l2.io _ _ (l1.io _ _ ia)
    refine ⟨vu', va', z1, z2, ⟨l1.io.trans l2.io, l1.fr.trans l2.fr, fun a b => ?_⟩, (Wd.giveC w2 i1 i2 n1 n2 ne (r1.mono l2.fr l2.io) (r2.mono l2.fr l2.io)).less bb⟩
    obtain ⟨m1, m2⟩ := lB b
    show addC s''.H cu ca vu' va' a = s3.H a
    unfold addC
    rw [upd_ne m2, upd_ne m1, l2.hid a (bb a b), l1.hid a b]
    exact if_neg fun z => z.elim m1 m2
  have start : tRG ⟨ncx (L2.CX P w) P w K mg base N F f A outer s s3.H E, G, none, wxG ps.length cu ca E, hK, hw⟩ mb me (fun v σ' H' => H' cu = none → H' ca = none → ∃ vu' va', σ'[ps.length]? = some (some vu') ∧ σ'[ps.length + 1]? = some (some va') ∧ Q v (addC H' cu ca vu' va')) (startF N vs [some vu, some va]) (delC s3.H cu ca) := by
    refine ⟨B, B, s4, (st.set ku .dead).set ka .dead, (ds ++ [du, da]).map (fun d => some (.val d)) ++ List.replicate (N.length - (ds ++ [du, da]).length) none, rfl, fun _ b => b, wt, ?_, ?_⟩
    · have e : startF N vs [some vu, some va] = L2.start N (vs ++ [vu, va]) := startF_start (N := N) (vs := vs) (ws := [vu, va])
      rw [e]
      exact slo_start (N := N) rl2
    · cases em : mb ((ds ++ [du, da]).map (fun d => some (.val d)) ++ List.replicate (N.length - (ds ++ [du, da]).length) none) ((st.set ku .dead).set ka .dead) with
      | nx u' st1 =>
        rw [em] at hp
        intro B' s' z' bb l' w' sl'
        dsimp only at hp
        split at hp
        · rename_i eu ea x1 x2
          cases er : M.bind (me u') (fun w => M.of w.d) st1 with
          | ok d st2 =>
            rw [er] at hp
            intro s'' v l2 w2 rv n1 n2
            obtain ⟨vu', va', z1, z2, le, wg⟩ := fin2 bb l' l2 w2 sl' x1 x2 n1 n2
            exact ⟨vu', va', z1, z2, hp _ v le wg rv⟩
          | err c x st2 => rw [er] at hp; exact hp.elim
          | bad => rw [er] at hp; exact hp.elim
        · exact hp.elim
      | err c x u' st1 =>
        rw [em] at hp
        intro B' s' z' cv dd bb l' w' sl' xr n1 n2
        dsimp only at hp
        split at hp
        · rename_i eu ea x1 x2
          obtain ⟨vu', va', z1, z2, le, wg⟩ := fin2 bb l' (Le.refl _) w' sl' x1 x2 n1 n2
          refine ⟨vu', va', z1, z2, hp _ cv dd le wg ?_⟩
          unfold ExR at xr ⊢
          exact xr
        · exact hp.elim
      | _ => rw [em] at hp; exact hp.elim
  refine wpAny_mono (mr.out.run [] _ _ _ _ I start) (fun fl s' hs => ?_) fun e s' hs => hs
  cases fl with
  | ret u =>
    obtain ⟨v, σ', H', J, rv, q⟩ := hs
    have m1 : H' cu = none := J.freeC yu cu (by show List.lookup yu F.cl = _; rw [hcl]; simp [List.lookup_cons])
    have m2 : H' ca = none := J.freeC ya ca (by show List.lookup ya F.cl = _; rw [hcl]; simp [List.lookup_cons, hne.2])
    obtain ⟨vu', va', z1, z2, q⟩ := q m1 m2
    have nN : N.take (ps.length + 2) = ps ++ [yu, ya] := S.pre
    have at1 : N[ps.length]? = some yu := by
      have q : (N.take (ps.length + 2))[ps.length]? = some yu := by rw [nN, List.getElem?_append_right (Nat.le_refl _), Nat.sub_self]; rfl
      rwa [List.getElem?_take_of_lt (by omega)] at q
    have at2 : N[ps.length + 1]? = some ya := by
      have q : (N.take (ps.length + 2))[ps.length + 1]? = some ya := by rw [nN, List.getElem?_append_right (Nat.le_add_right _ _), Nat.add_sub_cancel_left]; rfl
      rwa [List.getElem?_take_of_lt (by omega)] at q
    have k1 := S.frk yu (by simp)
    have k2 := S.frk ya (by simp)
    have d1 := M3.Inv.cellAt J (c := cu) at1 (.inr k1) (by show List.lookup yu F.cl = _; rw [hcl]; simp [List.lookup_cons]) z1
    have d2 := M3.Inv.cellAt J (c := ca) at2 (.inr k2) (by show List.lookup ya F.cl = _; rw [hcl]; simp [List.lookup_cons, hne.2]) z2
    have sub : ∀ b o, H' b = some o → addC H' cu ca vu' va' b = some o := fun b o e => by
      unfold addC
      rw [upd_ne (ne_of_none e m2), upd_ne (ne_of_none e m1)]
      exact e
    refine ⟨v, addC H' cu ca vu' va', J.os, J.bare, ⟨fun b o e n hb hx => J.base.keep b o e n hb hx, fun b o e n hb hx => J.base.slot b o e n hb hx, fun b o e n hx => ?_, fun b o e hx => J.base.there b o e hx, fun b xs q => sub b _ (J.base.tups b xs q), fun b o xs q => sub b _ (J.base.frzs b o xs q), fun b p q => let ⟨m, q2⟩ := J.base.tbls b p q; ⟨m, sub b _ q2⟩⟩, hok_add J.hok m1 m2 d1 d2, rv, q⟩
    have q := J.base.free b o e n hx
    have q1 : b ≠ cu := fun z => by subst z; rw [hvu] at n; cases n
    have q2 : b ≠ ca := fun z => by subst z; rw [hva] at n; cases n
    unfold addC
    rw [upd_ne q2, upd_ne q1]
    exact q
  | next => exact hs.elim
  | brk => exact hs.elim
  | cont => exact hs.elim
end
end M3


/-! the def that hands such a def back -/
namespace M3
open PySem PySem.Spec PyProof.Rows L2 LamX NdefX
theorem takesG {P : Program} {w : World} {K : PySem.W.Frag} {mg : Str → Option Value} {base : Heap} {N ps : List Str} {F : NF} {yu ya : Str} {cu ca f : Addr} {A : Around} {outer : List Env} {s : Shared} {H : Hp} {E : XK} {vu va : V} (hcl : F.cl = [(yu, cu), (ya, ca)]) (hne : (ya == yu) = false) (S : NScope N ps [yu, ya] F.scope)
    (hvu : H cu = some (CellO cu vu)) (hva : H ca = some (CellO ca va)) (h0 : ∃ o1 o2, s.heap.get? cu = some o1 ∧ s.heap.get? ca = some o2) (nf : cu ∉ frs outer ∧ ca ∉ frs outer) :
    L2.Takes (ncx (L2.CX P w) P w K mg base N F f A outer s H E) (wxG ps.length cu ca E) := fun u s' x => by
  have nN : N.take (ps.length + 2) = ps ++ [yu, ya] := S.pre
  have at1 : N[ps.length]? = some yu := by
    have q : (N.take (ps.length + 2))[ps.length]? = some yu := by rw [nN, List.getElem?_append_right (Nat.le_refl _), Nat.sub_self]; rfl
    rwa [List.getElem?_take_of_lt (by omega)] at q
  have at2 : N[ps.length + 1]? = some ya := by
    have q : (N.take (ps.length + 2))[ps.length + 1]? = some ya := by rw [nN, List.getElem?_append_right (Nat.le_add_right _ _), Nat.add_sub_cancel_left]; rfl
    rwa [List.getElem?_take_of_lt (by omega)] at q
  exact leaveC (X := ncx (L2.CX P w) P w K mg base N F f A outer s H E) (W := wxG ps.length cu ca E) (E := E) rfl rfl rfl at1 at2 (S.frk yu (by simp)) (S.frk ya (by simp)) (by show List.lookup yu F.cl = _; rw [hcl]; simp [List.lookup_cons]) (by show List.lookup ya F.cl = _; rw [hcl]; simp [List.lookup_cons, hne]) ⟨_, hvu⟩ ⟨_, hva⟩ h0 nf (fun _ _ _ _ h => h) x
/-! ### def name(..): .. in a frame whose cells it captures -/
def tNdefL (T : List NTab) (i : Nat) (mk : Addr → NF) (lk : Str → Option Addr) : TS := fun D σ H => TabsN T H ∧ ∀ (f c' : Addr) (H1 : Hp), ExtN H H1 → (∀ b, H1 b = Option.none → H b = Option.none) → TabsN T H1 → H f = none → H1 f = some (FnO f (mk c')) → H1 c' = some (CodeO c' (mk c').qual) → ((mk c').cl.map (·.2)).Nodup → (∀ p ∈ (mk c').cl, lk p.1 = some p.2) → D.nx (σ.set i (some (.ref f))) H1
theorem ps_ndefL {X : Cx} {T : List NTab} {nm : Nat → Nat → Str} {c P : Addr} {name : Str} {params : Arguments} {body : List Stmt} {scope : Scope} {pos : Pos} {i : Nat} (TB : TabB X.base X.mg c P) (hcode : X.env.code = .ref c) (hm : (P, nm) ∈ T) (hn : nm pos.line pos.col = X.env.qual ++ name) (hu : ∀ p ∈ T, p.1 = P → p.2 = nm)
    (hfree : ∀ y ∈ scope.names, y.2 = .free → X.env.scope.names.lookup y.1 = some .cell ∨ X.env.scope.names.lookup y.1 = some .free) (hd0 : params.defaults = []) (hk0 : params.kw_defaults = []) (ha : annTrees params none X.env = []) (hnd : ((cloFrom X.env.cells scope.names []).map (·.1)).Nodup)
    (hN : X.N.Nodup) (hi : X.N[i]? = some name) (hx : Loc X.env.scope name) (hf : X.fn name = true ∨ X.env.scope.names.lookup name = some .local) :
    PS X (.FunctionDef name params body [] none [] scope none name pos) (tNdefL T i (fun c' => ⟨name, X.env.qual ++ name, params, body, scope, cloFrom X.env.cells scope.names [], c'⟩) fun y => X.env.cells.lookup y) := by
  refine ⟨fun pins s σ H D I h => ?_⟩
  obtain ⟨hT, h⟩ := h
  have hq : qualnameIn X.env name name = X.env.qual ++ name := by
    have hk : X.env.kindOf name = some .local ∨ X.env.kindOf name = some .cell := hx
    unfold qualnameIn
    rcases hk with k | k <;> rw [k] <;> first | rfl | exact if_neg (by decide)
  refine PySem.W.nestDef_K hd0 hk0 ha ?_
  rw [hq]
  have hfr : ∀ y ∈ scope.names, y.2 = .free → ∃ c, X.env.cells.lookup y.1 = some c := fun y hy e => (hfree y hy e).elim (fun z => I.ok.has _ (.inl z)) fun z => I.ok.has _ (.inr z)
  refine ndef_make I TB hcode hm hn hu hT hfr fun f c' H1 s' I1 eN nn T1 f0 f1 c1 => ?_
  exact store_ok I1 hN hi hx (v := .ref f) rfl (fun s'' J => ⟨_, H1, J, h f c' H1 eN nn T1 f0 f1 c1 (clo_nodup I.ok hfr hnd) fun p hp => clo_at hfr hp⟩) hf
def sDef (c : String) (i : Nat) (js : List Nat) : SM := fun u st => .nx (u.set i (some (.val (.fn c (List.range' st.length js.length))))) (st ++ js.map .slp)
theorem ms_ndef {P : P3} {cd : String} {nm : Nat → Nat → Str} {c T : Addr} {name : Str} {params : Arguments} {body : List Stmt} {scope : Scope} {pos : Pos} {fr : List Str} {js : List Nat} (i : Nat) (ow : Owner P) (TB : TabB P.X.base P.X.mg c T) (hcode : P.X.env.code = .ref c) (hm : (T, nm) ∈ P.G.tabs) (hu : ∀ p ∈ P.G.tabs, p.1 = T → p.2 = nm)
    (hn : nm pos.line pos.col = P.X.env.qual ++ name) (hnf : ∀ (c' : Addr) (cl : List (Str × Addr)), cl.map (·.1) = fr → P.G.nf cd ⟨fun p => FnO p ⟨name, P.X.env.qual ++ name, params, body, scope, cl, c'⟩, c', P.X.env.qual ++ name, cl⟩)
    (hfree : ∀ y ∈ scope.names, y.2 = .free → P.X.env.scope.names.lookup y.1 = some .cell ∨ P.X.env.scope.names.lookup y.1 = some .free) (hN : P.X.N.Nodup) (hd0 : params.defaults = [] := by rfl) (hk0 : params.kw_defaults = [] := by rfl) (ha : annTrees params none P.X.env = [] := by rfl)
    (hfr : (cloFrom P.X.env.cells scope.names []).map (·.1) = fr := by rfl) (hnd : fr.Nodup := by decide) (hjs : js.map (fun j => P.X.N[j]?) = fr.map some := by rfl) (hi : P.X.N[i]? = some name := by rfl) (hx : Loc P.X.env.scope name := by first | exact .inl rfl | exact .inr rfl) :
    MS P (.FunctionDef name params body [] none [] scope none name pos) (sDef cd i js) := by
  refine MS.mk' (ps_ndefL (i := i) TB hcode hm hn hu hfree hd0 hk0 ha (by rw [hfr]; exact hnd) hN hi hx (.inl (ow.fn _))) fun B0 B s st u z D b0 wd sl h => ⟨wd.tabsN, fun f c' H1 eN _ T1 f0 f1 c1 hN2 hlk => ?_⟩
  have hl : (cloFrom P.X.env.cells scope.names []).length = js.length := by
    have q := congrArg List.length hfr
    have q2 := congrArg List.length hjs
    simp only [List.length_map] at q q2
    omega
  have hq : ∀ i j : Nat, js[i]? = some j → ∃ a, ((cloFrom P.X.env.cells scope.names []).map (·.2))[i]? = some a ∧ P.G.own j = some a := fun i j ej => by
    have hj : (js.map (fun j => P.X.N[j]?))[i]? = some (P.X.N[j]?) := by rw [List.getElem?_map, ej]; rfl
    rw [hjs, List.getElem?_map] at hj
    obtain ⟨y, ey, eN'⟩ := Option.map_eq_some_iff.mp hj
    rw [← hfr, List.getElem?_map] at ey
    obtain ⟨⟨y', a⟩, ey2, rfl⟩ := Option.map_eq_some_iff.mp ey
    refine ⟨a, by rw [List.getElem?_map, ey2]; rfl, ?_⟩
    have hmem : (y', a) ∈ cloFrom P.X.env.cells scope.names [] := List.mem_of_getElem? ey2
    have hmf : (y', NameKind.free) ∈ scope.names := by
      rcases cloFrom_mem hmem with z | ⟨z, _⟩
      · cases z
      · exact z
    rw [ow.own]
    unfold ownOf
    rw [← eN']
    dsimp only
    rw [if_pos (hfree _ hmf rfl)]
    exact hlk _ hmem
  obtain ⟨F1, w1, l1, e1, e2⟩ := wd.lam (js := js) (as := (cloFrom P.X.env.cells scope.names []).map (·.2)) eN T1 f0 f1 (by intro ps q; cases q) hq (by rw [List.length_map]; exact hl)
  have rr : Rep P.G.R F1 (ioApp s.io st.length ((cloFrom P.X.env.cells scope.names []).map (·.2))) (.fn cd (List.range' st.length js.length)) (.ref f) := by
    refine Rep.fn (Fn := ⟨fun p => FnO p ⟨name, P.X.env.qual ++ name, params, body, scope, cloFrom P.X.env.cells scope.names [], c'⟩, c', P.X.env.qual ++ name, cloFrom P.X.env.cells scope.names []⟩) e1 (hnf c' _ hfr) (e2 c' _ c1) ?_ hN2
    have q := ioApp_new (io := s.io) (n := st.length) (as := (cloFrom P.X.env.cells scope.names []).map (·.2))
    rw [List.length_map, hl, List.map_map] at q
    exact q
  exact h B ⟨_, F1, H1⟩ _ b0 (l1.less b0) w1 ((sl.mono' l1).set rr i)
/-! ### the def around it: def f(*v), whose cells go with the function that it hands back -/
/-- the mirror; iu, ia: the slots of what is captured -/
def mfnH (N iu ia : Nat) (mb : SM) (me : EM) : List D → M D := fun ds st => if ds.length ≤ 1000 then
    match mb ([some (.val (.ctup ds))] ++ List.replicate (N - 1) none) st with
    | .nx u st1 => match u[iu]?, u[ia]? with
      | some (some (.val eu)), some (some (.val ea)) => match M.bind (me u) (fun w => M.of w.d) st1 with
        | .ok (.fn c [ku, ka]) st2 => match st2[ku]?, st2[ka]? with
          | some (.slp ju), some (.slp ja) => if ju = iu ∧ ja = ia then .ok (.fn c [ku, ka]) (((st2.map MO.nap).set ku (.cell eu)).set ka (.cell ea)) else .bad
          | _, _ => .bad
        | _ => .bad
      | _, _ => .bad
    | _ => .bad
  else .bad
section
variable {P : Program} {w : World} {K : PySem.W.Frag} {mg : Str → Option Value} {base : Heap}
theorem fn_okH {G : G3} (hK : K = G.K) (hw : w = G.w) {x qual : Str} {st : Stmt} {f c : Addr} {fd : FuncData} {N : List Str} {pv yu ya : Str} {k iu ia : Nat} {mb : SM} {me : EM} (F : Fun K x qual st f fd) (hc : fd.code = .ref c) (S : FnScope N [pv] (defScope st))
    (hu : N[iu]? = some yu) (ha : N[ia]? = some ya) (ku : (defScope st).names.lookup yu = some .cell) (ka : (defScope st).names.lookup ya = some .cell) (hne : yu ≠ ya)
    (hb : ∀ rest : List Value, bindArgs fd ⟨rest, []⟩ = (newTuple rest >>= fun t => pure [(pv, t)]))
    (h : ∀ (A : Around) (outer : List Env) (s : Shared) (H : Hp) (E : XK), Room k (A.deeper (envOfC qual (defScope st) s.heap.objs.size f (.ref c))) →
      MR ⟨cxOf (L2.CX P w) P w K mg base N qual (defScope st) f (.ref c) A outer s H E, (G.at base).owning (ownOf N (defScope st) (envOfC qual (defScope st) s.heap.objs.size f (.ref c)).cells), none, fun cls d _ H => E cls d H, hK, hw⟩ (defBody st) mb me) :
    FnR P w K mg base (L2.CX P w) (k + 1) f (spR (G.at base) (mfnH N.length iu ia mb me)) := by
  obtain ⟨oc, od, kV, doc, pm, an, cdv, ct, osl, rfl, lk, hcd⟩ := F.ex
  obtain rfl : cdv = .ref c := hc
  intro A outer s0 H us vs Q E hr e0 r ⟨B, s, o, ds, eH, wd, rl, hp⟩
  subst eH
  unfold mfnH at hp
  by_cases hlen : ds.length ≤ 1000
  · rw [if_pos hlen] at hp
    have KX : K.In s0.heap := e0.mod.kin.keeps fun b o e => (e0.bs b o e).1
    have hn : s.H s0.heap.objs.size = Option.none := e0.hok.fresh (Nat.le_refl _)
    have lv : vs.length ≤ sizeLine := by rw [← rl.length, sizeLine_eq]; omega
    have lu : us.length ≤ sizeLine := by rw [← r.length]; exact lv
    refine codeAny_call_function hr.depth (KX _ _ lk) rfl S.co S.gen rfl (PySem.W.codeRec_of KX hcd) ?_
    rw [hb us]
    refine wpAny_bind (wpAny_newTuple (wpAny_pure ?_) lu)
    have new : ObjOk P w (upd s.H s0.heap.objs.size (.tup vs)) (s0.heap.push ({ cls := .type "tuple", data := .seq us.toArray } : Obj)) s0.heap.objs.size (.tup vs) := ⟨lv, us, r, ⟨_, Heap.get?_push_size _ rfl, rfl, _, rfl⟩⟩
    have un := StX.un_laid (fs := frs outer) (s := s0) (o := ({ cls := .type "tuple", data := .seq us.toArray } : Obj)) (u := .tup vs) hn
    have e2 : Env0 P w K mg base A outer { s0 with heap := s0.heap.push ({ cls := .type "tuple", data := .seq us.toArray } : Obj) } (upd s.H s0.heap.objs.size (.tup vs)) := StX.env0_laid e0 new
    have lim : ({ s0 with heap := s0.heap.push ({ cls := .type "tuple", data := .seq us.toArray } : Obj) } : Shared).heap.NoLimit := e0.mod.nolimit.keeps fun b o e => (e2.bs b o e).1
    have hkind : ∀ y ∈ [(pv, Value.ref s0.heap.objs.size)], (defScope st).names.lookup y.1 = some .local ∨ ((defScope st).names.lookup y.1 = some .cell ∧ ((cellsFrom (({ s0 with heap := s0.heap.push ({ cls := .type "tuple", data := .seq us.toArray } : Obj) } : Shared).heap.objs.size + 1) (defScope st).names []).lookup y.1).isSome = true) := fun y hy => by
      rcases List.mem_singleton.mp hy with rfl
      rcases S.par pv (by simp) with q | q
      · exact .inl q
      · exact .inr ⟨q, PySem.W.cellsFrom_some _ _ _ (.inl q)⟩
    refine wpAny_newFunctionEnv_cells (s := { s0 with heap := s0.heap.push ({ cls := .type "tuple", data := .seq us.toArray } : Obj) }) S.kind hkind fun env he s1 x => ?_
    subst he
    refine ⟨lim.keeps x.toInCall.keep, codeAny_func ?_⟩
    obtain ⟨w2, l2⟩ := wd.froz hn (.tup vs)
    have un2 : Un (frs outer) [] s.H (upd s.H s0.heap.objs.size (.tup vs)) s0.heap ({ s0 with heap := s0.heap.push ({ cls := .type "tuple", data := .seq us.toArray } : Obj) } : Shared).heap := un
    have os2 : ({ s0 with heap := s0.heap.push ({ cls := .type "tuple", data := .seq us.toArray } : Obj) } : Shared).os = s0.os := rfl
    have kp2 : ∀ b o, s0.heap.get? b = some o → ({ s0 with heap := s0.heap.push ({ cls := .type "tuple", data := .seq us.toArray } : Obj) } : Shared).heap.get? b = some o := fun b o q => Heap.get?_push_of_some _ q
    have sz2 : s0.heap.objs.size ≤ ({ s0 with heap := s0.heap.push ({ cls := .type "tuple", data := .seq us.toArray } : Obj) } : Shared).heap.objs.size := by
      show _ ≤ (s0.heap.push _).objs.size
      rw [Heap.size_push]
      exact Nat.le_succ _
    generalize ({ s0 with heap := s0.heap.push ({ cls := .type "tuple", data := .seq us.toArray } : Obj) } : Shared) = s2 at e2 lim x un2 os2 kp2 sz2 ⊢
    have mr := h A outer s2 (upd s.H s0.heap.objs.size (.tup vs)) E (hr.deeper _)
    have I := inv_start (CX := L2.CX P w) (P := P) (w := w) (N := N) (E := E) (vs := [.ref s0.heap.objs.size]) S hr.hd e2 rfl (.cons rfl .nil) x
    let cells := (envOfC qual (defScope st) s2.heap.objs.size f (.ref c)).cells
    have rl2 : RepL (G.at base).R (s.froz s0.heap.objs.size (.tup vs)).F (s.froz s0.heap.objs.size (.tup vs)).io [.ctup ds] [.ref s0.heap.objs.size] := .cons (.ctup (.inl (.inl upd_same)) (rl.mono l2.fr l2.io)) .nil
    have start : tRG ⟨cxOf (L2.CX P w) P w K mg base N qual (defScope st) f (.ref c) A outer s2 (upd s.H s0.heap.objs.size (.tup vs)) E, (G.at base).owning (ownOf N (defScope st) (envOfC qual (defScope st) s2.heap.objs.size f (.ref c)).cells), none, fun cls d _ H => E cls d H, hK, hw⟩ mb me
        (fun v σ' H' => ∀ cu ca, cells.lookup yu = some cu → cells.lookup ya = some ca → H' cu = none → H' ca = none → ∃ vu va, σ'[iu]? = some (some vu) ∧ σ'[ia]? = some (some va) ∧ Q v (addC H' cu ca vu va)) (L2.start N [.ref s0.heap.objs.size]) (upd s.H s0.heap.objs.size (.tup vs)) := by
      refine ⟨B, B, s.froz s0.heap.objs.size (.tup vs), o, [some (.val (.ctup ds))] ++ List.replicate (N.length - 1) none, rfl, fun _ b => b, w2.owned, slo_start (G := (G.at base).owning (ownOf N (defScope st) (envOfC qual (defScope st) s2.heap.objs.size f (.ref c)).cells)) (N := N) (ds := [D.ctup ds]) rl2, ?_⟩
      cases em : mb ([some (.val (.ctup ds))] ++ List.replicate (N.length - 1) none) o with
      | nx u' st1 =>
        rw [em] at hp
        intro B' s' z' bb l' w' sl'
        dsimp only at hp
        split at hp
        · rename_i eu ea x1 x2
          cases er : M.bind (me u') (fun w => M.of w.d) st1 with
          | ok d st2 =>
            rw [er] at hp
            split at hp
            · rename_i q1 q2 cn j1 j2 st2' q3
              split at hp
              · rename_i ju ja g1 g2
                split at hp
                · rename_i hj
                  cases q3
                  obtain ⟨rfl, rfl⟩ := hj
                  intro s'' v l3 w3 rv cu ca e1 e2 n1 n2
                  obtain ⟨vu, z1, r1⟩ := sl'.get x1
                  obtain ⟨va, z2, r2⟩ := sl'.get x2
                  have r1 : Rep (G.at base).R s'.F s'.io eu vu := r1
                  have r2 : Rep (G.at base).R s'.F s'.io ea va := r2
                  have ownAt : ∀ {i : Nat} {y : Str} {a : Addr}, N[i]? = some y → (defScope st).names.lookup y = some .cell → cells.lookup y = some a → ownOf N (defScope st) cells i = some a := fun {i y a} hy hk ha => by
                    unfold ownOf
                    rw [hy]
                    dsimp only
                    rw [if_pos (.inl hk)]
                    exact ha
                  obtain ⟨au, i1, o1⟩ := w3.unt _ _ g1 rfl
                  obtain ⟨aa, i2, o2⟩ := w3.unt _ _ g2 rfl
                  have o1 : ownOf N (defScope st) cells ju = some au := o1
                  have o2 : ownOf N (defScope st) cells ja = some aa := o2
                  rw [ownAt hu ku e1] at o1
                  rw [ownAt ha ka e2] at o2
                  cases o1
                  cases o2
                  have ne : cu ≠ ca := fun z => by
                    subst z
                    exact hne (I.ok.inj yu ya cu e1 e2)
                  have wg := Wd.giveC (Wd.disown w3) i1 i2 n1 n2 ne (r1.mono l3.fr l3.io) (r2.mono l3.fr l3.io)
                  have keepB : ∀ a, B a → s''.H a = s.H a := fun a b => by rw [l3.hid a (bb a b), l'.hid a b, l2.hid a b]
                  refine ⟨vu, va, z1, z2, hp ⟨s''.io, s''.F, addC s''.H cu ca vu va⟩ v ⟨(l2.io.trans l'.io).trans l3.io, (l2.fr.trans l'.fr).trans l3.fr, fun a b => ?_⟩ (wg.less bb) rv⟩
                  obtain ⟨_, o', h2, _⟩ := wd.hid a b
                  show addC s''.H cu ca vu va a = s.H a
                  unfold addC
                  have q := keepB a b
                  rw [upd_ne (fun z => by rw [z, n2] at q; rw [z, ← q] at h2; cases h2), upd_ne (fun z => by rw [z, n1] at q; rw [z, ← q] at h2; cases h2), q]
                · exact hp.elim
              · exact hp.elim
            · exact hp.elim
          | err c x st2 => rw [er] at hp; exact hp.elim
          | bad => rw [er] at hp; exact hp.elim
        · exact hp.elim
      | _ => rw [em] at hp; exact hp.elim
    refine wpAny_mono (mr.out.run [] _ _ _ _ I start) (fun fl s' hs => ?_) fun e s' hs => ?_
    · cases fl with
      | ret u =>
        obtain ⟨v, σ', H', J, rv, q⟩ := hs
        obtain ⟨cu, e1⟩ := J.ok.has yu (.inl ku)
        obtain ⟨ca, e2⟩ := J.ok.has ya (.inl ka)
        have m1 := J.freeC yu cu e1
        have m2 := J.freeC ya ca e2
        obtain ⟨vu, va, z1, z2, q⟩ := q cu ca e1 e2 m1 m2
        have d1 := M3.Inv.cellAt J hu (.inl ku) e1 z1
        have d2 := M3.Inv.cellAt J ha (.inl ka) e2 z2
        have ab1 : s2.heap.objs.size ≤ cu := J.ok.cab yu cu rfl e1
        have ab2 : s2.heap.objs.size ≤ ca := J.ok.cab ya ca rfl e2
        have sub : ∀ b o, H' b = some o → addC H' cu ca vu va b = some o := fun b o e => by
          unfold addC
          rw [upd_ne (ne_of_none e m2), upd_ne (ne_of_none e m1)]
          exact e
        have uu := un2.trans J.base
        refine ⟨v, addC H' cu ca vu va, J.os.trans os2, J.bare, ⟨uu.keep, uu.slot, fun b o e n hx => ?_, uu.there, fun b xs q => sub b _ (uu.tups b xs q), fun b o xs q => sub b _ (uu.frzs b o xs q), fun b p q => let ⟨m, q2⟩ := uu.tbls b p q; ⟨m, sub b _ q2⟩⟩, hok_add J.hok m1 m2 d1 d2, rv, q⟩
        have q := uu.free b o e n hx
        have lt := Heap.lt_size e
        unfold addC
        rw [upd_ne (fun z => by rw [z] at lt; exact absurd (Nat.lt_of_lt_of_le lt (Nat.le_trans sz2 ab2)) (Nat.lt_irrefl _)), upd_ne (fun z => by rw [z] at lt; exact absurd (Nat.lt_of_lt_of_le lt (Nat.le_trans sz2 ab1)) (Nat.lt_irrefl _))]
        exact q
      | next => exact hs.elim
      | brk => exact hs.elim
      | cont => exact hs.elim
    · exact wpAny_mono hs (fun _ s'' z => StX.cxUp (P := P) (w := w) outer s0 s.H _ _ E e s'' un2 kp2 os2 z) fun e' s'' z => StX.cxUp (P := P) (w := w) outer s0 s.H _ _ E e' s'' un2 kp2 os2 z
  · rw [if_neg hlen] at hp
    exact hp.elim
end
end M3


/-! properties read while an exception is handled -/
namespace M3
open PySem PySem.Spec PyProof.Rows L2
section
variable {X : Cx} {k : Nat} {C p g a dx : Addr} {fs : List (Str × V)} {f : Str} {fd : FuncData} {ps : List Str} {sp : List (Option V) → Hp → VK → Prop} {e : Expr} {pos : Pos} {ta : TE}
theorem getprop_okQ {pins : List (Addr × Obj)} {σ : L2.St} {H : Hp} {s : Shared} {Q : VK} {b : Bool} {E' : Value → Shared → Prop} (I : Inv X pins σ H s) (ea : H a = some (.ins C dx fs)) (c : Cls X.K C) (hp : PropOf X.K C f p g)
    (F : FnQ X.prog X.w X.K X.mg X.base k g fd ps sp) (hr : RoomQ (k + 1) X.A) (hb : Binds X.K fd ps []) (hl : ps.length = 1) (h : sp [some (.ref a)] H Q) :
    wpAny (model X.prog X.w) X.A (getAttr (.ref a) f b) (EP X pins σ Q) E' s := by
  obtain ⟨mA, O, _, _, _, _⟩ := ins_get I.hok ea
  obtain ⟨od, J, _⟩ := O.look
  obtain ⟨rest, hrec⟩ := hp.rec_
  have I1 : Inv X pins σ H { s with toks := s.toks + 1 } := I.tok (s.toks + 1)
  have hc : (PySem.W.clsIn X.K C).isSome = true := by
    obtain ⟨cd, hc, _⟩ := PySem.W.any_some c.hd
    rw [hc]
    rfl
  have bb := hb { s with toks := s.toks + 1 } [.ref a] I1.kIn (by simp [hl])
  rw [List.append_nil] at bb
  refine PySem.W.get_bind I.kIn J (PySem.W.plainGet_of (c.get f)).1 (PySem.W.findObj_data hc hp.at_ hp.get hp.tak) (PySem.W.plainGet_of (c.get f)).2 (wpAny_call (PySem.W.prop_get (s := { s with toks := s.toks + 1 }) I.kIn hrec ?_))
  refine codeAny_mono (F.run X.A.in1 X.stack { s with toks := s.toks + 1 } H ⟨[.ref a], []⟩ [.ref a] [some (.ref a)] Q ⟨?_, ?_⟩ I1.env0.in1 bb (by simp [hl]) (by simp [hl]) (fun i v hv => ?_) h) fun r s' hq => ?_
  · have := hr.dp
    show X.A.depth + 3 * k + 5 < _
    omega
  · have := hr.un
    show X.A.units + 1 + 16 * k + 200 < _
    omega
  · match i, hv with
    | 0, hv => simp at hv; subst hv; exact ⟨_, rfl, rfl⟩
    | n + 1, hv => simp at hv
  · cases r with
    | error er => exact (show False from hq).elim
    | ok fl =>
      cases fl with
      | ret u =>
        obtain ⟨v, H', I3, rv, q3⟩ := I1.after hq
        show wpAny _ _ (handedOut u) _ _ _
        rw [PySem.W.handedOut_of (handed_of rv)]
        exact wpAny_pure ⟨v, H', I3, rv, q3⟩
      | next => exact False.elim hq
      | brk => exact False.elim hq
      | cont => exact False.elim hq
theorem pe_propQ (he : PE X e ta) (c : Cls X.K C) (hp : PropOf X.K C f p g) (F : FnQ X.prog X.w X.K X.mg X.base k g fd ps sp) (hr : RoomQ (k + 1) X.A) (hb : Binds X.K fd ps []) (hl : ps.length = 1)
    (hab : attributeBase e f X.env (eval e X.env) = eval e X.env) : PE X (.Attribute e f pos) (fun σ H Q => ta σ H fun x H1 => ∃ a dx fs, x = .ref a ∧ H1 a = some (.ins C dx fs) ∧ sp [some (.ref a)] H1 Q) := by
  refine ⟨fun pins s σ H Q I h => ?_⟩
  refine attr_of hab (thn (he.run pins s σ H _ I h) fun u s1 ⟨x, H1, I1, rx, a, dx, fs, ex, ea, q⟩ => ?_)
  subst ex
  obtain rfl : u = Value.ref a := rx
  exact getprop_okQ I1 ea c hp F hr hb hl q
end
structure PropOkQ (Pg : Program) (w : World) (K : PySem.W.Frag) (mg : Str → Option Value) (base : Heap) (G : G3) (k : Nat) (f : Str) (c : String) (mf : List D → M D) : Prop where
  ex : ∃ C p g fd ps, G.cls c = some C ∧ Cls K C ∧ PropOf K C f p g ∧ Binds K fd ps [] ∧ ps.length = 1 ∧ FnQ Pg w K mg base k g fd ps (spQ G 1 mf)
section
variable {P : P3} {pos : Pos} {o : Expr} {mo : EM} {k j : Nat} {c : String} {mf : List D → M D}
theorem me_propQ {f : Str} (h : PropOkQ P.X.prog P.X.w P.X.K P.X.mg P.X.base P.G k f c mf) (hr : RoomQ j P.X.A) (hk : k + 1 ≤ j) (ho : ME P o mo) (hab : attributeBase o f P.X.env (eval o P.X.env) = eval o P.X.env := by rfl) :
    ME P (.Attribute o f pos) (eProp c mf mo) := by
  obtain ⟨C, p, g, fd, ps, hcl, hc, hp, hb, hl, F⟩ := h.ex
  obtain ⟨to, po, hto⟩ := ho.out
  refine ME.mk' (pe_propQ po hc hp F (hr.mono hk) hb hl hab) fun B0 B s st u z Q wd sl hp => hto B0 B s st u z _ wd sl (Post.bind hp fun w st1 s1 v l1 wd1 r1 h1 => ?_)
  obtain ⟨i, c', fs, a, C', dx, gs, rfl, rfl, eio, ek, ec, eh, rf, nb, hF, h1⟩ := Post.of_ins wd1 r1 h1
  obtain ⟨hcc, h2⟩ := Post.of_chk h1
  have hcc : c' = c := hcc
  subst hcc
  rw [hcl] at ec
  cases ec
  refine ⟨a, dx, gs, rfl, eh, [.ref a], B, s1, st1, [.ref i], rfl, rfl, wd1, .cons (.ref eio) .nil, ?_⟩
  unfold M.bind M.quiet at h2
  dsimp only at h2
  cases em : mf [.ref i] st1 with
  | ok d st' => rw [em] at h2; exact fun s' v l w r => h2 s' v l w r
  | err c x st' => rw [em] at h2; exact h2.elim
  | bad => rw [em] at h2; exact h2.elim
end
section
variable {Pg : Program} {w : World} {K : PySem.W.Frag} {mg : Str → Option Value} {base b : Heap} {G : G3} {k n : Nat} {x f : Str} {c : String} {m : List D → M D} {w' : Nat → Option Addr}
theorem spQ_nap (hb : KnowsTo G.base b) {n : Nat} {m : List D → M D} {ws : List (Option V)} {H : Hp} {Q : VK} (h : spQ G n (nap m) ws H Q) : spQ (G.at b) n m ws H Q := by
  obtain ⟨vs, B, s, st, ds, e1, e, wd, rl, hp⟩ := h
  exact ⟨vs, B, s, _, ds, e1, e, wd.nap hb, rl, nap_post (fun _ _ _ r => r) wd hp⟩
theorem FnQ.imp {f : Addr} {fd : FuncData} {ps : List Str} {sp sp' : List (Option V) → Hp → VK → Prop} (F : FnQ Pg w K mg base k f fd ps sp) (h : ∀ ws H Q, sp' ws H Q → sp ws H Q) : FnQ Pg w K mg base k f fd ps sp' :=
  ⟨fun A outer s H args us ws Q a1 a2 a3 a4 a5 a6 a7 => F.run A outer s H args us ws Q a1 a2 a3 a4 a5 a6 (h _ _ _ a7)⟩
theorem PropOkQ.ow (h : PropOkQ Pg w K mg base (G.at base) k f c m) : PropOkQ Pg w K mg base ((G.at base).owning w') k f c (M3.nap m) := by
  obtain ⟨C, p, g, fd, ps, a1, a2, a3, a4, a5, F⟩ := h.ex
  exact ⟨C, p, g, fd, ps, a1, a2, a3, a4, a5, F.imp fun _ _ _ h => spQ_nap (G := (G.at base).owning w') (b := base) (KnowsTo.refl _) h⟩
end
end M3
namespace M3
theorem cl_two {a b : PySem.Str} : ∀ {cl : List (PySem.Str × PySem.Addr)}, cl.map (·.1) = [a, b] → ∃ x y, cl = [(a, x), (b, y)]
  | [(_, x), (_, y)], h => by
    simp only [List.map_cons, List.map_nil, List.cons.injEq, and_true] at h
    obtain ⟨rfl, rfl⟩ := h
    exact ⟨x, y, rfl⟩
  | [], h => by cases h
  | [_], h => by cases h
  | _ :: _ :: _ :: _, h => by simp at h
end M3
namespace M3
open PySem
def stT : Stmt → Expr
  | .If e _ _ _ => e
  | .While e _ _ _ => e
  | _ => noE
def exC : Expr → Expr
  | .Compare e _ _ _ => e
  | _ => noE
def exB (i : Nat) : Expr → Expr
  | .BoolOp _ es _ => es.getD i noE
  | _ => noE
end M3


/-! x[i], x a list of the store -/
namespace M3
open PySem PySem.Spec PyProof.Rows L2
def eIxS (i : Int) (ma : EM) : EM := fun u => M.bind (ma u) fun w => M.bind (lstOf w) fun q => M.of ((atI q.2 i).map W.val)
section
variable {P : P3} {pos : Pos} {a b : Expr} {ma : EM}
theorem me_ixS (i : Int) (ha : ME P a ma) (hb : ME P b (eC (.int i))) (hs : PlainIx b := by first | exact fun _ _ => rfl | (intro _ _; rfl)) : ME P (.Subscript a b pos) (eIxS i ma) := by
  obtain ⟨ta, pa, ha⟩ := ha.out
  obtain ⟨tb, pb, hb⟩ := hb.out
  refine ME.mk' (pe_ix ix_seq pa pb hs) fun B0 B s st u z Q wd sl hp => ha B0 B s st u z _ wd sl (Post.bind hp fun w1 st1 s1 v1 l1 wd1 r1 h1 => ?_)
  obtain ⟨k, xs, a, vs, rfl, rfl, eio, ek, eh, rl, nb, hF, h1⟩ := Post.of_lst wd1 r1 h1
  obtain ⟨w, e, h1⟩ := of_eq h1
  refine hb B0 B s1 st1 u z _ wd1 (sl.mono' l1) ?_
  intro s2 v2 l2 wd2 r2
  have r2 : Rep P.G.R s2.F s2.io (.int i) v2 := r2
  cases r2
  obtain ⟨a', e1, nb', hF', vs', eh', rl'⟩ := wd2.obj _ _ ek rfl
  rw [l2.io _ _ eio] at e1
  cases e1
  cases h5 : atI xs i with
  | none => rw [show (k, xs).2 = xs from rfl, h5] at e; cases e
  | some d' =>
    rw [show (k, xs).2 = xs from rfl, h5] at e
    cases e
    obtain ⟨v, e6, rv⟩ := atI_rep rl' h5
    exact .inl ⟨a, vs', i, v, rfl, rfl, .inl (.inl eh'), e6, (Post.mono l2 h1).pure wd2 rv⟩
end
section
variable {kw : Res W → Prop} {st : Store} {u : Sl3} {ma : AM} {m : EM}
@[simp] theorem run_eIxS (i : Int) : run (eIxS i m u st) kw = run (m u st) (kBind (fun w => M.bind (lstOf w) fun q => M.of ((atI q.2 i).map W.val)) kw) := run_bind _ _
@[simp] theorem run_eCallRp (f : List D → M D) : run (eCallRp f ma u st) kw = run (ma u st) (kBind (fun ws => M.bind (M.of (asDs ws)) fun ds => M.bind (f ds) fun d => M.pure (.val d)) kw) := run_bind _ _
end
end M3


namespace My
open PySem L2 M3
theorem range_get {n i : Nat} {d : D} (h : (rangeD 0 n)[i]? = some d) : d = .int i ∧ i < n := by
  unfold rangeD at h
  rw [List.getElem?_map] at h
  by_cases hi : i < n
  · rw [List.getElem?_range hi] at h
    simp at h
    exact ⟨h.symm, hi⟩
  · rw [List.getElem?_eq_none (by simpa using hi)] at h; cases h
theorem rangeD_length (lo : Int) (n : Nat) : (rangeD lo n).length = n := by simp [rangeD]
/-! texts by their signs -/
def S (l : List Nat) : Str := ⟨l.toArray⟩
@[simp] theorem S_length (l : List Nat) : (S l).length = l.length := by show l.toArray.size = _; simp
@[simp] theorem S_list (l : List Nat) : (S l).cps.toList = l := by simp [S]
theorem S_app (a b : List Nat) : S a ++ S b = S (a ++ b) := by
  show (⟨a.toArray ++ b.toArray⟩ : Str) = ⟨(a ++ b).toArray⟩
  simp
theorem S_inj {a b : List Nat} (h : S a = S b) : a = b := by have := congrArg (fun z : Str => z.cps.toList) h; simpa using this
theorem S_eta (z : Str) : S z.cps.toList = z := by cases z; simp [S]
theorem S_cut (l : List Nat) (lo hi : Option Int) : cutS (S l) lo hi = S (cutD l lo hi) := by
  unfold cutS cutD
  rw [S_list, S_length]
  rfl
theorem cut_to {α : Type} (xs : List α) {i : Int} (h : 0 ≤ i) : cutD xs none (some i) = xs.take i.toNat := by
  obtain ⟨n, rfl⟩ := Int.eq_ofNat_of_zero_le h
  unfold cutD
  rw [HT.sIx_none, HT.sIx_nat]
  simp [List.take_eq_take_iff]
theorem cut_from {α : Type} (xs : List α) {i : Int} (h : 0 ≤ i) : cutD xs (some i) none = xs.drop i.toNat := by
  obtain ⟨n, rfl⟩ := Int.eq_ofNat_of_zero_le h
  unfold cutD
  rw [HT.sIx_none, HT.sIx_nat]
  simp only [Int.toNat_natCast]
  by_cases q : n ≤ xs.length
  · rw [Nat.min_eq_left q]; exact List.take_of_length_le (by simp)
  · rw [Nat.min_eq_right (by omega), List.drop_eq_nil_of_le (Nat.le_refl _), List.drop_eq_nil_of_le (by omega)]; simp
theorem cut_mid {α : Type} (xs : List α) {i j : Int} (h : 0 ≤ i) (h' : 0 ≤ j) : cutD xs (some i) (some j) = (xs.drop i.toNat).take (j.toNat - i.toNat) := by
  obtain ⟨n, rfl⟩ := Int.eq_ofNat_of_zero_le h
  obtain ⟨m, rfl⟩ := Int.eq_ofNat_of_zero_le h'
  unfold cutD
  rw [HT.sIx_nat, HT.sIx_nat]
  simp only [Int.toNat_natCast]
  by_cases q : n ≤ xs.length
  · rw [Nat.min_eq_left q]
    rw [List.take_eq_take_iff]
    simp only [List.length_drop]
    omega
  · rw [Nat.min_eq_right (a := n) (by omega), List.drop_eq_nil_of_le (Nat.le_refl _), List.drop_eq_nil_of_le (by omega)]; simp
theorem mul_one_sign (c n : Nat) : Txt.mul (S [c]) (n : Int) = S (List.replicate n c) := by
  unfold Txt.mul
  by_cases h0 : (n : Int) < 1
  · rw [if_pos h0]
    have : n = 0 := by omega
    subst this; rfl
  · rw [if_neg h0]
    by_cases h1 : n = 1
    · subst h1; rfl
    · rw [if_neg (by simp only [S_length, Bool.or_eq_true, beq_iff_eq, List.length_cons, List.length_nil]; omega)]
      unfold S
      congr 1
      have all : ∀ (n : Nat) (acc : List Nat), List.foldl (fun x1 x2 => x1 ++ x2) acc.toArray (List.replicate n [c].toArray) = (acc ++ List.replicate n c).toArray := by
        intro n
        induction n with
        | zero => intro acc; simp
        | succ n ih =>
          intro acc
          rw [List.replicate_succ, List.foldl_cons]
          have : acc.toArray ++ [c].toArray = (acc ++ [c]).toArray := by simp
          rw [this, ih, List.replicate_succ]
          simp
      have := all n []
      simpa using this
/-- a name: 1 to 8 small letters -/
def IsNm (w : Str) : Prop := 1 ≤ w.length ∧ w.length ≤ 8 ∧ ∀ c ∈ w.cps.toList, 97 ≤ c ∧ c ≤ 122
def letters : List Nat := (List.range 26).map (97 + ·)
theorem letters_eq : ("abcdefghijklmnopqrstuvwxyz" : Str) = S letters := by decide +kernel
theorem letters_get {n : Nat} (h : n < 26) : letters[n]? = some (97 + n) := by unfold letters; simp [h]
/-- the words that a draw spells -/
def wordL (d k : Nat) : List Nat :=
  ((List.replicate (d % 8) (97 + d / 64 % 26)).take (d / 8 % 8) ++ [97 + (d + 5 * k) % 26] ++ ((List.replicate (d % 8) (97 + d / 64 % 26)).drop (d / 8 % 8) ++ (List.replicate (d % 8) (97 + d / 64 % 26)).take (k * (d / 3 % 3)))).take 8
def word (d k : Nat) : Str := S (wordL d k)
theorem wordL_nm (d k : Nat) : 1 ≤ (wordL d k).length ∧ (wordL d k).length ≤ 8 ∧ ∀ c ∈ wordL d k, 97 ≤ c ∧ c ≤ 122 := by
  unfold wordL
  refine ⟨by simp; omega, by simp; omega, fun c hc => ?_⟩
  have h := List.mem_of_mem_take hc
  have rep : ∀ c ∈ List.replicate (d % 8) (97 + d / 64 % 26), 97 ≤ c ∧ c ≤ 122 := fun c hc => by rw [List.eq_of_mem_replicate hc]; omega
  rcases List.mem_append.mp h with h | h
  · rcases List.mem_append.mp h with h | h
    · exact rep c (List.mem_of_mem_take h)
    · rw [List.mem_singleton.mp h]; omega
  · rcases List.mem_append.mp h with h | h
    · exact rep c (List.mem_of_mem_drop h)
    · exact rep c (List.mem_of_mem_take h)
theorem word_nm (d k : Nat) : IsNm (word d k) := by
  have := wordL_nm d k
  exact ⟨by rw [word, S_length]; exact this.1, by rw [word, S_length]; exact this.2.1, by rw [word, S_list]; exact this.2.2⟩
theorem wordL_at (d k : Nat) : (wordL d k)[min (d / 8 % 8) (d % 8)]? = some (97 + (d + 5 * k) % 26) := by
  unfold wordL
  rw [List.getElem?_take_of_lt (by omega), List.append_assoc, List.getElem?_append_right (by simp), List.getElem?_append_left (by simp)]
  simp
theorem word_inj {d j k : Nat} (hj : j < 26) (hk : k < 26) (h : word d j = word d k) : j = k := by
  have e := S_inj h
  have a := wordL_at d j
  rw [e, wordL_at] at a
  simp at a
  omega
def words (d n : Nat) : List Str := (List.range n).map (word d)
theorem words_nodup (d : Nat) {n : Nat} (h : n ≤ 26) : (words d n).Nodup := by
  unfold words
  rw [List.nodup_iff_pairwise_ne, List.pairwise_map]
  refine List.Pairwise.imp_of_mem ?_ (List.nodup_iff_pairwise_ne.mp List.nodup_range)
  intro a b ha hb hab e
  exact hab (word_inj (by have := List.mem_range.mp ha; omega) (by have := List.mem_range.mp hb; omega) e)
theorem words_length (d n : Nat) : (words d n).length = n := by simp [words]
theorem words_nm {d n : Nat} {w : Str} (h : w ∈ words d n) : IsNm w := by
  unfold words at h
  obtain ⟨k, _, rfl⟩ := List.mem_map.mp h
  exact word_nm d k
theorem lcL_range {gm : GM} {m : EM} {u0 : Sl3} {st : Store} {n : Nat} (f : Nat → D) (h : ∀ i, i < n → ∃ u1, gm (.int i) u0 = some u1 ∧ m u1 st = .ok (.val (f i)) st) (hn : n ≤ 1000000) :
    lcL gm tYes3 m u0 (rangeD 0 n) [] st = .ok ((List.range n).map f) st := by
  have := lcL_eq (st := st) (t := tYes3) (m := m) (gm := gm) (u0 := u0) (fun _ => true) (fun d => match d with | .int i => f i.toNat | _ => .non) (rangeD 0 n) [] (fun d hd => ?_) (by simp [rangeD_length]; exact hn)
  · rw [this]
    have e : (rangeD 0 n).filter (fun _ => true) = rangeD 0 n := List.filter_eq_self.mpr fun _ _ => rfl
    rw [e, rangeD, List.map_map, List.nil_append]
    congr 1
    apply List.map_congr_left
    intro a _
    simp
  · unfold rangeD at hd
    obtain ⟨i, hi, rfl⟩ := List.mem_map.mp hd
    obtain ⟨u1, e1, e2⟩ := h i (List.mem_range.mp hi)
    exact ⟨u1, by simpa using e1, rfl, fun _ => by simpa using e2⟩
theorem lcR_run {gm : GM} {m : EM} {u0 : Sl3} {st : Store} {n : Nat} {k : Res (List D) → Prop} (f : Nat → D) (hn : n ≤ 1000000) (h : ∀ i, i < n → ∃ u1, gm (.int i) u0 = some u1 ∧ M3.run (m u1 st) (fun r => r = .ok (.val (f i)) st)) (hk : k (.ok ((List.range n).map f) st)) :
    M3.run (lcL gm tYes3 m u0 (rangeD 0 n) [] st) k := by
  rw [lcL_range f h hn]; exact hk
theorem lc_run {gm : GM} {t : TM} {m : EM} {u0 : Sl3} {st : Store} {ds : List D} {k : Res (List D) → Prop} (p : D → Bool) (f : D → D) (hn : ds.length ≤ 1000000)
    (h : ∀ d ∈ ds, ∃ u1, gm d u0 = some u1 ∧ M3.run (t u1 st) (fun r => r = .ok (p d) st) ∧ (p d = true → M3.run (m u1 st) (fun r => r = .ok (.val (f d)) st))) (hk : k (.ok ((ds.filter p).map f) st)) :
    M3.run (lcL gm t m u0 ds [] st) k := by
  rw [lcL_eq p f ds [] h (by simpa using hn)]; exact hk
theorem log2_le {n k : Nat} (h : n < 2 ^ k) : n.log2 ≤ k := by
  by_cases z : n = 0
  · subst z; simp
  · exact Nat.le_of_lt ((Nat.log2_lt z).mpr h)
theorem two20 : (2 : Nat) ^ 31 ≤ 2 ^ 1048576 := Nat.pow_le_pow_right (by decide) (by decide)
theorem mulC_of {i j : Int} {a b : Nat} (ha : i.natAbs.log2 ≤ a) (hb : j.natAbs.log2 ≤ b) (h : a + b < 100000000) : mulC i j = true := decide_eq_true (by omega)
theorem pys_strs : ∀ ws : List Str, D.pys (ws.map .str) = some (ws.map .str)
  | [] => rfl
  | w :: ws => by
    rw [List.map_cons, D.pys, pys_strs ws]
    rfl
theorem okN {w : Str} (h : IsNm w) : PyData.strOk w = true := by
  unfold PyData.strOk
  rw [Array.all_eq_true_iff_forall_mem]
  intro c hc
  have := h.2.2 c (by simpa using hc)
  exact decide_eq_true (by omega)
theorem canLay_strs : ∀ {ws : List Str}, (∀ w ∈ ws, PyData.strOk w = true) → PyData.canLayAll0 (ws.map .str) = true
  | [], _ => rfl
  | w :: ws, h => by
    rw [List.map_cons, PyData.canLayAll0, PyData.canLay0, h w List.mem_cons_self, canLay_strs fun x hx => h x (List.mem_cons_of_mem _ hx)]
    rfl
theorem depth_strs : ∀ ws : List Str, PyData.depthAll (ws.map .str) = 0
  | [] => rfl
  | w :: ws => by rw [List.map_cons, PyData.depthAll, PyData.depth, depth_strs ws]; rfl
theorem eqv_strs : ∀ xs ys : List Str, PyData.eqvAll (xs.map .str) (ys.map .str) = decide (xs = ys)
  | [], [] => by simp [PyData.eqvAll]
  | [], y :: ys => by simp [PyData.eqvAll]
  | x :: xs, [] => by simp [PyData.eqvAll]
  | x :: xs, y :: ys => by
    rw [List.map_cons, List.map_cons, PyData.eqvAll, PyData.eqv, eqv_strs xs ys]
    by_cases h : x = y <;> by_cases h2 : xs = ys <;> simp [h, h2]
/-- == of two texts -/
theorem eqF_str (neg : Bool) {x y : Str} (hx : PyData.strOk x = true) (hy : PyData.strOk y = true) : eqF neg (.val (.str x)) (.val (.str y)) = some (.val (.bl (if neg then !decide (x = y) else decide (x = y)))) := by
  have s : ∀ {z : Str}, PyData.strOk z = true → SeqAt.shaped (.str z) = true := fun {z} h => by
    unfold SeqAt.shaped
    rw [PyData.canLay0, h, PyData.depth]; rfl
  unfold eqF
  simp only [W_rd_val, D.eqv?, D.py, s hx, s hy, and_self, if_true, Option.map_some, PyData.eqv]
  congr 4
  all_goals (by_cases h : x = y <;> simp [h])
theorem eqF_lst (neg : Bool) {xs ys : List Str} (hx : ∀ w ∈ xs, PyData.strOk w = true) (hy : ∀ w ∈ ys, PyData.strOk w = true) : eqF neg (.val (.lst (xs.map .str))) (.val (.lst (ys.map .str))) = some (.val (.bl (if neg then !decide (xs = ys) else decide (xs = ys)))) := by
  have s : ∀ {zs : List Str}, (∀ w ∈ zs, PyData.strOk w = true) → SeqAt.shaped (.list (zs.map .str)) = true := fun {zs} h => by
    unfold SeqAt.shaped
    rw [PyData.canLay0, canLay_strs h, PyData.depth, depth_strs]; rfl
  unfold eqF
  simp only [W_rd_val, D.eqv?, D.py, pys_strs, Option.map_some, s hx, s hy, and_self, if_true, PyData.eqv, eqv_strs]
def tupS (ws : List Str) : D := .tup (ws.map .str)
theorem lc_strs {gm : GM} {t : TM} {m : EM} {u0 : Sl3} {st : Store} {ws : List Str} {k : Res (List D) → Prop} (p : Str → Bool) (f : Str → D) (hn : ws.length ≤ 1000000)
    (h : ∀ w ∈ ws, ∃ u1, gm (.str w) u0 = some u1 ∧ M3.run (t u1 st) (fun r => r = .ok (p w) st) ∧ (p w = true → M3.run (m u1 st) (fun r => r = .ok (.val (f w)) st))) (hk : k (.ok ((ws.filter p).map f) st)) :
    M3.run (lcL gm t m u0 (ws.map .str) [] st) k := by
  have e := lcL_eq (gm := gm) (t := t) (m := m) (u0 := u0) (st := st) (fun d => match d with | .str x => p x | _ => false) (fun d => match d with | .str x => f x | _ => .non) (ws.map .str) [] (fun d hd => by
    obtain ⟨w, hw, rfl⟩ := List.mem_map.mp hd
    exact h w hw) (by simpa using hn)
  rw [e]
  have e2 : ((ws.map D.str).filter fun d => match d with | .str x => p x | _ => false) = (ws.filter p).map D.str := by
    clear e hk h hn
    induction ws with
    | nil => rfl
    | cons w ws ih =>
      simp only [List.map_cons, List.filter_cons, ih]
      cases p w <;> simp
  rw [e2, List.map_map]
  exact hk
theorem get_map {α β : Type} {f : α → β} {l : List α} {i : Nat} {b : β} (h : (l.map f)[i]? = some b) : ∃ a, l[i]? = some a ∧ b = f a := by
  rw [List.getElem?_map] at h
  cases e : l[i]? with
  | none => rw [e] at h; cases h
  | some a => rw [e] at h; exact ⟨a, rfl, by cases h; rfl⟩
theorem kit_tuple : kitB "tuple" "tuple" = some true := by decide +kernel
@[simp] theorem isiF_tup (xs : List D) : isiF [.val (.tup xs), .val (.ty "tuple")] = some (.val (.bl true)) := by
  unfold isiF
  simp [D.tyn, kit_tuple]
theorem lcL_mapE {α : Type} {gm : GM} {t : TM} {m : EM} {u0 : Sl3} {st : Store} (f : α → D) (p : α → Bool) (g : α → D) : ∀ (xs : List α) (acc : List D),
    (∀ x ∈ xs, ∃ u1, gm (f x) u0 = some u1 ∧ t u1 st = .ok (p x) st ∧ (p x = true → m u1 st = .ok (.val (g x)) st)) → acc.length + xs.length ≤ 1000000 →
    lcL gm t m u0 (xs.map f) acc st = .ok (acc ++ (xs.filter p).map g) st
  | [], acc, _, _ => by simp [lcL, M.pure]
  | x :: xs, acc, h, hz => by
    obtain ⟨u1, e1, e2, e3⟩ := h x List.mem_cons_self
    have ih := fun acc => lcL_mapE f p g xs acc fun d hd => h d (List.mem_cons_of_mem _ hd)
    simp only [List.length_cons] at hz
    apply of_run
    rw [List.map_cons, lcL_cons, e1]
    simp only [run_of_some, kBind_ok, run_bind, run_quiet, e2, run_ok, kQuiet_ok, run_ite]
    cases hp : p x with
    | false =>
      rw [if_neg Bool.false_ne_true, ih acc (by omega)]
      simp [hp]
    | true =>
      rw [if_pos rfl, e3 hp]
      simp only [run_ok, kQuiet_ok, kBind_ok, run_bind, W.d, run_of_some, run_chk]
      rw [if_pos (by omega), ih _ (by simp; omega)]
      simp [hp]
theorem lcM_run {α : Type} {gm : GM} {t : TM} {m : EM} {u0 : Sl3} {st : Store} {xs : List α} {k : Res (List D) → Prop} (f : α → D) (p : α → Bool) (g : α → D) (hn : xs.length ≤ 1000000)
    (h : ∀ x ∈ xs, ∃ u1, gm (f x) u0 = some u1 ∧ M3.run (t u1 st) (fun r => r = .ok (p x) st) ∧ (p x = true → M3.run (m u1 st) (fun r => r = .ok (.val (g x)) st))) (hk : k (.ok ((xs.filter p).map g) st)) :
    M3.run (lcL gm t m u0 (xs.map f) [] st) k := by
  rw [lcL_mapE f p g xs [] h (by simpa using hn)]; exact hk
/-- without a condition -/
theorem lcA_run {α : Type} {gm : GM} {m : EM} {u0 : Sl3} {st : Store} {xs : List α} {k : Res (List D) → Prop} (f : α → D) (g : α → D) (hn : xs.length ≤ 1000000)
    (h : ∀ x ∈ xs, ∃ u1, gm (f x) u0 = some u1 ∧ M3.run (m u1 st) (fun r => r = .ok (.val (g x)) st)) (hk : k (.ok (xs.map g) st)) :
    M3.run (lcL gm tYes3 m u0 (xs.map f) [] st) k :=
  lcM_run f (fun _ => true) g hn (fun x hx => let ⟨u1, e, r⟩ := h x hx; ⟨u1, e, rfl, fun _ => r⟩) (by rw [List.filter_eq_self.mpr (fun _ _ => rfl)]; exact hk)
theorem kit_bool : kitB "bool" "bool" = some true := by decide +kernel
@[simp] theorem isiF_bool (x : Bool) : isiF [.val (.bl x), .val (.ty "bool")] = some (.val (.bl true)) := by
  unfold isiF
  simp [D.tyn, kit_bool]
@[simp] theorem eqF_bl (neg a b : Bool) : eqF neg (.val (.bl a)) (.val (.bl b)) = some (.val (.bl (if neg then !decide (a = b) else decide (a = b)))) := by
  cases neg <;> cases a <;> cases b <;> rfl
end My


namespace My
open PySem L2 M3
def mb_w_digits : SM := (sSeq (sOwn 3 (fLst aNil))
  (sSeq (sSet 4 (eBin subF (eVar 0) (eBin powF (eC (.int 10)) (eC (.int 18)))))
  (sSeq (sFor (iRange1 (aCons (eVar 2) aNil)) (gName3 5) (sIf (tOf (eBin geF (eVar 0) (eBin powF (eC (.int 10)) (eC (.int 18))))) (sSeq (sApp 3 (eBin modF (eB intCF (aCons (eVar 4) aNil)) (eC (.int 5040))))
  (sSet 4 (eBin divF (eVar 4) (eC (.int 5040))))) (sSeq (sSet 6 (eBin modF (eB intCF (aCons (eBin addF (eBin addF (eBin mulF (eVar 0) (eC (.int 48271))) (eBin mulF (eBin addF (eVar 1) (eVar 5)) (eC (.int 69621)))) (eC (.int 7))) aNil)) (eC (.int 2147483647))))
  (sApp 3 (eBin modF (eBin modF (eB intCF (aCons (eBin addF (eBin addF (eBin mulF (eVar 6) (eVar 6)) (eBin mulF (eC (.int 40692)) (eVar 1))) (eVar 5)) aNil)) (eC (.int 1000003))) (eC (.int 5040)))))))
  (sRetO 3))))
def mf_w_digits : List D → M D := mfn 7 mb_w_digits

def mb_w_cell_at : SM := (sSeq (sIf (tOf (eBin ltF (eVar 1) (eB lenF (aCons (eVar 0) aNil)))) (sRetV (eBin ixF (eVar 0) (eVar 1))) sNext)
  (sSeq (sIf (tOf (eBin gtF (eB lenF (aCons (eVar 0) aNil)) (eC (.int 0)))) (sRetV (eBin addF (eBin modF (eB intCF (aCons (eBin ixF (eVar 0) (eBin modF (eVar 1) (eB lenF (aCons (eVar 0) aNil)))) aNil)) (eC (.int 1000003))) (eBin mulF (eC (.int 1009)) (eVar 1)))) sNext)
  (sRetV (eVar 1))))
def mf_w_cell_at : List D → M D := mfn 2 mb_w_cell_at

def mb_w_spelled : SM := (sSeq (sSet 2 (eC (.str "abcdefghijklmnopqrstuvwxyz")))
  (sSeq (sSet 3 (eBin mulF (eBin ixF (eVar 2) (eBin modF (eBin divF (eB intCF (aCons (eVar 0) aNil)) (eC (.int 64))) (eC (.int 26)))) (eBin modF (eB intCF (aCons (eVar 0) aNil)) (eC (.int 8)))))
  (sSeq (sSet 4 (eBin modF (eBin divF (eB intCF (aCons (eVar 0) aNil)) (eC (.int 8))) (eC (.int 8))))
  (sSeq (sSet 5 (eBin modF (eBin divF (eB intCF (aCons (eVar 0) aNil)) (eC (.int 3))) (eC (.int 3))))
  (sSeq (sSet 6 (eF (fLc (iRange1 (aCons (eVar 1) aNil)) (gName3 8) tYes3 (eBin ixF (eVar 2) (eBin modF (eB intCF (aCons (eBin addF (eVar 0) (eBin mulF (eC (.int 5)) (eVar 8))) aNil)) (eC (.int 26)))) [8])))
  (sSeq (sSet 7 (eF (fLc (iRange1 (aCons (eVar 1) aNil)) (gName3 8) tYes3 (eBin addF (eSlA (eVar 3) (pSome (eVar 4)) pNone) (eSlA (eVar 3) pNone (pSome (eBin mulF (eVar 8) (eVar 5))))) [8])))
  (sRetV (eF (fLc (iRange1 (aCons (eVar 1) aNil)) (gName3 8) tYes3 (eSlA (eBin addF (eBin addF (eSlA (eVar 3) pNone (pSome (eVar 4))) (eBin ixF (eVar 6) (eVar 8))) (eBin ixF (eVar 7) (eVar 8))) pNone (pSome (eC (.int 8)))) [8])))))))))
def mf_w_spelled : List D → M D := mfn 9 mb_w_spelled

def mb_w_ordered : SM := (sSeq (sOwnD 2)
  (sSeq (sFor (iSeq (eBin addF (eF (fB lstCF (aCons (eVar 0) aNil))) (eF (fLst (aCons (eTup (aCons (eC (.str "")) (aCons (eVar 1) aNil))) aNil))))) (gName3 3) (sSeq (sSet 4 (eBin addF (eF (fLc (iSeq (eBin ixF (eVar 3) (eC (.int 1)))) (gName3 9) tYes3 (eBin dgF (eVar 2) (eVar 9)) [9])) (eF (fLst (aCons (eF (fB lstCF (aCons (eBin ixF (eVar 3) (eC (.int 1))) aNil))) aNil)))))
  (sSeq (sSet 5 (eF (fLst (aCons (eBin ixF (eVar 3) (eC (.int 0))) aNil))))
  (sSeq (sFor (iRange1 (aCons (eC (.int 3)) aNil)) (gName3 6) (sSeq (sSet 7 (eF (fLc (iSeq (eVar 4)) (gName3 10) (tOf (eBin gtF (eB lenF (aCons (eVar 10) aNil)) (eC (.int 0)))) (eBin ixF (eVar 10) (eC (.int 0))) [10])))
  (sSeq (sSet 8 (eF (fLc (iSeq (eVar 7)) (gName3 9) (tNot3 (tTru (eB anyF (aCons (eF (fLc (iSeq (eVar 4)) (gName3 10) tYes3 (eBin (inF false) (eVar 9) (eSlA (eVar 10) (pSome (eC (.int 1))) pNone)) [10])) aNil)))) (eVar 9) [9])))
  (sSeq (sSet 5 (eBin addF (eVar 5) (eSlA (eVar 8) pNone (pSome (eC (.int 1))))))
  (sSet 4 (eF (fLc (iSeq (eVar 4)) (gName3 10) tYes3 (eF (fLc (iSeq (eVar 10)) (gName3 9) (tOf (eBin (inF true) (eVar 9) (eVar 5))) (eVar 9) [9])) [10])))))))
  (sSeq (sIf (tTru (eB anyF (aCons (eF (fLc (iSeq (eVar 4)) (gName3 10) tYes3 (eBin gtF (eB lenF (aCons (eVar 10) aNil)) (eC (.int 0))) [10])) aNil))) (sRetV (eC .non)) sNext)
  (sSetK 2 (eBin ixF (eVar 3) (eC (.int 0))) (eVar 5)))))))
  (sRetV (eSlA (eBin dgF (eVar 2) (eC (.str ""))) (pSome (eC (.int 1))) pNone))))
def mf_w_ordered : List W → M D := mfnW 11 mb_w_ordered

def mb_w_class_list : SM := (sSeq (sOwn 2 (fLst aNil))
  (sSeq (sFor (iRange1 (aCons (eB lenF (aCons (eVar 1) aNil)) aNil)) (gName3 3) (sSeq (sSet 4 (eBin addF (eF (fLst (aCons (eTup aNil) aNil))) (eF (fLc (iSeq (eSlA (eVar 1) pNone (pSome (eVar 3)))) (gName3 6) tYes3 (eTup (aCons (eVar 6) aNil)) [6]))))
  (sSeq (sIf (tOf (eBin (eqF false) (eVar 3) (eC (.int 2)))) (sSet 4 (eBin addF (eVar 4) (eF (fLst (aCons (eTup (aCons (eBin ixF (eVar 1) (eC (.int 0))) (aCons (eBin ixF (eVar 1) (eC (.int 1))) aNil))) (aCons (eTup (aCons (eBin ixF (eVar 1) (eC (.int 1))) (aCons (eBin ixF (eVar 1) (eC (.int 0))) aNil))) aNil)))))) sNext)
  (sSeq (sSet 5 (eBin ixF (eVar 4) (eBin modF (eB intCF (aCons (eBin ixF (eVar 0) (eVar 3)) aNil)) (eB lenF (aCons (eVar 4) aNil)))))
  (sSeq (sIf (tOf (eBin (isNF false) (eLend 2 (eCallW 2 mf_w_ordered (aCons (eVar 2) (aCons (eVar 5) aNil)))) (eC .non))) (sSet 5 (eTup aNil)) sNext)
  (sApp 2 (eTup (aCons (eBin ixF (eVar 1) (eVar 3)) (aCons (eVar 5) aNil)))))))))
  (sRetO 2)))
def mf_w_class_list : List D → M D := mfn 7 mb_w_class_list

def mb_is_word : SM := (sSeq (sIf (tNot3 (tTru (eB isi2F (aCons (eVar 0) (aCons (eC (.ty "str")) aNil))))) (sRetV (eC (.bl false))) sNext)
  (sRetV (eAnd (eChain leF leF (eC (.int 1)) (eB lenF (aCons (eVar 0) aNil)) (eC (.int 8))) (eB allF (aCons (eF (fLc (iSeq (eVar 0)) (gName3 1) tYes3 (eBin (inF false) (eVar 1) (eC (.str "abcdefghijklmnopqrstuvwxyz"))) [1])) aNil)))))
def mf_is_word : List D → M D := mfn 2 mb_is_word

def mb_good_names : SM := (sSeq (sIf (tOr3 (tNot3 (tTru (eB isi2F (aCons (eVar 0) (aCons (eC (.ty "list")) aNil))))) (tNot3 (tOf (eChain leF leF (eVar 1) (eB lenF (aCons (eVar 0) aNil)) (eVar 2))))) (sRetV (eC (.bl false))) sNext)
  (sSeq (sIf (tNot3 (tTru (eB allF (aCons (eF (fLc (iSeq (eVar 0)) (gName3 3) tYes3 (eCall 1 mf_is_word (aCons (eVar 3) aNil)) [3])) aNil)))) (sRetV (eC (.bl false))) sNext)
  (sRetV (eBin (eqF false) (eLenSet (eVar 0)) (eB lenF (aCons (eVar 0) aNil))))))
def mf_good_names : List D → M D := mfn 4 mb_good_names

def mb_are_chosen : SM := (sSeq (sIf (tNot3 (tTru (eB isi2F (aCons (eVar 0) (aCons (eC (.ty "tuple")) aNil))))) (sRetV (eC (.bl false))) sNext)
  (sRetV (eB allF (aCons (eF (fLc (iSeq (eVar 0)) (gName3 2) tYes3 (eAnd (eBin (inF false) (eVar 2) (eVar 1)) (eBin (eqF false) (eCnt (eVar 0) (eVar 2)) (eC (.int 1)))) [2])) aNil))))
def mf_are_chosen : List D → M D := mfn 3 mb_are_chosen

def mb_good_classes : SM := (sSeq (sIf (tNot3 (tTru (eB isi2F (aCons (eVar 0) (aCons (eC (.ty "list")) aNil))))) (sRetV (eC (.bl false))) sNext)
  (sSeq (sIf (tNot3 (tTru (eB allF (aCons (eF (fLc (iSeq (eVar 0)) (gName3 2) tYes3 (eAnd (eB isi2F (aCons (eVar 2) (aCons (eC (.ty "tuple")) aNil))) (eBin (eqF false) (eB lenF (aCons (eVar 2) aNil)) (eC (.int 2)))) [2])) aNil)))) (sRetV (eC (.bl false))) sNext)
  (sSeq (sSet 1 (eF (fLc (iSeq (eVar 0)) (gName3 2) tYes3 (eBin ixF (eVar 2) (eC (.int 0))) [2])))
  (sSeq (sIf (tNot3 (tTru (eCall 3 mf_good_names (aCons (eVar 1) (aCons (eC (.int 1)) (aCons (eC (.int 3)) aNil)))))) (sRetV (eC (.bl false))) sNext)
  (sRetV (eB allF (aCons (eF (fLc (iRange1 (aCons (eB lenF (aCons (eVar 1) aNil)) aNil)) (gName3 3) tYes3 (eCall 2 mf_are_chosen (aCons (eBin ixF (eBin ixF (eVar 0) (eVar 3)) (eC (.int 1))) (aCons (eSlA (eVar 1) pNone (pSome (eVar 3))) aNil))) [3])) aNil)))))))
def mf_good_classes : List D → M D := mfn 4 mb_good_classes

def mb_free_name : SM := (sSeq (sFor (iSeq (eVar 0)) (gName3 1) (sIf (tNot3 (tTru (eB anyF (aCons (eF (fLc (iSeq (eVar 0)) (gName3 2) tYes3 (eBin (inF false) (eBin ixF (eVar 1) (eC (.int 0))) (eSlA (eVar 2) (pSome (eC (.int 1))) pNone)) [2])) aNil)))) (sRetV (eBin ixF (eVar 1) (eC (.int 0)))) sNext))
  (sRaise "NoOrder"))
def mf_free_name : List D → M D := mfn 3 mb_free_name

def mb_merge_orders : SM := (sSeq (sSet 1 (eF (fLc (iSeq (eVar 0)) (gName3 5) (tOf (eBin gtF (eB lenF (aCons (eVar 5) aNil)) (eC (.int 0)))) (eB tupCF (aCons (eVar 5) aNil)) [5])))
  (sSeq (sOwn 2 (fLst aNil))
  (sSeq (whileL (tTru (eVar 1)) (sSeq (sSet 3 (eCall 1 mf_free_name (aCons (eVar 1) aNil)))
  (sSeq (sApp 2 (eVar 3))
  (sSeq (sSet 4 (eF (fLc (iSeq (eVar 1)) (gName3 5) tYes3 (eB tupCF (aCons (eF (fLc (iSeq (eVar 5)) (gName3 6) (tOf (eBin (eqF true) (eVar 6) (eVar 3))) (eVar 6) [6])) aNil)) [5])))
  (sSet 1 (eF (fLc (iSeq (eVar 4)) (gName3 5) (tOf (eBin gtF (eB lenF (aCons (eVar 5) aNil)) (eC (.int 0)))) (eVar 5) [5])))))) 1000)
  (sRetV (eB tupCF (aCons (eVar 2) aNil))))))
def mf_merge_orders : List D → M D := mfn 7 mb_merge_orders

def mb_class_orders : SM := (sSeq (sOwnD 1)
  (sSeq (sFor (iSeq (eVar 0)) (gTup3 2 (gCons3 (gName3 2) (gCons3 (gName3 3) gNil3))) (sSeq (sSet 4 (eF (fLc (iSeq (eVar 3)) (gName3 5) tYes3 (eBin dgF (eVar 1) (eVar 5)) [5])))
  (sSetK 1 (eVar 2) (eBin addF (eTup (aCons (eVar 2) aNil)) (eCall 1 mf_merge_orders (aCons (eBin addF (eVar 4) (eF (fLst (aCons (eVar 3) aNil)))) aNil))))))
  (sRetD 1)))
def mf_class_orders : List D → M D := mfn 6 mb_class_orders

def mb_bad_part : SM := (sSeq (sIf (tNot3 (tTru (eCall 3 mf_good_names (aCons (eVar 0) (aCons (eC (.int 1)) (aCons (eC (.int 3)) aNil)))))) (sRetV (eC (.str "methods"))) sNext)
  (sSeq (sIf (tNot3 (tTru (eCall 3 mf_good_names (aCons (eVar 1) (aCons (eC (.int 0)) (aCons (eC (.int 4)) aNil)))))) (sRetV (eC (.str "layers"))) sNext)
  (sSeq (sIf (tNot3 (tTru (eCall 2 mf_are_chosen (aCons (eVar 2) (aCons (eVar 1) aNil))))) (sRetV (eC (.str "inner"))) sNext)
  (sSeq (sIf (tOf (eBin (inF true) (eVar 3) (eTup (aCons (eC (.str "keep")) (aCons (eC (.str "live")) aNil))))) (sRetV (eC (.str "running"))) sNext)
  (sSeq (sIf (tOf (eBin (inF true) (eVar 4) (eTup (aCons (eC (.str "maker")) (aCons (eC (.str "caller")) aNil))))) (sRetV (eC (.str "stored"))) sNext)
  (sRetV (eC .non)))))))
def mf_bad_part : List D → M D := mfn 5 mb_bad_part

def mb_good_row : SM := (sSeq (sIf (tNot3 (tTru (eB isi2F (aCons (eVar 0) (aCons (eC (.ty "str")) aNil))))) (sRetV (eC (.bl false))) sNext)
  (sSeq (sIf (tOf (eBin (inF false) (eVar 0) (eC (.ctup ((["set 0", "set 1", "if", "else", "end", "proceed", "run", "yield"] : List Str).map .str))))) (sRetV (eC (.bl true))) sNext)
  (sSeq (sSet 3 (eM1 splitF (eVar 0) (eC (.str " "))))
  (sSeq (sIf (tOf (eBin (eqF true) (eB lenF (aCons (eVar 3) aNil)) (eC (.int 2)))) (sRetV (eC (.bl false))) sNext)
  (sSeq (sIf (tOf (eBin (inF false) (eBin ixF (eVar 3) (eC (.int 0))) (eTup (aCons (eC (.str "say")) (aCons (eC (.str "ask")) aNil))))) (sRetV (eCall 1 mf_is_word (aCons (eBin ixF (eVar 3) (eC (.int 1))) aNil))) sNext)
  (sSeq (sIf (tOf (eBin (inF false) (eBin ixF (eVar 3) (eC (.int 0))) (eTup (aCons (eC (.str "on")) (aCons (eC (.str "off")) aNil))))) (sRetV (eBin (inF false) (eBin ixF (eVar 3) (eC (.int 1))) (eVar 1))) sNext)
  (sRetV (eAnd (eBin (inF false) (eBin ixF (eVar 3) (eC (.int 0))) (eTup (aCons (eC (.str "call")) (aCons (eC (.str "store")) aNil)))) (eBin (inF false) (eBin ixF (eVar 3) (eC (.int 1))) (eVar 2))))))))))
def mf_good_row : List D → M D := mfn 4 mb_good_row

def mb_switches : SM := (sRetV (eOr (eM1 startsF (eVar 0) (eC (.str "on "))) (eM1 startsF (eVar 0) (eC (.str "off ")))))
def mf_switches : List D → M D := mfn 1 mb_switches

def mb_well_nested : SM := (sSeq (sOwn 1 (fLst aNil))
  (sSeq (sFor (iSeq (eVar 0)) (gName3 2) (sIf (tOr3 (tOf (eBin (eqF false) (eVar 2) (eC (.str "if")))) (tTru (eCall 1 mf_switches (aCons (eVar 2) aNil)))) (sSeq (sApp 1 (eVar 2))
  (sIf (tOf (eBin gtF (eB lenF (aCons (eVar 1) aNil)) (eC (.int 3)))) (sRetV (eC (.bl false))) sNext)) (sIf (tOf (eBin (eqF false) (eVar 2) (eC (.str "else")))) (sSeq (sIf (tOr3 (tOf (eBin (eqF false) (eB lenF (aCons (eVar 1) aNil)) (eC (.int 0)))) (tOf (eBin (eqF true) (eBin ixF (eVar 1) (eNeg (eC (.int 1)))) (eC (.str "if"))))) (sRetV (eC (.bl false))) sNext)
  (sSetI 1 (eNeg (eC (.int 1))) (eC (.str "else")))) (sIf (tOf (eBin (eqF false) (eVar 2) (eC (.str "end")))) (sSeq (sIf (tOf (eBin (eqF false) (eB lenF (aCons (eVar 1) aNil)) (eC (.int 0)))) (sRetV (eC (.bl false))) sNext)
  (sPop 1)) sNext))))
  (sRetV (eBin (eqF false) (eB lenF (aCons (eVar 1) aNil)) (eC (.int 0))))))
def mf_well_nested : List D → M D := mfn 3 mb_well_nested

def mb_good_body : SM := (sSeq (sIf (tNot3 (tTru (eB isi2F (aCons (eVar 0) (aCons (eC (.ty "tuple")) aNil))))) (sRetV (eC (.bl false))) sNext)
  (sSeq (sIf (tOr3 (tOf (eBin gtF (eB lenF (aCons (eVar 0) aNil)) (eC (.int 10)))) (tOf (eBin gtF (eCnt (eVar 0) (eC (.str "proceed"))) (eC (.int 2))))) (sRetV (eC (.bl false))) sNext)
  (sSeq (sIf (tNot3 (tTru (eB allF (aCons (eF (fLc (iSeq (eVar 0)) (gName3 3) tYes3 (eCall 3 mf_good_row (aCons (eVar 3) (aCons (eVar 1) (aCons (eVar 2) aNil)))) [3])) aNil)))) (sRetV (eC (.bl false))) sNext)
  (sRetV (eCall 1 mf_well_nested (aCons (eVar 0) aNil))))))
def mf_good_body : List D → M D := mfn 4 mb_good_body

def mb_good_bodies : SM := (sSeq (sIf (tNot3 (tTru (eB isi2F (aCons (eVar 0) (aCons (eC (.ty "dict")) aNil))))) (sRetV (eC (.bl false))) sNext)
  (sSeq (sFor (iKeysDD (eVar 0)) (gName3 4) (sSeq (sIf (tOr3 (tNot3 (tTru (eB isi2F (aCons (eVar 4) (aCons (eC (.ty "tuple")) aNil))))) (tOf (eBin (eqF true) (eB lenF (aCons (eVar 4) aNil)) (eC (.int 3))))) (sRetV (eC (.bl false))) sNext)
  (sSeq (sIf (tAnd3 (tOf (eBin (eqF true) (eBin ixF (eVar 4) (eC (.int 0))) (eC (.str "")))) (tOf (eBin (inF true) (eBin ixF (eVar 4) (eC (.int 0))) (eVar 2)))) (sRetV (eC (.bl false))) sNext)
  (sSeq (sIf (tOr3 (tOf (eBin (inF true) (eBin ixF (eVar 4) (eC (.int 1))) (eVar 1))) (tOf (eBin (inF true) (eBin ixF (eVar 4) (eC (.int 2))) (eVar 3)))) (sRetV (eC (.bl false))) sNext)
  (sIf (tNot3 (tTru (eCall 3 mf_good_body (aCons (eGetDD (eVar 0) (eVar 4)) (aCons (eVar 2) (aCons (eVar 3) aNil)))))) (sRetV (eC (.bl false))) sNext)))))
  (sRetV (eC (.bl true)))))
def mf_good_bodies : List D → M D := mfn 5 mb_good_bodies

def mb_Book_init : SM := (sSeq (sIf (tNot3 (tTru (eCall 1 mf_good_classes (aCons (eVar 1) aNil)))) sBad sNext)
  (sSeq (sTry0 (sFldS ["Book"] "orders" (eVar 0) (eCall 1 mf_class_orders (aCons (eVar 1) aNil))))
  (sSeq (sSet 9 (eCall 5 mf_bad_part (aCons (eVar 2) (aCons (eVar 3) (aCons (eVar 5) (aCons (eVar 6) (aCons (eVar 7) aNil)))))))
  (sSeq (sIf (tOf (eBin (isNF true) (eVar 9) (eC .non))) sBad sNext)
  (sSeq (sIf (tNot3 (tTru (eCall 4 mf_good_bodies (aCons (eVar 4) (aCons (eF (fLc (iSeq (eVar 1)) (gName3 12) tYes3 (eBin ixF (eVar 12) (eC (.int 0))) [12])) (aCons (eVar 3) (aCons (eVar 2) aNil))))))) sBad sNext)
  (sSeq (sFldS ["Book"] "class_pairs" (eVar 0) (eB tupCF (aCons (eVar 1) aNil)))
  (sSeq (sFldS ["Book"] "method_names" (eVar 0) (eB tupCF (aCons (eVar 2) aNil)))
  (sSeq (sFldS ["Book"] "layer_names" (eVar 0) (eB tupCF (aCons (eVar 3) aNil)))
  (sSeq (sFldS ["Book"] "inner_names" (eVar 0) (eB tupCF (aCons (eF (fLc (iSeq (eVar 3)) (gName3 11) (tOf (eBin (inF false) (eVar 11) (eVar 5))) (eVar 11) [11])) aNil)))
  (sSeq (sFldS ["Book"] "rules" (eVar 0) (eTup (aCons (eVar 6) (aCons (eVar 7) aNil))))
  (sSeq (sFldS ["Book"] "known" (eVar 0) eNewDD)
  (sFldS ["Book"] "texts" (eVar 0) (eDc (iKeysDD (eVar 4)) (gName3 10) tYes3 (eVar 10) (eB tupCF (aCons (eGetDD (eVar 4) (eVar 10)) aNil)) [10])))))))))))))
def mf_Book_init : List D → M D := mfn 13 mb_Book_init

def mb_w_arranged : SM := (sSeq (sSet 1 (eF (fLst (aCons (eTup aNil) aNil))))
  (sSeq (sSet 2 (eF (fLst (aCons (eTup aNil) aNil))))
  (sSeq (sFor (iRange1 (aCons (eB lenF (aCons (eVar 0) aNil)) aNil)) (gName3 3) (sSeq (sSet 2 (eB sumLF (aCons (eF (fLc (iSeq (eVar 2)) (gName3 4) tYes3 (eF (fLc (iSeq (eVar 0)) (gName3 5) (tOf (eBin (inF true) (eVar 5) (eVar 4))) (eBin addF (eVar 4) (eTup (aCons (eVar 5) aNil))) [5])) [4])) (aCons (eF (fLst aNil)) aNil))))
  (sSet 1 (eBin addF (eVar 1) (eVar 2)))))
  (sRetV (eVar 1)))))
def mf_w_arranged : List D → M D := mfn 6 mb_w_arranged

def mb_Book_order : SM := (sSeq (sSet 2 (eF (fLc (iSeq (eFld ["Book"] "class_pairs" (eVar 0))) (gName3 3) tYes3 (eBin ixF (eVar 3) (eC (.int 0))) [3])))
  (sSeq (sIf (tOr3 (tNot3 (tTru (eCall 2 mf_are_chosen (aCons (eVar 1) (aCons (eVar 2) aNil))))) (tOf (eBin (eqF false) (eB lenF (aCons (eVar 1) aNil)) (eC (.int 0))))) (sRaise "NoOrder") sNext)
  (sRetV (eCall 1 mf_merge_orders (aCons (eBin addF (eF (fLc (iSeq (eVar 1)) (gName3 4) tYes3 (eBin dgF (eFld ["Book"] "orders" (eVar 0)) (eVar 4)) [4])) (eF (fLst (aCons (eVar 1) aNil)))) aNil)))))
def mf_Book_order : List D → M D := mfn 5 mb_Book_order

end My


namespace My
open PySem L2 M3
set_option maxHeartbeats 4000000 in
theorem cell_at_spec (ns : List Int) (k : Nat) (hk : k < 1000000) (hb : ∀ i ∈ ns, i.natAbs.log2 ≤ 1048576) (hl : ns.length ≤ 63) (st : Store) :
    ∃ c : Int, mf_w_cell_at [.ro (ns.map .int), .int k] st = .ok (.int c) st ∧ c.natAbs.log2 ≤ 1048576 := by
  have hs : sizeLine = 16777216 := sizeLine_eq
  by_cases h1 : k < ns.length
  · refine ⟨ns[k], of_run ?_, hb _ (List.getElem_mem h1)⟩
    rw [mf_w_cell_at, run_mfn]
    simp [mb_w_cell_at, atN, h1]
  · by_cases h2 : 0 < ns.length
    · have h3 : k % ns.length < ns.length := Nat.mod_lt _ h2
      have hat : atI (ns.map D.int) ((k : Int) % (ns.length : Int)) = some (.int ns[k % ns.length]) := by
        have e3 : ((k : Int) % (ns.length : Int)) = ((k % ns.length : Nat) : Int) := by omega
        rw [e3, atN]; simp [h3]
      refine ⟨ns[k % ns.length] % 1000003 + 1009 * k, of_run ?_, ?_⟩
      · rw [mf_w_cell_at, run_mfn]
        have hm : mulC 1009 k = true := by
          unfold mulC
          have := log2_le (n := (k : Int).natAbs) (k := 20) (by omega)
          have e : Nat.log2 (Int.natAbs 1009) = 9 := by decide
          exact decide_eq_true (by omega)
        simp [mb_w_cell_at, h1, h2, hat, hm]
      · refine log2_le (Nat.lt_of_lt_of_le ?_ two20)
        have := Int.emod_nonneg ns[k % ns.length] (b := 1000003) (by decide)
        have := Int.emod_lt_of_pos ns[k % ns.length] (b := 1000003) (by decide)
        omega
    · refine ⟨k, of_run ?_, log2_le (Nat.lt_of_lt_of_le (m := 2 ^ 31) (by omega) two20)⟩
      rw [mf_w_cell_at, run_mfn]
      simp [mb_w_cell_at, h1, h2]
/-- the draws: as many as asked for, each below 5040 -/
def Draws (n : Nat) (ds : List Int) : Prop := ds.length = n ∧ ∀ d ∈ ds, 0 ≤ d ∧ d < 5040
set_option maxHeartbeats 4000000 in
theorem digits_spec (c : Int) (salt many : Nat) (hc : c.natAbs.log2 ≤ 1048576) (hs : salt < 1000000) (hm : many ≤ 1000) (st : Store) :
    ∃ ds : List Int, mf_w_digits [.int c, .int salt, .int many] st = .ok (.lst (ds.map .int)) st ∧ Draws many ds := by
  have hz : sizeLine = 16777216 := sizeLine_eq
  suffices h : M3.run (mf_w_digits [.int c, .int salt, .int many] st) (fun r => ∃ ds : List Int, r = .ok (.lst (ds.map .int)) st ∧ Draws many ds) by
    obtain ⟨ds, e, h⟩ := h
    exact ⟨ds, e, h⟩
  rw [mf_w_digits, run_mfn]
  have hr : -1000000 ≤ (many : Int) ∧ (many : Int) ≤ 1000000 := by omega
  simp [mb_w_digits, hr]
  refine forL_run (fun i u st' => st' = st ∧ ∃ (ds : List Int) (rest : Int) (x y : Option W), Draws i ds ∧ u = [some (.val (.int c)), some (.val (.int salt)), some (.val (.int many)), some (.bor (ds.map .int)), some (.val (.int rest)), x, y]) ?_ ?_ ?_
  · exact ⟨rfl, [], _, none, none, ⟨rfl, by simp⟩, rfl⟩
  · rintro i d u st' hd ⟨rfl, ds, rest, x, y, hD, rfl⟩
    obtain ⟨rfl, hi⟩ := range_get hd
    refine ⟨_, rfl, ?_⟩
    have hlen : ds.length < 1000000 := by rw [hD.1]; omega
    by_cases hb : (1000000000000000000 : Int) ≤ c
    · simp [hb, hlen]
      refine ⟨ds ++ [rest % 5040], ⟨by simp [hD.1], fun e he => ?_⟩, by simp⟩
      rcases List.mem_append.mp he with q | q
      · exact hD.2 e q
      · rw [List.mem_singleton.mp q]; omega
    · have m1 : mulC c 48271 = true := mulC_of hc (b := 16) (by decide) (by omega)
      have m2 : mulC ((salt : Int) + (i : Int)) 69621 = true := mulC_of (a := 40) (log2_le (by omega)) (b := 17) (by decide) (by omega)
      generalize hq : (c * 48271 + ((salt : Int) + (i : Int)) * 69621 + 7) % 2147483647 = q
      have q0 : 0 ≤ q ∧ q < 2147483647 := by omega
      have m3 : mulC q q = true := mulC_of (a := 40) (log2_le (by omega)) (b := 40) (log2_le (by omega)) (by omega)
      have m4 : mulC 40692 (salt : Int) = true := mulC_of (a := 16) (by decide) (b := 40) (log2_le (by omega)) (by omega)
      simp [hb, hlen, m1, m2, hq, m3, m4]

      refine ⟨ds ++ [(q * q + 40692 * (salt : Int) + (i : Int)) % 1000003 % 5040], ⟨by simp [hD.1], fun e he => ?_⟩, by simp⟩
      rcases List.mem_append.mp he with h | h
      · exact hD.2 e h
      · rw [List.mem_singleton.mp h]; omega
  · rintro u st' ⟨rfl, ds, rest, x, y, hD, rfl⟩
    rw [rangeD_length] at hD
    simp
    exact ⟨ds, rfl, hD⟩
set_option maxHeartbeats 4000000 in
theorem spelled_spec (d many : Nat) (hd : d < 5040) (hm : many ≤ 26) (st : Store) : mf_w_spelled [.int d, .int many] st = .ok (.lst ((words d many).map .str)) st := by
  apply of_run
  rw [mf_w_spelled, run_mfn]
  have e1 : (d : Int) / 64 % 26 = ((d / 64 % 26 : Nat) : Int) := by omega
  have e2 : (d : Int) % 8 = ((d % 8 : Nat) : Int) := by omega
  have e3 : (d : Int) / 8 % 8 = ((d / 8 % 8 : Nat) : Int) := by omega
  have e4 : (d : Int) / 3 % 3 = ((d / 3 % 3 : Nat) : Int) := by omega
  have a1 : atI letters ((d : Int) / 64 % 26) = some (97 + d / 64 % 26) := by rw [e1, atN, letters_get (by omega)]
  have m1 : MulS ⟨#[97 + d / 64 % 26]⟩ ((d : Int) % 8) = true := decide_eq_true ⟨by omega, by omega, by show (#[97 + d / 64 % 26] : Array Nat).size ≤ 1000; simp⟩
  have x1 : Txt.mul ⟨#[97 + d / 64 % 26]⟩ ((d : Int) % 8) = S (List.replicate (d % 8) (97 + d / 64 % 26)) := by rw [e2]; exact mul_one_sign _ _
  have r1 : -1000000 ≤ (many : Int) ∧ (many : Int) ≤ 1000000 := by omega
  have l1 : letters.length ≤ 1000000 := by decide
  simp only [mb_w_spelled, letters_eq]
  simp [a1, m1, x1, r1, l1]
  refine lcR_run (fun k => .str (S [97 + (d + 5 * k) % 26])) (by omega) (fun i hi => ⟨_, rfl, ?_⟩) ?_
  · have e : ((d : Int) + 5 * (i : Int)) % 26 = (((d + 5 * i) % 26 : Nat) : Int) := by omega
    have a : atI letters (((d : Int) + 5 * (i : Int)) % 26) = some (97 + (d + 5 * i) % 26) := by rw [e, atN, letters_get (by omega)]
    have m : mulC 5 (i : Int) = true := mulC_of (a := 3) (by decide) (b := 40) (log2_le (by omega)) (by omega)
    simp [m, a, l1]
    rfl
  simp [r1]
  generalize hF : List.replicate (d % 8) (97 + d / 64 % 26) = F
  have lF : F.length ≤ 7 := by rw [← hF, List.length_replicate]; omega
  refine lcR_run (fun k => .str (S (F.drop (d / 8 % 8) ++ F.take (k * (d / 3 % 3))))) (by omega) (fun i hi => ⟨_, rfl, ?_⟩) ?_
  · have m : mulC (i : Int) ((d : Int) / 3 % 3) = true := mulC_of (a := 40) (log2_le (by omega)) (b := 40) (log2_le (by omega)) (by omega)
    have c1 : cutD F (some ((d : Int) / 8 % 8)) none = F.drop (d / 8 % 8) := by rw [e3, cut_from _ (by omega)]; rfl
    have c2 : cutD F none (some ((i : Int) * ((d : Int) / 3 % 3))) = F.take (i * (d / 3 % 3)) := by
      rw [e4, show ((i : Int) * ((d / 3 % 3 : Nat) : Int)) = ((i * (d / 3 % 3) : Nat) : Int) by simp, cut_to _ (by omega)]; rfl
    have z1 : F.length - d / 8 % 8 + min (i * (d / 3 % 3)) F.length ≤ 1000000 := by omega
    simp [m, S_cut, c1, c2, S_app, z1, show F.length ≤ 1000000 by omega]
  simp [r1]
  refine lcR_run (fun k => .str (word d k)) (by omega) (fun i hi => ⟨_, rfl, ?_⟩) ?_
  · have c1 : cutD F none (some ((d : Int) / 8 % 8)) = F.take (d / 8 % 8) := by rw [e3, cut_to _ (by omega)]; rfl
    have c3 : ∀ l : List Nat, cutD l none (some 8) = l.take 8 := fun l => by rw [cut_to _ (by omega)]; rfl
    simp [S_cut, c1, S_app, atN, hi, show F.length ≤ 1000000 by omega, show min (d / 8 % 8) F.length + 1 ≤ 1000000 by omega, c3]
    have z2 : min (d / 8 % 8) F.length + 1 + (F.length - d / 8 % 8 + min (i * (d / 3 % 3)) F.length) ≤ 1000000 := by omega
    refine ⟨z2, by omega, ?_⟩
    unfold word wordL
    rw [hF]
    simp
  · simp [words]
end My


namespace My
open PySem L2 M3
/-! in, count, == over texts -/
abbrev Ok (w : Str) : Prop := PyData.strOk w = true
abbrev Oks (ws : List Str) : Prop := ∀ w ∈ ws, PyData.strOk w = true
theorem any_strs (a : Str) : ∀ xs : List Str, ((xs.map PyData.str).any fun z => PyData.eqv z (.str a)) = decide (a ∈ xs)
  | [] => by simp
  | x :: xs => by
    rw [List.map_cons, List.any_cons, any_strs a xs, PyData.eqv]
    by_cases h : x = a
    · subst h; simp
    · have h2 : ¬ a = x := fun e => h e.symm
      simp [h, h2]
theorem shaped_str {a : Str} (h : Ok a) : SeqAt.shaped (.str a) = true := by
  unfold SeqAt.shaped
  rw [PyData.canLay0, h, PyData.depth]; rfl
theorem shaped_lst {zs : List Str} (h : Oks zs) : SeqAt.shaped (.list (zs.map .str)) = true := by
  unfold SeqAt.shaped
  rw [PyData.canLay0, canLay_strs h, PyData.depth, depth_strs]; rfl
theorem shaped_tup {zs : List Str} (h : Oks zs) : SeqAt.shaped (.tuple (zs.map .str)) = true := by
  unfold SeqAt.shaped
  rw [PyData.canLay0, canLay_strs h, PyData.depth, depth_strs]; rfl
theorem inF_lst (neg : Bool) {a : Str} {xs : List Str} (ha : Ok a) (hx : Oks xs) : inF neg (.val (.str a)) (.val (.lst (xs.map .str))) = some (.val (.bl (if neg then !decide (a ∈ xs) else decide (a ∈ xs)))) := by
  unfold inF
  dsimp only [W.dic]
  simp only [W_rd_val, D.py, pys_strs, Option.map_some, shaped_str ha, shaped_lst hx, and_self, if_true, any_strs]
theorem inF_tup (neg : Bool) {a : Str} {xs : List Str} (ha : Ok a) (hx : Oks xs) : inF neg (.val (.str a)) (.val (.tup (xs.map .str))) = some (.val (.bl (if neg then !decide (a ∈ xs) else decide (a ∈ xs)))) := by
  unfold inF
  dsimp only [W.dic]
  simp only [W_rd_val, D.py, pys_strs, Option.map_some, shaped_str ha, shaped_tup hx, and_self, if_true, any_strs]
theorem inF_ctup (neg : Bool) {a : Str} {xs : List Str} (ha : Ok a) (hx : Oks xs) : inF neg (.val (.str a)) (.val (.ctup (xs.map .str))) = some (.val (.bl (if neg then !decide (a ∈ xs) else decide (a ∈ xs)))) := by
  unfold inF
  dsimp only [W.dic]
  simp only [W_rd_val, D.py, pys_strs, Option.map_some, shaped_str ha, shaped_tup hx, and_self, if_true, any_strs]
theorem filter_strs (a : Str) : ∀ xs : List Str, ((xs.map PyData.str).filter fun z => PyData.eqv z (.str a)).length = xs.count a
  | [] => by simp
  | x :: xs => by
    rw [List.map_cons, List.filter_cons, PyData.eqv, List.count_cons]
    have ih := filter_strs a xs
    by_cases h : x = a
    · subst h; simp [ih]
    · simp [h, ih]
theorem cutD_map {α β : Type} (f : α → β) (xs : List α) (lo hi : Option Int) : cutD (xs.map f) lo hi = (cutD xs lo hi).map f := by
  unfold cutD
  rw [List.length_map, ← List.map_drop, ← List.map_take]
theorem cut1 {α : Type} (xs : List α) : cutD xs (some 1) none = xs.tail := by rw [cut_from _ (by decide)]; simp
theorem cutT {α : Type} (xs : List α) (n : Nat) : cutD xs none (some (n : Int)) = xs.take n := by rw [cut_to _ (by omega)]; simp
theorem eqF_int (neg : Bool) (i j : Int) : eqF neg (.val (.int i)) (.val (.int j)) = some (.val (.bl (if neg then !decide (i = j) else decide (i = j)))) := by
  unfold eqF
  have s : ∀ i : Int, SeqAt.shaped (.int i) = true := fun i => by unfold SeqAt.shaped; rw [PyData.canLay0, PyData.depth]; rfl
  simp only [W_rd_val, D.eqv?, D.py, s, and_self, if_true, Option.map_some, PyData.eqv]
  congr 4
  all_goals (by_cases h : i = j <;> simp [h])
end My


namespace My
open PySem L2 M3
def mb_Switchboard_init : SM := (sSeq (sSup0 ["Switchboard"])
  (sFldS ["Switchboard"] "now" (eVar 0) (eTup aNil)))
def mf_Switchboard_init : List D → M D := mfn 2 mb_Switchboard_init

def mb_Switchboard_active : SM := (sRetV (eFld ["Switchboard"] "now" (eVar 0)))
def mf_Switchboard_active : List D → M D := mfn 1 mb_Switchboard_active

def mb_w_blocks : SM := (sRetV (eF (fLc (iSeq (eVar 0)) (gName3 2) tYes3 (eTup (aCons (eBin ixF (eF (fLst (aCons (eC (.str "on")) (aCons (eC (.str "on")) (aCons (eC (.str "off")) aNil))))) (eBin modF (eB intCF (aCons (eVar 2) aNil)) (eC (.int 3)))) (aCons (eBin ixF (eVar 1) (eBin modF (eBin divF (eB intCF (aCons (eVar 2) aNil)) (eC (.int 3))) (eB lenF (aCons (eVar 1) aNil)))) aNil))) [2])))
def mf_w_blocks : List D → M D := mfn 3 mb_w_blocks

def mb_Entering_init : SM := (sSeq (sFldS ["Entering"] "before" (eVar 0) (eVar 1))
  (sFldS ["Entering"] "outer" (eVar 0) (eVar 2)))
def mf_Entering_init : List D → M D := mfn 3 mb_Entering_init

def mb_switch_layer : SM := (sSeq (sSet 3 (eB tupCF (aCons (eF (fLc (iSeq (eVar 0)) (gName3 4) (tOf (eBin (eqF true) (eVar 4) (eVar 2))) (eVar 4) [4])) aNil)))
  (sSeq (sIf (tOf (eBin (eqF false) (eVar 1) (eC (.str "on")))) (sRetV (eBin addF (eTup (aCons (eVar 2) aNil)) (eVar 3))) sNext)
  (sRetV (eVar 3))))
def mf_switch_layer : List D → M D := mfn 5 mb_switch_layer

def mb_Block_enter : SM := (sSeq (sFldS ["Block"] "last" (eVar 0) (eMk3 "Entering" 2 [] mf_Entering_init (aCons (eFld ["Switchboard"] "now" (eFld ["Block"] "board" (eVar 0))) (aCons (eFld ["Block"] "last" (eVar 0)) aNil))))
  (sSeq (sFldS ["Switchboard"] "now" (eFld ["Block"] "board" (eVar 0)) (eCall 3 mf_switch_layer (aCons (eFld ["Switchboard"] "now" (eFld ["Block"] "board" (eVar 0))) (aCons (eFld ["Block"] "way" (eVar 0)) (aCons (eFld ["Block"] "layer" (eVar 0)) aNil)))))
  (sRetV (eFld ["Switchboard"] "now" (eFld ["Block"] "board" (eVar 0))))))
def mf_Block_enter : List D → M D := mfn 1 mb_Block_enter

def mb_Block_exit : SM := (sSeq (sFldS ["Switchboard"] "now" (eFld ["Block"] "board" (eVar 0)) (eFld ["Entering"] "before" (eFld ["Block"] "last" (eVar 0))))
  (sFldS ["Block"] "last" (eVar 0) (eFld ["Entering"] "outer" (eFld ["Block"] "last" (eVar 0)))))
def mf_Block_exit : List D → M D := mfn 4 mb_Block_exit

def mb_Block_init : SM := (sSeq (sFldS ["Block"] "board" (eVar 0) (eVar 1))
  (sSeq (sFldS ["Block"] "way" (eVar 0) (eVar 2))
  (sSeq (sFldS ["Block"] "layer" (eVar 0) (eVar 3))
  (sFldS ["Block"] "last" (eVar 0) (eC .non)))))
def mf_Block_init : List D → M D := mfn 4 mb_Block_init

def mb_w_after : SM := (sSeq (sFor (iSeq (eVar 1)) (gName3 2) (sSeq (sSet 3 (eF (fLc (iSeq (eVar 0)) (gName3 4) (tOf (eBin (eqF true) (eVar 4) (eBin ixF (eVar 2) (eC (.int 1))))) (eVar 4) [4])))
  (sSeq (sIf (tOf (eBin (eqF false) (eBin ixF (eVar 2) (eC (.int 0))) (eC (.str "on")))) (sSet 3 (eBin addF (eF (fLst (aCons (eBin ixF (eVar 2) (eC (.int 1))) aNil))) (eVar 3))) sNext)
  (sSet 0 (eB tupCF (aCons (eVar 3) aNil))))))
  (sRetV (eVar 0)))
def mf_w_after : List D → M D := mfn 5 mb_w_after

/-- within, over a table of functions -/
def mb_within (tab : FnTab) (mr : List D → M D) : SM := (sSeq (sIf (tOf (eBin (eqF false) (eB lenF (aCons (eVar 2) aNil)) (eC (.int 0)))) (sRetV (eCallV 0 tab 1 aNil)) sNext)
  (sSeq (sAsgStar (eVar 2) (gTup3 2 (gCons3 (gName3 3) (gCons3 (gName3 4) gNil3))) 5)
  (sWith "Block" mf_Block_enter mf_Block_exit (eMk3 "Block" 3 [] mf_Block_init (aCons (eVar 0) (aCons (eVar 3) (aCons (eVar 4) aNil)))) (sRetV (eMethRs (fun _ mf => mf) "within" [("Switchboard", mr)] (eVar 0) (eVar 1) (eVar 5))))))
def mf_within (tab : FnTab) : Nat → List D → M D
  | 0 => fun _ _ => .bad
  | n + 1 => mfnS 6 2 (mb_within tab (mf_within tab n))
/-- the law's own way to it -/
def mb_wwithin (tab : FnTab) : SM := (sSeq (sIf (tOf (eBin (eqF false) (eB lenF (aCons (eVar 2) aNil)) (eC (.int 0)))) (sRetV (eMethRp "within" [("Switchboard", mf_within tab 5)] (eVar 0) (aCons (eVar 1) aNil))) sNext)
  (sSeq (sIf (tOf (eBin (eqF false) (eB lenF (aCons (eVar 2) aNil)) (eC (.int 1)))) (sRetV (eMethRp "within" [("Switchboard", mf_within tab 5)] (eVar 0) (aCons (eVar 1) (aCons (eBin ixF (eVar 2) (eC (.int 0))) aNil)))) sNext)
  (sSeq (sIf (tOf (eBin (eqF false) (eB lenF (aCons (eVar 2) aNil)) (eC (.int 2)))) (sRetV (eMethRp "within" [("Switchboard", mf_within tab 5)] (eVar 0) (aCons (eVar 1) (aCons (eBin ixF (eVar 2) (eC (.int 0))) (aCons (eBin ixF (eVar 2) (eC (.int 1))) aNil))))) sNext)
  (sSeq (sIf (tOf (eBin (eqF false) (eB lenF (aCons (eVar 2) aNil)) (eC (.int 3)))) (sRetV (eMethRp "within" [("Switchboard", mf_within tab 5)] (eVar 0) (aCons (eVar 1) (aCons (eBin ixF (eVar 2) (eC (.int 0))) (aCons (eBin ixF (eVar 2) (eC (.int 1))) (aCons (eBin ixF (eVar 2) (eC (.int 2))) aNil)))))) sNext)
  (sRetV (eMethRp "within" [("Switchboard", mf_within tab 5)] (eVar 0) (aCons (eVar 1) (aCons (eBin ixF (eVar 2) (eC (.int 0))) (aCons (eBin ixF (eVar 2) (eC (.int 1))) (aCons (eBin ixF (eVar 2) (eC (.int 2))) (aCons (eBin ixF (eVar 2) (eC (.int 3))) aNil)))))))))))
def mf_wwithin (tab : FnTab) : List D → M D := mfn 3 (mb_wwithin tab)
end My


namespace My
open PySem L2 M3
/-! blocks around a deed -/
def onB (b : Bool) : Str := if b then "on" else "off"
def swB (act : List Str) (b : Bool) (l : Str) : List Str := if b then l :: act.filter (fun n => !decide (n = l)) else act.filter (fun n => !decide (n = l))
theorem onB_ok (b : Bool) : Ok (onB b) := by cases b <;> decide +kernel
theorem onB_eq (b : Bool) : eqF false (.val (.str (onB b))) (.val (.str "on")) = some (.val (.bl b)) := by
  have h : decide (onB b = ("on" : Str)) = b := by cases b <;> decide +kernel
  have := eqF_str false (onB_ok b) (y := "on") (by decide +kernel)
  rw [this]
  simp only [Bool.false_eq_true, if_false, h]
theorem swB_ok {act : List Str} {l : Str} (ha : Oks act) (ok : Ok l) (b : Bool) : Oks (swB act b l) := by
  unfold swB
  split
  · intro w hw
    rcases List.mem_cons.mp hw with rfl | hw
    · exact ok
    · exact ha w (List.mem_filter.mp hw).1
  · exact fun w hw => ha w (List.mem_filter.mp hw).1
theorem swB_len {act : List Str} {l : Str} (b : Bool) : (swB act b l).length ≤ act.length + 1 := by
  have := List.length_filter_le (fun n => !decide (n = l)) act
  unfold swB
  split
  · rw [List.length_cons]; omega
  · omega
theorem switch_spec {act : List Str} {l : Str} (ha : Oks act) (ok : Ok l) (hl : act.length ≤ 900000) (b : Bool) (st : Store) : mf_switch_layer [tupS act, .str (onB b), .str l] st = .ok (tupS (swB act b l)) st := by
  apply of_run
  rw [mf_switch_layer, run_mfn]
  simp [mb_switch_layer, tupS]
  refine lc_strs (ws := act) (fun n => !decide (n = l)) (fun n => .str n) (by omega) (fun n hn => ⟨_, rfl, ?_, fun _ => ?_⟩) ?_
  · simp [eqF_str true (ha n hn) ok]
  · simp
  have lf := List.length_filter_le (fun n => !decide (n = l)) act
  simp [onB_eq]
  unfold swB
  cases b with
  | true => simp; omega
  | false => simp
abbrev Blk := Bool × Str
def blkD (b : Blk) : D := .tup [.str (onB b.1), .str b.2]
def aftB (act : List Str) (bs : List Blk) : List Str := bs.foldl (fun a b => swB a b.1 b.2) act
abbrev OksB (bs : List Blk) : Prop := ∀ b ∈ bs, Ok b.2
theorem aftB_ok : ∀ {bs : List Blk} {act : List Str}, Oks act → OksB bs → Oks (aftB act bs)
  | [], _, h, _ => h
  | b :: bs, _, h, g => aftB_ok (bs := bs) (swB_ok h (g b List.mem_cons_self) b.1) fun c hc => g c (List.mem_cons_of_mem _ hc)
theorem aftB_len : ∀ {bs : List Blk} {act : List Str}, (aftB act bs).length ≤ act.length + bs.length
  | [], _ => Nat.le_refl _
  | b :: bs, act => by
    have h1 := aftB_len (bs := bs) (act := swB act b.1 b.2)
    have h2 := swB_len (act := act) (l := b.2) b.1
    show (aftB (swB act b.1 b.2) bs).length ≤ _
    rw [List.length_cons]
    omega
/-! objects -/
def boardO (act : List Str) : MO := .ins "Switchboard" [("now", tupS act)]
def blockO (kb : Nat) (b : Blk) (last : D) : MO := .ins "Block" [("board", .ref kb), ("way", .str (onB b.1)), ("layer", .str b.2), ("last", last)]
def enterO (before outer : D) : MO := .ins "Entering" [("before", before), ("outer", outer)]
/-- nothing that stood is changed -/
def Ext (st st' : Store) : Prop := ∀ (k : Nat) (o : MO), o.nap = o → st[k]? = some o → st'[k]? = some o
theorem Ext.refl (st : Store) : Ext st st := fun _ _ _ e => e
theorem Ext.trans {a b c : Store} (h : Ext a b) (g : Ext b c) : Ext a c := fun k o n e => g k o n (h k o n e)
theorem n_board_way : ¬ (Str.ofString "board" = Str.ofString "way") := by decide +kernel
theorem n_board_layer : ¬ (Str.ofString "board" = Str.ofString "layer") := by decide +kernel
theorem n_board_last : ¬ (Str.ofString "board" = Str.ofString "last") := by decide +kernel
theorem n_way_board : ¬ (Str.ofString "way" = Str.ofString "board") := by decide +kernel
theorem n_way_layer : ¬ (Str.ofString "way" = Str.ofString "layer") := by decide +kernel
theorem n_way_last : ¬ (Str.ofString "way" = Str.ofString "last") := by decide +kernel
theorem n_layer_board : ¬ (Str.ofString "layer" = Str.ofString "board") := by decide +kernel
theorem n_layer_way : ¬ (Str.ofString "layer" = Str.ofString "way") := by decide +kernel
theorem n_layer_last : ¬ (Str.ofString "layer" = Str.ofString "last") := by decide +kernel
theorem n_last_board : ¬ (Str.ofString "last" = Str.ofString "board") := by decide +kernel
theorem n_last_way : ¬ (Str.ofString "last" = Str.ofString "way") := by decide +kernel
theorem n_last_layer : ¬ (Str.ofString "last" = Str.ofString "layer") := by decide +kernel
theorem n_before_outer : ¬ (Str.ofString "before" = Str.ofString "outer") := by decide +kernel
theorem n_outer_before : ¬ (Str.ofString "outer" = Str.ofString "before") := by decide +kernel
theorem n_within_now : ¬ (Str.ofString "within" = Str.ofString "now") := by decide +kernel
theorem init_spec (st : Store) : mf_Switchboard_init [.ref st.length] (st ++ [.ins "Switchboard" []]) = .ok .non (st ++ [boardO []]) := by
  apply of_run
  rw [mf_Switchboard_init, run_mfn]
  simp only [mb_Switchboard_init]
  simp
  rw [run_sSup0 (i := st.length) (c := "Switchboard") (fs := []) rfl (by simp) (by simp)]
  simp [put3, boardO, tupS]
theorem active_spec {st : Store} {kb : Nat} {act : List Str} (h : st[kb]? = some (boardO act)) : mf_Switchboard_active [.ref kb] st = .ok (tupS act) st := by
  apply of_run
  rw [mf_Switchboard_active, run_mfn]
  simp [mb_Switchboard_active, h, boardO]
theorem block_init (st : Store) (kb : Nat) (b : Blk) : mf_Block_init [.ref st.length, .ref kb, .str (onB b.1), .str b.2] (st ++ [.ins "Block" []]) = .ok .non (st ++ [blockO kb b .non]) := by
  apply of_run
  rw [mf_Block_init, run_mfn]
  simp [mb_Block_init, put3, blockO, n_board_way, n_board_layer, n_board_last, n_way_board, n_way_layer, n_way_last, n_layer_board, n_layer_way, n_layer_last, n_last_board, n_last_way, n_last_layer]
theorem entering_init (st : Store) (x y : D) : mf_Entering_init [.ref st.length, x, y] (st ++ [.ins "Entering" []]) = .ok .non (st ++ [enterO x y]) := by
  apply of_run
  rw [mf_Entering_init, run_mfn]
  simp [mb_Entering_init, put3, enterO, n_before_outer, n_outer_before]
theorem look_ne {α : Type} {a b : Str} {x : α} {l : List (Str × α)} (h : ¬ a = b) : List.lookup a ((b, x) :: l) = List.lookup a l := by
  rw [List.lookup_cons]
  have : (a == b) = false := by simpa using h
  rw [this]
theorem get_app {st : Store} {k : Nat} {o : MO} {xs : Store} (h : st[k]? = some o) : (st ++ xs)[k]? = some o := by
  rw [List.getElem?_append_left (List.getElem?_eq_some_iff.mp h).1]
  exact h
theorem get_lt {st : Store} {k : Nat} {o : MO} (h : st[k]? = some o) : k < st.length := (List.getElem?_eq_some_iff.mp h).1
theorem enter_spec {st : Store} {j kb : Nat} {b : Blk} {act : List Str} (hj : st[j]? = some (blockO kb b .non)) (hb : st[kb]? = some (boardO act)) (ha : Oks act) (ok : Ok b.2) (hl : act.length ≤ 900000) :
    mf_Block_enter [.ref j] st = .ok (tupS (swB act b.1 b.2)) (((st ++ [enterO (tupS act) .non]).set j (blockO kb b (.ref st.length))).set kb (boardO (swB act b.1 b.2))) := by
  have hne : j ≠ kb := fun e => by
    rw [e, hb] at hj
    have hj := Option.some.inj hj
    unfold boardO blockO at hj
    rw [MO.ins.injEq] at hj
    exact absurd hj.1 (by decide)
  have l1 := get_lt hj
  have l2 := get_lt hb
  apply of_run
  rw [mf_Block_enter, run_mfn]
  simp [mb_Block_enter, hj, hb, n_board_way, n_board_layer, n_board_last, n_way_board, n_way_layer, n_way_last, n_layer_board, n_layer_way, n_layer_last, n_last_board, n_last_way, n_last_layer, look_ne, blockO, boardO, entering_init, put3]
  obtain ⟨st1, e1, h1, h2⟩ : ∃ st1 : Store, st1 = (st ++ [enterO (tupS act) D.non]).set j (.ins "Block" [("board", .ref kb), ("way", .str (onB b.1)), ("layer", .str b.2), ("last", .ref st.length)]) ∧ st1[j]? = some (blockO kb b (.ref st.length)) ∧ st1[kb]? = some (boardO act) := by
    refine ⟨_, rfl, ?_, ?_⟩
    · rw [List.getElem?_set_self (by rw [List.length_append]; omega)]; rfl
    · rw [List.getElem?_set_ne hne]; exact get_app hb
  simp only [hj, hb, List.getElem?_append_left l1, List.getElem?_append_left l2, kIns_ins, n_board_way, n_board_layer, n_board_last, n_way_board, n_way_layer, n_way_last, n_layer_board, n_layer_way, n_layer_last, n_last_board, n_last_way, n_last_layer, look_ne]
  simp [-List.length_set, hj, hb, List.getElem?_append_left l1, List.getElem?_append_left l2, n_board_way, n_board_layer, n_board_last, n_way_board, n_way_layer, n_way_last, n_layer_board, n_layer_way, n_layer_last, n_last_board, n_last_way, n_last_layer, look_ne, put3, blockO, boardO]
  rw [← e1]
  have l3 : kb < st1.length := get_lt h2
  have h3 : (st1.set kb (MO.ins "Switchboard" [("now", tupS (swB act b.1 b.2))]))[j]? = some (blockO kb b (.ref st.length)) := by rw [List.getElem?_set_ne (Ne.symm hne)]; exact h1
  have h4 : (st1.set kb (MO.ins "Switchboard" [("now", tupS (swB act b.1 b.2))]))[kb]? = some (.ins "Switchboard" [("now", tupS (swB act b.1 b.2))]) := List.getElem?_set_self l3
  simp [-List.length_set, h1, h2, n_board_way, n_board_layer, n_board_last, n_way_board, n_way_layer, n_way_last, n_layer_board, n_layer_way, n_layer_last, n_last_board, n_last_way, n_last_layer, look_ne, put3, blockO, boardO, switch_spec ha ok hl]
  simp only [h3, h4, blockO, kIns_ins]
  simp [h3, h4, n_board_way, n_board_layer, n_board_last, n_way_board, n_way_layer, n_way_last, n_layer_board, n_layer_way, n_layer_last, n_last_board, n_last_way, n_last_layer, look_ne]
theorem exit_spec {st : Store} {j kb e : Nat} {b : Blk} {act : List Str} {o now0 : D} (hj : st[j]? = some (blockO kb b (.ref e))) (he : st[e]? = some (enterO (tupS act) o)) (hb : st[kb]? = some (.ins "Switchboard" [("now", now0)])) :
    mf_Block_exit [.ref j] st = .ok .non ((st.set kb (boardO act)).set j (blockO kb b o)) := by
  have hne : j ≠ kb := fun e => by
    rw [e, hb] at hj
    have hj := Option.some.inj hj
    unfold blockO at hj
    rw [MO.ins.injEq] at hj
    exact absurd hj.1 (by decide)
  have hne2 : e ≠ kb := fun e => by
    rw [e, hb] at he
    have he := Option.some.inj he
    unfold enterO at he
    rw [MO.ins.injEq] at he
    exact absurd he.1 (by decide)
  have l1 := get_lt hj
  have l2 := get_lt hb
  obtain ⟨st1, e1, h1, h2⟩ : ∃ st1 : Store, st1 = st.set kb (.ins "Switchboard" [("now", tupS act)]) ∧ st1[j]? = some (blockO kb b (.ref e)) ∧ st1[e]? = some (enterO (tupS act) o) := by
    refine ⟨_, rfl, ?_, ?_⟩
    · rw [List.getElem?_set_ne (Ne.symm hne)]; exact hj
    · rw [List.getElem?_set_ne (Ne.symm hne2)]; exact he
  apply of_run
  rw [mf_Block_exit, run_mfn]
  simp [mb_Block_exit, hj, hb, he, n_board_way, n_board_layer, n_board_last, n_way_board, n_way_layer, n_way_last, n_layer_board, n_layer_way, n_layer_last, n_last_board, n_last_way, n_last_layer, look_ne, n_before_outer, n_outer_before, put3, blockO, enterO, boardO]
  rw [← e1]
  simp only [h1, h2, blockO, enterO, kIns_ins]
  simp [h1, h2, n_board_way, n_board_layer, n_board_last, n_way_board, n_way_layer, n_way_last, n_layer_board, n_layer_way, n_layer_last, n_last_board, n_last_way, n_last_layer, look_ne, n_before_outer, n_outer_before, put3, blockO, enterO]
theorem kIns_block {st : Store} {k : Res (Nat × String × List (Str × D)) → Prop} {i kb : Nat} {b : Blk} {l : D} : kIns st k i (some (blockO kb b l)) = k (.ok (i, "Block", [("board", .ref kb), ("way", .str (onB b.1)), ("layer", .str b.2), ("last", l)]) st) := rfl
theorem kIns_board {st : Store} {k : Res (Nat × String × List (Str × D)) → Prop} {i : Nat} {act : List Str} : kIns st k i (some (boardO act)) = k (.ok (i, "Switchboard", [("now", tupS act)]) st) := rfl
/-- what a deed comes to -/
abbrev Out := Except (String × D) D
def Out.res (o : Out) (st : Store) : Res D := match o with
  | .ok d => .ok d st
  | .error e => .err e.1 e.2 st
theorem within_spec (tab : FnTab) (kb : Nat) (c : String) (js : List Nat) (mf : List Nat → List D → M D) (o : Out) (ht : tab.lookup c = some mf) : ∀ (bs : List Blk) (n : Nat), bs.length < n → bs.length ≤ 1000 → ∀ (act : List Str) (st : Store), st[kb]? = some (boardO act) → Oks act → OksB bs → act.length + bs.length ≤ 900000 →
    (∀ st1 : Store, st1[kb]? = some (boardO (aftB act bs)) → (∀ (k : Nat) (o : MO), k ≠ kb → st[k]? = some o → st1[k]? = some o) → ∃ st2, mf js [] st1 = o.res st2 ∧ Ext st1 st2) →
    ∃ st', mf_within tab n (.ref kb :: .fn c js :: bs.map blkD) st = o.res st' ∧ Ext st st'
  | [], n, hn, _, act, st, hb, ha, _, _, hd => by
    obtain ⟨m, rfl⟩ : ∃ m, n = m + 1 := ⟨n - 1, by simp at hn; omega⟩
    obtain ⟨st2, h1, h2⟩ := hd st hb fun _ _ _ e => e
    refine ⟨st2, ?_, h2⟩
    apply of_run
    rw [mf_within, run_mfnS]
    simp [run_mfn, mb_within, eqF_int, ht]
    rw [h1]
    cases o <;> simp [Out.res]
  | b :: bs, n, hn, hlen, act, st, hb, ha, hbs, hl, hd => by
    obtain ⟨m, rfl⟩ : ∃ m, n = m + 1 := ⟨n - 1, by simp at hn; omega⟩
    have hb2 : Ok b.2 := hbs b List.mem_cons_self
    have hbs2 : OksB bs := fun c hc => hbs c (List.mem_cons_of_mem _ hc)
    rw [List.length_cons] at hn hlen hl
    have bl := block_init st kb b
    -- the block is entered
    have hj : (st ++ [blockO kb b .non])[st.length]? = some (blockO kb b .non) := by simp
    have en := enter_spec hj (get_app hb) ha hb2 (by omega)
    obtain ⟨st2, e2, h2j, h2e, h2b, h2o⟩ : ∃ st2 : Store, st2 = (((st ++ [blockO kb b .non] ++ [enterO (tupS act) .non]).set st.length (blockO kb b (.ref (st ++ [blockO kb b .non]).length))).set kb (boardO (swB act b.1 b.2))) ∧
        st2[st.length]? = some (blockO kb b (.ref (st.length + 1))) ∧ st2[st.length + 1]? = some (enterO (tupS act) .non) ∧ st2[kb]? = some (boardO (swB act b.1 b.2)) ∧ ∀ (k : Nat) (o : MO), k ≠ kb → st[k]? = some o → st2[k]? = some o := by
      have lk := get_lt hb
      refine ⟨_, rfl, ?_, ?_, ?_, fun k o hk e => ?_⟩
      · rw [List.getElem?_set_ne (by omega), List.getElem?_set_self (by simp)]; simp
      · rw [List.getElem?_set_ne (by omega), List.getElem?_set_ne (by omega)]; simp
      · rw [List.getElem?_set_self (by simp; omega)]
      · have := get_lt e
        rw [List.getElem?_set_ne (Ne.symm hk), List.getElem?_set_ne (by omega)]
        exact get_app (get_app e)
    rw [← e2] at en
    -- the rest runs inside
    obtain ⟨st3, h3, x3⟩ := within_spec tab kb c js mf o ht bs m (by omega) (by omega) (swB act b.1 b.2) st2 h2b (swB_ok ha hb2 b.1) hbs2 (by have := swB_len (act := act) (l := b.2) b.1; omega) fun st1 q1 q2 => hd st1 q1 fun k o hk e => q2 k o hk (h2o k o hk e)
    have ex := exit_spec (b := b) (act := act) (o := .non) (x3 _ _ rfl h2j) (x3 _ _ rfl h2e) (x3 _ _ rfl h2b)
    refine ⟨(st3.set kb (boardO act)).set st.length (blockO kb b .non), ?_, ?_⟩
    · apply of_run
      rw [mf_within, run_mfnS]
      simp [run_mfn, mb_within, eqF_int, ht]
      rw [if_pos (by omega), if_neg (by omega), if_pos (by omega)]
      simp [blkD, bl]
      simp [kIns_block, en, h2b, kIns_board, look_ne n_within_now, Out.res]
      rw [h3]
      cases o with
      | ok d => simp [Out.res, kExit_rt ex]
      | error e => simp [Out.res, kExit_err ex]
    · have lk := get_lt hb
      have g1 : kb < st3.length := get_lt (x3 _ _ rfl h2b)
      have g2 : st.length < st3.length := get_lt (x3 _ _ rfl h2j)
      intro k o hn e
      have := get_lt e
      rw [List.getElem?_set_ne (by omega)]
      by_cases hk : k = kb
      · subst hk
        rw [List.getElem?_set_self g1, ← e, hb]
      · rw [List.getElem?_set_ne (Ne.symm hk)]
        exact x3 _ _ hn (h2o k o hk e)
theorem wwithin_spec (tab : FnTab) {kb : Nat} {c : String} {js : List Nat} {mf : List Nat → List D → M D} {o : Out} (ht : tab.lookup c = some mf) {bs : List Blk} (hn : bs.length ≤ 4) {act : List Str} {st : Store} (hb : st[kb]? = some (boardO act)) (ha : Oks act) (hbs : OksB bs) (hl : act.length ≤ 1000)
    (hd : ∀ st1 : Store, st1[kb]? = some (boardO (aftB act bs)) → (∀ (k : Nat) (o : MO), k ≠ kb → st[k]? = some o → st1[k]? = some o) → ∃ st2, mf js [] st1 = o.res st2 ∧ Ext st1 st2) :
    ∃ st', mf_wwithin tab [.ref kb, .fn c js, .lst (bs.map blkD)] st = o.res st' ∧ Ext st st' := by
  obtain ⟨st', h1, h2⟩ := within_spec tab kb c js mf o ht bs 5 (by omega) (by omega) act st hb ha hbs (by omega) hd
  refine ⟨st', ?_, h2⟩
  apply of_run
  rw [mf_wwithin, run_mfn]
  match bs, hn with
  | [], _ => 
    simp [mb_wwithin, eqF_int, hb, kIns_board, look_ne n_within_now] at h1 ⊢
    rw [h1]
    cases o <;> simp [Out.res]
  | [a], _ => 
    simp [mb_wwithin, eqF_int, hb, kIns_board, look_ne n_within_now] at h1 ⊢
    rw [h1]
    cases o <;> simp [Out.res]
  | [a, b], _ => 
    simp [mb_wwithin, eqF_int, hb, kIns_board, look_ne n_within_now] at h1 ⊢
    rw [h1]
    cases o <;> simp [Out.res]
  | [a, b, c], _ => 
    simp [mb_wwithin, eqF_int, hb, kIns_board, look_ne n_within_now] at h1 ⊢
    rw [h1]
    cases o <;> simp [Out.res]
  | [a, b, c, d], _ => 
    simp [mb_wwithin, eqF_int, hb, kIns_board, look_ne n_within_now] at h1 ⊢
    rw [h1]
    cases o <;> simp [Out.res]
/-! calls from frames with captured cells -/
theorem back_ext {st st' : Store} {f : MO → MO} (hf : ∀ o : MO, o.tr = true → f o = o) (hg : ∀ o : MO, (f o).nap = f o) (x : Ext (st.map f) st') (k : Nat) (o : MO) (e : st[k]? = some o) : (M3.back st st')[k]? = some o := by
  have e1 : (st.map f)[k]? = some (f o) := by rw [List.getElem?_map, e]; rfl
  have e2 := x k _ (hg o) e1
  rw [back_get, e2, Option.map_some, e]
  show some (o.pick (f o)) = some o
  unfold MO.pick
  split
  · rename_i h
    rw [hf o h]
    unfold MO.cut
    rw [if_pos h]
  · rfl
theorem nap_nap (o : MO) : o.nap.nap = o.nap := by cases o <;> rfl
theorem nap_of_tr (o : MO) (h : o.tr = true) : o.nap = o := by cases o <;> first | rfl | cases h
theorem lent_nap (u : Sl3) (o : MO) : (o.lent u).nap = o.lent u := by
  cases o with
  | slp i => unfold MO.lent; dsimp only; split <;> rfl
  | _ => rfl
theorem lent_of_tr (u : Sl3) (o : MO) (h : o.tr = true) : o.lent u = o := by cases o <;> first | rfl | cases h
theorem get_nap {st : Store} {k : Nat} {o : MO} (h : st[k]? = some o) (hn : o.nap = o) : (st.map MO.nap)[k]? = some o := by
  rw [List.getElem?_map, h, Option.map_some, hn]
theorem get_lent {u : Sl3} {st : Store} {k : Nat} {o : MO} (h : st[k]? = some o) (hn : o.lent u = o) : (st.map (MO.lent u))[k]? = some o := by
  rw [List.getElem?_map, h, Option.map_some, hn]
theorem map_nap_ext (st : Store) : Ext st (st.map MO.nap) := fun k o hn e => get_nap e hn
theorem after_spec {bs : List Blk} {act : List Str} (ha : Oks act) (hbs : OksB bs) (hl : act.length + bs.length ≤ 900000) (st : Store) : mf_w_after [tupS act, .lst (bs.map blkD)] st = .ok (tupS (aftB act bs)) st := by
  apply of_run
  rw [mf_w_after, run_mfn]
  simp [mb_w_after]
  refine forL_run (fun i u st' => st' = st ∧ ∃ x y z : Option W, u = [some (W.val (tupS (aftB act (bs.take i)))), some (W.val (.lst (bs.map blkD))), x, y, z]) ⟨rfl, none, none, none, rfl⟩ ?_ ?_
  · rintro i d u st' hd ⟨rfl, x, y, z, rfl⟩
    rw [List.getElem?_map] at hd
    obtain ⟨b, eb, rfl⟩ := Option.map_eq_some_iff.mp hd
    have hi := (List.getElem?_eq_some_iff.mp eb).1
    have ok : Ok b.2 := hbs b (List.mem_of_getElem? eb)
    have oks : Oks (aftB act (bs.take i)) := aftB_ok ha fun c hc => hbs c (List.mem_of_mem_take hc)
    have len : (aftB act (bs.take i)).length ≤ 900000 := by
      have := aftB_len (bs := bs.take i) (act := act)
      rw [List.length_take] at this
      omega
    have step : aftB act (bs.take (i + 1)) = swB (aftB act (bs.take i)) b.1 b.2 := by
      have h := List.take_succ (l := bs) (i := i)
      rw [h, eb]
      unfold aftB
      rw [List.foldl_append]
      rfl
    refine ⟨_, rfl, ?_⟩
    rw [step]
    generalize aftB act (bs.take i) = a at oks len ⊢
    have lf := List.length_filter_le (fun n => !decide (n = b.2)) a
    simp [tupS]
    refine lc_strs (ws := a) (fun n => !decide (n = b.2)) (fun n => .str n) (by omega) (fun n hn => ⟨_, rfl, ?_, fun _ => ?_⟩) ?_
    · simp [blkD, eqF_str true (oks n hn) ok]
    · simp
    simp [blkD, onB_eq]
    unfold swB
    cases b.1 with
    | true => simp; omega
    | false => simp
  · rintro u st' ⟨rfl, x, y, z, rfl⟩
    simp
/-- what the law draws -/
def drawB (ws : List Str) (d : Int) : Blk := (!decide (d % 3 = 2), ws.getD ((d / 3).toNat % ws.length) "")
theorem drawB_ok {ws : List Str} (h : Oks ws) (hn : ws ≠ []) (d : Int) : Ok (drawB ws d).2 := by
  have l : 0 < ws.length := List.length_pos_iff.mpr hn
  unfold drawB
  rw [List.getD_eq_getElem?_getD, List.getElem?_eq_getElem (Nat.mod_lt _ l)]
  exact h _ (List.getElem_mem _)
theorem blocks_spec {ds : List Int} {ws : List Str} (hd : ∀ d ∈ ds, 0 ≤ d ∧ d < 5040) (hn : ws ≠ []) (hw : ws.length ≤ 1000) (hl : ds.length ≤ 1000) (st : Store) : mf_w_blocks [.lst (ds.map .int), .lst (ws.map .str)] st = .ok (.lst ((ds.map (drawB ws)).map blkD)) st := by
  have l : 0 < ws.length := List.length_pos_iff.mpr hn
  apply of_run
  rw [mf_w_blocks, run_mfn]
  simp [mb_w_blocks]
  refine lcA_run (xs := ds) (fun d => .int d) (fun d => blkD (drawB ws d)) (by omega) (fun d hm => ⟨_, rfl, ?_⟩) ?_
  · obtain ⟨h1, h2⟩ := hd d hm
    obtain ⟨m, e3, hm, lt⟩ : ∃ m : Nat, d / 3 % (ws.length : Int) = (m : Int) ∧ m = (d / 3).toNat % ws.length ∧ m < ws.length :=
      ⟨_, by rw [Int.natCast_emod, Int.toNat_of_nonneg (by omega)], rfl, Nat.mod_lt _ l⟩
    have ea : atI (ws.map D.str) (m : Int) = some (.str (ws.getD m "")) := by
      rw [atI_int _ (by omega), Int.toNat_natCast, List.getElem?_map, List.getD_eq_getElem?_getD, List.getElem?_eq_getElem lt]
      rfl
    have h0 : d % 3 = 0 ∨ d % 3 = 1 ∨ d % 3 = 2 := by omega
    rcases h0 with h0 | h0 | h0 <;> simp [e3, h0, ea, l, blkD, drawB, hm.symm, onB]
  · simp [Function.comp_def]
/-! data that is equal to itself -/
structure Sam (n : Nat) (d : D) (p : PyData) : Prop where
  py : d.py = some p
  lay : p.canLay0 = true
  dep : p.depth ≤ n
  eqv : PyData.eqv p p = true
theorem sam_tupS {a : List Str} (h : Oks a) : Sam 1 (tupS a) (.tuple (a.map .str)) :=
  ⟨by rw [tupS, D.py, pys_strs]; rfl, by rw [PyData.canLay0, canLay_strs h], by rw [PyData.depth, depth_strs]; omega, by rw [PyData.eqv, eqv_strs]; simp⟩
theorem sam_lst2 {n : Nat} {d1 d2 : D} {p1 p2 : PyData} (h1 : Sam n d1 p1) (h2 : Sam n d2 p2) : Sam (n + 1) (.lst [d1, d2]) (.list [p1, p2]) :=
  ⟨by rw [D.py, D.pys, h1.py, D.pys, h2.py]; rfl, by rw [PyData.canLay0, PyData.canLayAll0, h1.lay, PyData.canLayAll0, h2.lay]; rfl,
    by have := h1.dep; have := h2.dep; rw [PyData.depth, PyData.depthAll, PyData.depthAll, PyData.depthAll]; omega, by rw [PyData.eqv, PyData.eqvAll, h1.eqv, PyData.eqvAll, h2.eqv]; rfl⟩
theorem sam_lst3 {n : Nat} {d1 d2 d3 : D} {p1 p2 p3 : PyData} (h1 : Sam n d1 p1) (h2 : Sam n d2 p2) (h3 : Sam n d3 p3) : Sam (n + 1) (.lst [d1, d2, d3]) (.list [p1, p2, p3]) :=
  ⟨by rw [D.py, D.pys, h1.py, D.pys, h2.py, D.pys, h3.py]; rfl, by rw [PyData.canLay0, PyData.canLayAll0, h1.lay, PyData.canLayAll0, h2.lay, PyData.canLayAll0, h3.lay]; rfl,
    by have := h1.dep; have := h2.dep; have := h3.dep; rw [PyData.depth, PyData.depthAll, PyData.depthAll, PyData.depthAll, PyData.depthAll]; omega, by rw [PyData.eqv, PyData.eqvAll, h1.eqv, PyData.eqvAll, h2.eqv, PyData.eqvAll, h3.eqv]; rfl⟩
theorem Sam.up {m n : Nat} {d : D} {p : PyData} (h : Sam m d p) (l : m ≤ n) : Sam n d p := ⟨h.py, h.lay, Nat.le_trans h.dep l, h.eqv⟩
theorem Sam.eqF {n : Nat} {d : D} {p : PyData} (h : Sam n d p) (hn : n ≤ 10) (neg : Bool) : M3.eqF neg (.val d) (.val d) = some (.val (.bl (!neg))) := by
  have s : SeqAt.shaped p = true := by
    have := h.dep
    unfold SeqAt.shaped
    rw [h.lay]
    simp
    omega
  unfold M3.eqF
  simp only [W_rd_val, D.eqv?, h.py, s, and_self, if_true, Option.map_some, h.eqv]
  cases neg <;> rfl
theorem eqF_tupS (neg : Bool) {a : List Str} (h : Oks a) : eqF neg (.val (tupS a)) (.val (tupS a)) = some (.val (.bl (!neg))) := (sam_tupS h).eqF (by decide) neg
theorem run_at {α : Type} {r x : Res α} (e : r = x) {k : Res α → Prop} (h : M3.run x k) : M3.run r k := e ▸ h
end My


namespace My
open PySem L2 M3
def lb_next_answer : SM := (sSeq sNext
  (sSeq (sIf (tOf (eBin (eqF false) (eVar 2) (eB lenF (aCons (eVar 3) aNil)))) (sRaise "NoAnswer") sNext)
  (sSeq (sAug 2 addI (eC (.int 1)))
  sNext)))
def le_next_answer : EM := (eBin ixF (eVar 3) (eBin subF (eVar 2) (eC (.int 1))))
def lf_next_answer : List Nat → List D → M D := mfnG 4 2 lb_next_answer le_next_answer

def mb_give_answers : SM := (sSeq (sSet 1 (eC (.int 0)))
  (sSeq (sDef "next_answer" 2 [1, 0])
  sNext))
def me_give_answers : EM := (eVar 2)
def mf_give_answers : List D → M D := mfnH 3 1 0 mb_give_answers me_give_answers

def mb_w_asker : SM := (sSeq (sIf (tOf (eBin (eqF false) (eLenS (eVar 0)) (eC (.int 0)))) (sRetV (eCallRp mf_give_answers aNil)) sNext)
  (sSeq (sIf (tOf (eBin (eqF false) (eLenS (eVar 0)) (eC (.int 1)))) (sRetV (eCallRp mf_give_answers (aCons (eIxS 0 (eVar 0)) aNil))) sNext)
  (sSeq (sIf (tOf (eBin (eqF false) (eLenS (eVar 0)) (eC (.int 2)))) (sRetV (eCallRp mf_give_answers (aCons (eIxS 0 (eVar 0)) (aCons (eIxS 1 (eVar 0)) aNil)))) sNext)
  (sSeq (sIf (tOf (eBin (eqF false) (eLenS (eVar 0)) (eC (.int 3)))) (sRetV (eCallRp mf_give_answers (aCons (eIxS 0 (eVar 0)) (aCons (eIxS 1 (eVar 0)) (aCons (eIxS 2 (eVar 0)) aNil))))) sNext)
  (sRetV (eCallRp mf_give_answers (aCons (eIxS 0 (eVar 0)) (aCons (eIxS 1 (eVar 0)) (aCons (eIxS 2 (eVar 0)) (aCons (eIxS 3 (eVar 0)) aNil))))))))))
def mf_w_asker : List D → M D := mfn 1 mb_w_asker

def tab_ans : FnTab := [("next_answer", lf_next_answer)]

def mb_w_reply : SM := (sTry (some 3) (subT [("NoAnswer", true)]) (sRetV (eCallV 2 tab_ans 0 (aCons (eVar 1) (aCons (eVar 2) aNil)))) (sSeq (sIf (tAnd3 (tTru (eIsE 3 (subT [("NoAnswer", true)]))) (tTru (eIsE 3 (subT [("NoAnswer", true)])))) (sRetV (eC (.str "no answer"))) sNext)
  (sRetV (eC (.str "other")))))
def mf_w_reply : List D → M D := mfn 4 mb_w_reply

def mb_law : SM := (sSeq (sSet 1 (eCall 3 mf_w_digits (aCons (eCall 2 mf_w_cell_at (aCons (eVar 0) (aCons (eC (.int 0)) aNil))) (aCons (eC (.int 3)) (aCons (eC (.int 20)) aNil)))))
  (sSeq (sSet 2 (eCall 2 mf_w_spelled (aCons (eBin ixF (eVar 1) (eC (.int 0))) (aCons (eC (.int 2)) aNil))))
  (sSeq (sOwn 3 (fLst aNil))
  (sSeq (sFor (iRange1 (aCons (eC (.int 2)) aNil)) (gName3 4) (sSeq (sSet 7 (eBin modF (eB intCF (aCons (eBin ixF (eVar 1) (eBin addF (eC (.int 1)) (eVar 4))) aNil)) (eC (.int 5))))
  (sApp 3 (eNewL (fLc (iSeq (eSlA (eVar 1) (pSome (eBin addF (eC (.int 3)) (eBin mulF (eC (.int 4)) (eVar 4)))) (pSome (eBin addF (eBin addF (eC (.int 3)) (eBin mulF (eC (.int 4)) (eVar 4))) (eVar 7))))) (gName3 6) tYes3 (eBin modF (eB intCF (aCons (eVar 6) aNil)) (eC (.int 2))) [6])))))
  (sSeq (sSet 5 (eF (fLst (aCons (eCall 1 mf_w_asker (aCons (eBin ixF (eVar 3) (eC (.int 0))) aNil)) (aCons (eCall 1 mf_w_asker (aCons (eBin ixF (eVar 3) (eC (.int 1))) aNil)) aNil)))))
  (sSeq (sFor (iSeq (eSlA (eVar 1) (pSome (eC (.int 11))) (pSome (eC (.int 19))))) (gName3 6) (sSeq (sSet 8 (eBin modF (eB intCF (aCons (eVar 6) aNil)) (eC (.int 2))))
  (sSeq (sSet 9 (eBin ixF (eVar 5) (eVar 8)))
  (sSeq (sSet 10 (eCall 3 mf_w_reply (aCons (eVar 9) (aCons (eBin ixF (eF (fLst (aCons (eC (.str "ask")) (aCons (eC (.str "own")) aNil)))) (eBin modF (eBin divF (eB intCF (aCons (eVar 6) aNil)) (eC (.int 2))) (eC (.int 2)))) (aCons (eBin ixF (eVar 2) (eBin modF (eBin divF (eB intCF (aCons (eVar 6) aNil)) (eC (.int 4))) (eC (.int 2)))) aNil)))))
  (sIf (tOf (eBin (eqF false) (eLenS (eBin ixF (eVar 3) (eVar 8))) (eC (.int 0)))) (sIf (tOf (eBin (eqF true) (eVar 10) (eC (.str "no answer")))) (sRetV (eC (.bl false))) sNext) (sIf (tOr3 (tTru (eB isi2F (aCons (eVar 10) (aCons (eC (.ty "bool")) aNil)))) (tOf (eBin (eqF true) (eVar 10) (ePop0S (eBin ixF (eVar 3) (eVar 8)))))) (sRetV (eC (.bl false))) sNext))))))
  (sRetV (eC (.bl true)))))))))
def mf_law : List D → M D := mfn 11 mb_law

end My


namespace My
open PySem L2 M3
abbrev usedO (n : Nat) : MO := .cell (.int n)
abbrev answO (xs : List D) : MO := .cell (.ctup xs)
theorem set_back2 {st : Store} {k j : Nat} {o q p : MO} (h1 : st[k]? = some o) (h2 : st[j]? = some p) (hne : k ≠ j) : (((st.set k .dead).set j .dead).set k q).set j p = st.set k q := by
  apply List.ext_getElem?
  intro i
  have l1 := get_lt h1
  have l2 := get_lt h2
  by_cases hj : i = j
  · subst hj
    rw [List.getElem?_set_self (by simp; exact l2), List.getElem?_set_ne hne, h2]
  · rw [List.getElem?_set_ne (Ne.symm hj)]
    by_cases hk : i = k
    · subst hk
      rw [List.getElem?_set_self (by simp; exact l1), List.getElem?_set_self l1]
    · rw [List.getElem?_set_ne (Ne.symm hk), List.getElem?_set_ne (Ne.symm hj), List.getElem?_set_ne (Ne.symm hk), List.getElem?_set_ne (Ne.symm hk)]
theorem set_same {st : Store} {k : Nat} {o : MO} (h1 : st[k]? = some o) : st.set k o = st := by
  apply List.ext_getElem?
  intro i
  by_cases hk : i = k
  · subst hk
    rw [List.getElem?_set_self (get_lt h1), h1]
  · rw [List.getElem?_set_ne (Ne.symm hk)]
/-- no answer is left -/
theorem next_none {st : Store} {ku ka : Nat} {xs : List D} {a b : D} (h1 : st[ku]? = some (usedO xs.length)) (h2 : st[ka]? = some (answO xs)) (hne : ku ≠ ka) : lf_next_answer [ku, ka] [a, b] st = .err "NoAnswer" .non st := by
  have e : srun (lb_next_answer [some (.val a), some (.val b), some (.val (.int xs.length)), some (.val (.ctup xs))] ((st.set ku .dead).set ka .dead)) (fun r => r = .err "NoAnswer" .non [some (.val a), some (.val b), some (.val (.int xs.length)), some (.val (.ctup xs))] ((st.set ku .dead).set ka .dead)) := by
    simp [lb_next_answer, eqF_int]
  have e : lb_next_answer [some (.val a), some (.val b), some (.val (.int xs.length)), some (.val (.ctup xs))] ((st.set ku .dead).set ka .dead) = .err "NoAnswer" .non [some (.val a), some (.val b), some (.val (.int xs.length)), some (.val (.ctup xs))] ((st.set ku .dead).set ka .dead) := e
  have q := set_back2 (q := usedO xs.length) h1 h2 hne
  rw [set_same h1] at q
  unfold lf_next_answer mfnG
  dsimp only
  rw [h1, h2]
  simp only [List.map_append, List.map_cons, List.map_nil, List.cons_append, List.nil_append, List.length_cons, List.length_nil, Nat.reduceAdd, Nat.reduceSub, List.replicate_zero, List.append_nil]
  rw [e]
  simp [q]
/-- one is -/
theorem next_some {st : Store} {ku ka n : Nat} {xs : List D} {a b d : D} (h1 : st[ku]? = some (usedO n)) (h2 : st[ka]? = some (answO xs)) (hne : ku ≠ ka) (hd : xs[n]? = some d) : lf_next_answer [ku, ka] [a, b] st = .ok d (st.set ku (usedO (n + 1))) := by
  have hn : n < xs.length := (List.getElem?_eq_some_iff.mp hd).1
  have e : srun (lb_next_answer [some (.val a), some (.val b), some (.val (.int n)), some (.val (.ctup xs))] ((st.set ku .dead).set ka .dead)) (fun r => r = .nx [some (.val a), some (.val b), some (.val (.int (n + 1 : Nat))), some (.val (.ctup xs))] ((st.set ku .dead).set ka .dead)) := by
    simp [lb_next_answer, eqF_int, show ¬ ((n : Int) = xs.length) by omega]
    rw [run_sAug 2 addI (w := .val (.int n)) rfl]
    simp [kAug, addI]
  have e : lb_next_answer [some (.val a), some (.val b), some (.val (.int n)), some (.val (.ctup xs))] ((st.set ku .dead).set ka .dead) = .nx [some (.val a), some (.val b), some (.val (.int (n + 1 : Nat))), some (.val (.ctup xs))] ((st.set ku .dead).set ka .dead) := e
  have e2 : M3.run (M.bind (le_next_answer [some (.val a), some (.val b), some (.val (.int (n + 1 : Nat))), some (.val (.ctup xs))]) (fun w => M.of w.d) ((st.set ku .dead).set ka .dead)) (fun r => r = .ok d ((st.set ku .dead).set ka .dead)) := by
    have hx : atI xs (n : Int) = some d := by rw [atN]; exact hd
    have hi : ixF (.val (.ctup xs)) (.val (.int n)) = some (.val d) := by
      show (atI xs (n : Int)).map M3.W.val = _
      rw [hx]
      rfl
    simp [le_next_answer, hi]
  have e2 : M.bind (le_next_answer [some (.val a), some (.val b), some (.val (.int (n + 1 : Nat))), some (.val (.ctup xs))]) (fun w => M.of w.d) ((st.set ku .dead).set ka .dead) = .ok d ((st.set ku .dead).set ka .dead) := e2
  have q := set_back2 (q := usedO (n + 1)) h1 h2 hne
  unfold lf_next_answer mfnG
  dsimp only
  rw [h1, h2]
  simp only [List.map_append, List.map_cons, List.map_nil, List.cons_append, List.nil_append, List.length_cons, List.length_nil, Nat.reduceAdd, Nat.reduceSub, List.replicate_zero, List.append_nil]
  rw [e]
  simp only [List.getElem?_cons_succ, List.getElem?_cons_zero]
  rw [e2]
  simp only
  rw [q]
theorem give_spec (ds : List D) (hl : ds.length ≤ 1000) (st : Store) : mf_give_answers ds st = .ok (.fn "next_answer" [st.length, st.length + 1]) (st.map MO.nap ++ [usedO 0, answO ds]) := by
  unfold mf_give_answers mfnH
  have e : mb_give_answers ([some (.val (.ctup ds))] ++ List.replicate (3 - 1) none) st = .nx [some (.val (.ctup ds)), some (.val (.int 0)), some (.val (.fn "next_answer" [st.length, st.length + 1]))] (st ++ [MO.slp 1, MO.slp 0]) := rfl
  rw [e]
  have g1 : (st ++ [MO.slp 1, MO.slp 0])[st.length]? = some (.slp 1) := by simp
  have g2 : (st ++ [MO.slp 1, MO.slp 0])[st.length + 1]? = some (.slp 0) := by simp
  have em : M.bind (me_give_answers [some (.val (.ctup ds)), some (.val (.int 0)), some (.val (.fn "next_answer" [st.length, st.length + 1]))]) (fun w => M.of w.d) (st ++ [MO.slp 1, MO.slp 0]) = .ok (.fn "next_answer" [st.length, st.length + 1]) (st ++ [MO.slp 1, MO.slp 0]) := rfl
  rw [if_pos hl]
  simp only [List.getElem?_cons_succ, List.getElem?_cons_zero]
  rw [em]
  simp only [g1, g2, and_self, if_true]
  congr 1
  apply List.ext_getElem?
  intro i
  by_cases h1 : i < st.length
  · rw [List.getElem?_set_ne (by omega), List.getElem?_set_ne (by omega), List.map_append, List.getElem?_append_left (by simpa using h1), List.getElem?_append_left (by simpa using h1)]
  · by_cases h2 : i = st.length
    · subst h2
      rw [List.getElem?_set_ne (by omega), List.getElem?_set_self (by simp), List.getElem?_append_right (by simp)]
      simp
    · by_cases h3 : i = st.length + 1
      · subst h3
        rw [List.getElem?_set_self (by simp), List.getElem?_append_right (by simp)]
        simp
      · rw [List.getElem?_eq_none (by simp; omega), List.getElem?_eq_none (by simp; omega)]
theorem asker_spec {st : Store} {k : Nat} {xs : List Int} (h : st[k]? = some (.lst (xs.map .int))) (hn : xs.length ≤ 4) : mf_w_asker [.ref k] st = .ok (.fn "next_answer" [st.length, st.length + 1]) (st.map MO.nap ++ [usedO 0, answO (xs.map .int)]) := by
  have gv := give_spec (xs.map .int) (by rw [List.length_map]; omega) st
  apply of_run
  rw [mf_w_asker, run_mfn]
  match xs, hn with
  | [], _ => simp at h gv; simp [mb_w_asker, h, eqF_int, gv]
  | [a], _ => simp at h gv; simp [mb_w_asker, h, eqF_int, gv]
  | [a, b], _ => simp at h gv; simp [mb_w_asker, h, eqF_int, gv]
  | [a, b, c], _ => simp at h gv; simp [mb_w_asker, h, eqF_int, gv]
  | [a, b, c, d], _ => simp at h gv; simp [mb_w_asker, h, eqF_int, gv, atI_int]
theorem reply_none {st : Store} {ku ka : Nat} {xs : List D} {a b : D} (h1 : st[ku]? = some (usedO xs.length)) (h2 : st[ka]? = some (answO xs)) (hne : ku ≠ ka) : mf_w_reply [.fn "next_answer" [ku, ka], a, b] st = .ok (.str "no answer") st := by
  have nx := next_none (a := a) (b := b) h1 h2 hne
  apply of_run
  rw [mf_w_reply, run_mfn]
  simp [mb_w_reply, tab_ans, nx, subT, noExn]
theorem reply_some {st : Store} {ku ka n : Nat} {xs : List D} {a b d : D} (h1 : st[ku]? = some (usedO n)) (h2 : st[ka]? = some (answO xs)) (hne : ku ≠ ka) (hd : xs[n]? = some d) : mf_w_reply [.fn "next_answer" [ku, ka], a, b] st = .ok d (st.set ku (usedO (n + 1))) := by
  have nx := next_some (a := a) (b := b) h1 h2 hne hd
  apply of_run
  rw [mf_w_reply, run_mfn]
  simp [mb_w_reply, tab_ans, nx]
theorem kit_int_bool9 : kitB "int" "bool" = some false := by decide +kernel
theorem isi_int_bool9 (i : Int) : isi2F [.val (.int i), .val (.ty "bool")] = some (.val (.bl false)) := by
  show isiF [.val (.int i), .val (.ty "bool")] = _
  unfold isiF
  simp [D.tyn, kit_int_bool9]
/-- the store of the law -/
def S9 (L0 L1 : List Int) (n0 n1 : Nat) : Store := [.lst ((L0.drop n0).map .int), .lst ((L1.drop n1).map .int), usedO n0, answO (L0.map .int), usedO n1, answO (L1.map .int)]
set_option maxHeartbeats 4000000 in
theorem law_true (ns : List Int) (hl : ns.length ≤ 63) (hb : ∀ i ∈ ns, i.natAbs.log2 ≤ 1048576) : ∃ st, mf_law [.ro (ns.map .int)] [] = .ok (.bl true) st := by
  suffices h : M3.run (mf_law [.ro (ns.map .int)] []) (fun r => ∃ st, r = .ok (.bl true) st) from h
  obtain ⟨c0, ec0, bc0⟩ := cell_at_spec ns 0 (by omega) hb hl []
  obtain ⟨ds, eds, lds, hds⟩ := digits_spec c0 3 20 bc0 (by omega) (by omega) []
  have gd : ∀ i, i < 20 → ∃ d : Nat, ds[i]? = some (d : Int) ∧ d < 5040 := fun i hi => by
    have h1 : i < ds.length := by omega
    have := hds ds[i] (List.getElem_mem h1)
    exact ⟨ds[i].toNat, by rw [List.getElem?_eq_getElem h1]; congr 1; omega, by omega⟩
  obtain ⟨d0, g0, b0⟩ := gd 0 (by omega)
  obtain ⟨d1, g1, b1⟩ := gd 1 (by omega)
  obtain ⟨d2, g2, b2⟩ := gd 2 (by omega)
  have e2 : mf_w_spelled [.int d0, .int 2] [] = _ := spelled_spec d0 2 b0 (by omega) []
  obtain ⟨w1, w2, hws⟩ : ∃ w1 w2, words d0 2 = [w1, w2] := by
    have := words_length d0 2
    match words d0 2, this with
    | [a, b], _ => exact ⟨a, b, rfl⟩
  have part : ∀ (a b : Nat), b - a ≤ 8 → ∃ A : List Int, cutD (ds.map D.int) (some (a : Int)) (some (b : Int)) = A.map .int ∧ A.length ≤ b - a ∧ ∀ d ∈ A, 0 ≤ d ∧ d < 5040 := fun a b hs =>
    ⟨_, cutD_map _ _ _ _, by rw [cut_mid _ (by omega) (by omega), List.length_take]; omega, fun d hd => by
      rw [cut_mid _ (by omega) (by omega)] at hd
      exact hds d (List.mem_of_mem_drop (List.mem_of_mem_take hd))⟩
  obtain ⟨s0, h0, l0⟩ : ∃ s0 : Nat, (d1 : Int) % 5 = (s0 : Int) ∧ s0 ≤ 4 := ⟨d1 % 5, by omega, by omega⟩
  obtain ⟨s1, h1, l1⟩ : ∃ s1 : Nat, (d2 : Int) % 5 = (s1 : Int) ∧ s1 ≤ 4 := ⟨d2 % 5, by omega, by omega⟩
  obtain ⟨A, eA, lA, hA⟩ := part 3 (3 + s0) (by omega)
  obtain ⟨B, eB, lB, hB⟩ := part 7 (7 + s1) (by omega)
  obtain ⟨C, eC', lC, hC⟩ := part 11 19 (by omega)
  have eA : cutD (ds.map D.int) (some 3) (some (3 + (s0 : Int))) = A.map .int := by rw [← eA]; congr 2
  have eB : cutD (ds.map D.int) (some 7) (some (7 + (s1 : Int))) = B.map .int := by rw [← eB]; congr 2
  have eC' : cutD (ds.map D.int) (some 11) (some 19) = C.map .int := eC'
  rw [mf_law, run_mfn]
  simp only [mb_law]
  simp
  refine run_at ec0 ?_
  simp
  refine run_at eds ?_
  simp [g0]
  refine run_at e2 ?_
  simp
  let f : Int → Int := fun d => d % 2
  let L0 := A.map f
  let L1 := B.map f
  let SS : Store := [.lst (L0.map .int), .lst (L1.map .int)]
  let U : List D → Option W → Option W → Option W → Option W → Option W → Option W → Option W → Sl3 := fun rs x4 x5 x6 x7 x8 x9 x10 => [some (W.val (D.ro (List.map D.int ns))), some (W.val (D.lst (List.map D.int ds))), some (W.val (D.lst (List.map D.str (words d0 2)))), some (W.bor rs), x4, x5, x6, x7, x8, x9, x10]
  refine forL_run (fun i u st => st = SS.take i ∧ ∃ x4 x7 : Option W, u = U (([.ref 0, .ref 1] : List D).take i) x4 none none x7 none none none) ⟨rfl, none, none, rfl⟩ ?_ ?_
  · rintro i d u st hd ⟨rfl, x4, x7, rfl⟩
    obtain ⟨rfl, hi⟩ := range_get hd
    refine ⟨_, rfl, ?_⟩
    obtain rfl | rfl : i = 0 ∨ i = 1 := by omega
    · have m4 : mulC 4 0 = true := rfl
      simp [U, g1, h0, m4, eA]
      refine lcA_run (xs := A) (fun d => .int d) (fun d => .int (f d)) (by omega) (fun d hm => ⟨_, rfl, ?_⟩) ?_
      · simp [f]
      · simp [SS, L0, Function.comp_def]
    · have m4 : mulC 4 1 = true := rfl
      simp [U, g2, h1, m4, eB]
      refine lcA_run (xs := B) (fun d => .int d) (fun d => .int (f d)) (by omega) (fun d hm => ⟨_, rfl, ?_⟩) ?_
      · simp [f]
      · simp [SS, L1, L0, Function.comp_def]
  · rintro u st ⟨rfl, x4, x7, rfl⟩
    have n0 : L0.length ≤ 4 := by simp [L0]; omega
    have n1 : L1.length ≤ 4 := by simp [L1]; omega
    have a0 := asker_spec (st := SS) (k := 0) (xs := L0) rfl n0
    have a1 := asker_spec (st := SS ++ [usedO 0, answO (L0.map .int)]) (k := 1) (xs := L1) rfl n1
    simp only [rangeD_length, show List.take 2 SS = SS from rfl, show List.take 2 ([.ref 0, .ref 1] : List D) = [.ref 0, .ref 1] from rfl]
    simp [U]
    refine run_at a0 ?_
    simp [U]
    refine run_at a1 ?_
    simp [eC']
    let V : Option W → Option W → Option W → Option W → Option W → Option W → Sl3 := fun x4 x6 x7 x8 x9 x10 => [some (W.val (D.ro (List.map D.int ns))), some (W.val (D.lst (List.map D.int ds))), some (W.val (D.lst (List.map D.str (words d0 2)))), some (W.bor [.ref 0, .ref 1]), x4, some (W.val (D.lst [.fn "next_answer" [2, 3], .fn "next_answer" [4, 5]])), x6, x7, x8, x9, x10]
    refine forL_run (fun i u st => ∃ (n0 n1 : Nat) (x4 x6 x7 x8 x9 x10 : Option W), n0 ≤ L0.length ∧ n1 ≤ L1.length ∧ st = S9 L0 L1 n0 n1 ∧ u = V x4 x6 x7 x8 x9 x10) ⟨0, 0, x4, none, x7, none, none, none, Nat.zero_le _, Nat.zero_le _, rfl, rfl⟩ ?_ ?_
    · rintro i d u st hd ⟨n0, n1, y4, y6, y7, y8, y9, y10, hn0, hn1, rfl, rfl⟩
      rw [List.getElem?_map] at hd
      obtain ⟨e, ee, rfl⟩ := Option.map_eq_some_iff.mp hd
      obtain ⟨he0, he1⟩ := hC e (List.mem_of_getElem? ee)
      refine ⟨_, rfl, ?_⟩
      obtain ⟨a, ea⟩ : ∃ a, atI ([.str "ask", .str "own"] : List D) (e / 2 % 2) = some a := by
        have : e / 2 % 2 = 0 ∨ e / 2 % 2 = 1 := by omega
        rcases this with q | q <;> rw [q] <;> exact ⟨_, rfl⟩
      obtain ⟨b, eb⟩ : ∃ b, atI ((words d0 2).map D.str) (e / 4 % 2) = some b := by
        rw [hws]
        have : e / 4 % 2 = 0 ∨ e / 4 % 2 = 1 := by omega
        rcases this with q | q <;> rw [q] <;> exact ⟨_, rfl⟩
      have okn : Ok ("no answer" : Str) := by decide +kernel
      have eqn := eqF_str true okn okn
      simp at eqn
      have side : e % 2 = 0 ∨ e % 2 = 1 := by omega
      have ls0 : (S9 L0 L1 n0 n1)[0]? = some (.lst ((L0.drop n0).map .int)) := rfl
      have ls1 : (S9 L0 L1 n0 n1)[1]? = some (.lst ((L1.drop n1).map .int)) := rfl
      rcases side with q | q
      · by_cases hq : n0 = L0.length
        · have rp := reply_none (st := S9 L0 L1 n0 n1) (ku := 2) (ka := 3) (xs := L0.map .int) (a := a) (b := b) (by rw [hq]; simp [S9]) rfl (by decide)
          simp [V, q, ea, eb]
          refine run_at rp ?_
          have le0 : ((L0.drop n0).map D.int) = [] := by rw [hq]; simp
          simp [ls0, le0, eqF_int, eqn]
          exact ⟨n0, hn0, n1, hn1, rfl⟩
        · have lt : n0 < L0.length := by omega
          have dr : L0.drop n0 = L0[n0] :: L0.drop (n0 + 1) := List.drop_eq_getElem_cons lt
          have hx : (L0.map D.int)[n0]? = some (.int L0[n0]) := by rw [List.getElem?_map, List.getElem?_eq_getElem lt]; rfl
          have rp := reply_some (st := S9 L0 L1 n0 n1) (ku := 2) (ka := 3) (n := n0) (xs := L0.map .int) (a := a) (b := b) rfl rfl (by decide) hx
          have gs : ((S9 L0 L1 n0 n1).set 2 (usedO (n0 + 1)))[0]? = some (.lst ((L0.drop n0).map .int)) := rfl
          simp [V, q, ea, eb]
          refine run_at rp ?_
          have fin : (((S9 L0 L1 n0 n1).set 2 (usedO (n0 + 1))).set 0 (.lst ((L0.drop (n0 + 1)).map .int))) = S9 L0 L1 (n0 + 1) n1 := rfl
          generalize L0[n0] = v at dr
          simp [gs, dr, eqF_int, isi_int_bool9, show ¬ ((((L0.drop (n0 + 1)).length : Nat) : Int) + 1 = 0) by omega]
          rw [if_neg (by omega)]
          exact ⟨n0 + 1, by omega, n1, hn1, by rw [← List.map_drop]; rfl⟩
      · by_cases hq : n1 = L1.length
        · have rp := reply_none (st := S9 L0 L1 n0 n1) (ku := 4) (ka := 5) (xs := L1.map .int) (a := a) (b := b) (by rw [hq]; simp [S9]) rfl (by decide)
          simp [V, q, ea, eb]
          refine run_at rp ?_
          have le1 : ((L1.drop n1).map D.int) = [] := by rw [hq]; simp
          simp [ls1, le1, eqF_int, eqn]
          exact ⟨n0, hn0, n1, hn1, rfl⟩
        · have lt : n1 < L1.length := by omega
          have dr : L1.drop n1 = L1[n1] :: L1.drop (n1 + 1) := List.drop_eq_getElem_cons lt
          have hx : (L1.map D.int)[n1]? = some (.int L1[n1]) := by rw [List.getElem?_map, List.getElem?_eq_getElem lt]; rfl
          have rp := reply_some (st := S9 L0 L1 n0 n1) (ku := 4) (ka := 5) (n := n1) (xs := L1.map .int) (a := a) (b := b) rfl rfl (by decide) hx
          have gs : ((S9 L0 L1 n0 n1).set 4 (usedO (n1 + 1)))[1]? = some (.lst ((L1.drop n1).map .int)) := rfl
          simp [V, q, ea, eb]
          refine run_at rp ?_
          have fin : (((S9 L0 L1 n0 n1).set 4 (usedO (n1 + 1))).set 1 (.lst ((L1.drop (n1 + 1)).map .int))) = S9 L0 L1 n0 (n1 + 1) := rfl
          generalize L1[n1] = v at dr
          simp [gs, dr, eqF_int, isi_int_bool9, show ¬ ((((L1.drop (n1 + 1)).length : Nat) : Int) + 1 = 0) by omega]
          rw [if_neg (by omega)]
          exact ⟨n0, hn0, n1 + 1, by omega, by rw [← List.map_drop]; rfl⟩
    · rintro u st ⟨n0, n1, y4, y6, y7, y8, y9, y10, hn0, hn1, rfl, rfl⟩
      simp
end My


namespace My
open PySem L2 M3
def top (i : Nat) : Stmt := PySem.Challenge.pw_switchedlayers_k09_answers_one_by_one.main.body.getD i (.Pass ⟨0, 0, 0, 0⟩)
abbrev s_give_answers : Stmt := top 4
structure Txt (K : PySem.W.Frag) (mg : Str → Option Value) (G : G3) : Prop where
  hK : K = G.K
  z_bool : mg "bool" = none
  z_int : mg "int" = none
  z_isinstance : mg "isinstance" = none
  z_len : mg "len" = none
  z_range : mg "range" = none
  n_LayerError : mg "LayerError" = some (cvOf G "LayerError")
  n_NoAnswer : mg "NoAnswer" = some (cvOf G "NoAnswer")
  b_ValueError : mg "ValueError" = none ∧ cvOf G "ValueError" = .type "ValueError" ∧ vOf G "ValueError" = .ty "ValueError"
  x_LayerError : ∀ q ∈ ([("NoAnswer", true)] : List (String × Bool)), PySem.W.exmOne K (cvOf G q.1) (cvOf G "LayerError") = some q.2
  i_NoAnswer : IsE K G (cvOf G "NoAnswer") (subT [("NoAnswer", true)])
  i_ValueError : IsE K G (cvOf G "ValueError") (subT [("NoAnswer", true)])
  r_NoAnswer : ExcOk K mg G "NoAnswer" "NoAnswer"
  hf : ∀ c F, G.nf c F → FnL F
  l_next_answer : ∀ (c' : Addr) (cl : List (Str × Addr)), cl.map (·.1) = (["used", "answers"] : List Str) → G.nf "next_answer" (⟨fun p => NdefX.FnO p ⟨"next_answer", ((("give_answers" : Str) ++ (".<locals>." : Str)) : Str) ++ ("next_answer" : Str), defArgs (stB 1 s_give_answers), defBody (stB 1 s_give_answers), defScope (stB 1 s_give_answers), cl, c'⟩, c', ((("give_answers" : Str) ++ (".<locals>." : Str)) : Str) ++ ("next_answer" : Str), cl⟩ : FV)
  m_next_answer : ∀ F, G.nf "next_answer" F → ∃ (c' : Addr) (cl : List (Str × Addr)), cl.map (·.1) = (["used", "answers"] : List Str) ∧ F = (⟨fun p => NdefX.FnO p ⟨"next_answer", ((("give_answers" : Str) ++ (".<locals>." : Str)) : Str) ++ ("next_answer" : Str), defArgs (stB 1 s_give_answers), defBody (stB 1 s_give_answers), defScope (stB 1 s_give_answers), cl, c'⟩, c', ((("give_answers" : Str) ++ (".<locals>." : Str)) : Str) ++ ("next_answer" : Str), cl⟩ : FV)
theorem Txt.ats {K : PySem.W.Frag} {mg : Str → Option Value} {G : G3} {b : Heap} (T : Txt K mg G) : Txt K mg (G.at b) := ⟨T.hK, T.z_bool, T.z_int, T.z_isinstance, T.z_len, T.z_range, T.n_LayerError, T.n_NoAnswer, T.b_ValueError, T.x_LayerError, ⟨T.i_NoAnswer.ok⟩, ⟨T.i_ValueError.ok⟩, ⟨T.r_NoAnswer.ex⟩, T.hf, T.l_next_answer, T.m_next_answer⟩
theorem Txt.ow {K : PySem.W.Frag} {mg : Str → Option Value} {G : G3} {b : Heap} {w' : Nat → Option Addr} (T : Txt K mg G) : Txt K mg ((G.at b).owning w') := ⟨T.hK, T.z_bool, T.z_int, T.z_isinstance, T.z_len, T.z_range, T.n_LayerError, T.n_NoAnswer, T.b_ValueError, T.x_LayerError, ⟨T.i_NoAnswer.ok⟩, ⟨T.i_ValueError.ok⟩, ⟨T.r_NoAnswer.ex⟩, T.hf, T.l_next_answer, T.m_next_answer⟩
abbrev s_w_digits : Stmt := top 7
abbrev n_w_digits : List Str := ["_law_cell", "_law_salt", "_law_many", "_law_draws", "_law_rest", "_law_k", "_law_mixed"]
theorem sc_w_digits : FnScope n_w_digits ["_law_cell", "_law_salt", "_law_many"] (defScope s_w_digits) := ⟨rfl, rfl, rfl, by decide +kernel, rfl, by decide +kernel, by decide +kernel⟩
abbrev s_w_cell_at : Stmt := top 6
abbrev n_w_cell_at : List Str := ["_law_script", "_law_k"]
theorem sc_w_cell_at : FnScope n_w_cell_at ["_law_script", "_law_k"] (defScope s_w_cell_at) := ⟨rfl, rfl, rfl, by decide +kernel, rfl, by decide +kernel, by decide +kernel⟩
abbrev s_w_spelled : Stmt := top 8
abbrev n_w_spelled : List Str := ["_law_draw", "_law_many", "_law_letters", "_law_first", "_law_place", "_law_more", "_law_signs", "_law_rests", "_law_k"]
theorem sc_w_spelled : FnScope n_w_spelled ["_law_draw", "_law_many"] (defScope s_w_spelled) := ⟨rfl, rfl, rfl, by decide +kernel, rfl, by decide +kernel, by decide +kernel⟩
abbrev n_give_answers : List Str := ["answers", "used", "next_answer"]
theorem sc_give_answers : FnScope n_give_answers ["answers"] (defScope s_give_answers) := ⟨rfl, rfl, rfl, by decide +kernel, rfl, by decide +kernel, by decide +kernel⟩
abbrev s_w_asker : Stmt := top 9
abbrev n_w_asker : List Str := ["_law_answers"]
theorem sc_w_asker : FnScope n_w_asker ["_law_answers"] (defScope s_w_asker) := ⟨rfl, rfl, rfl, by decide +kernel, rfl, by decide +kernel, by decide +kernel⟩
abbrev s_w_reply : Stmt := top 10
abbrev n_w_reply : List Str := ["_law_asker_here", "_law_way", "_law_word", "e"]
theorem sc_w_reply : FnScope n_w_reply ["_law_asker_here", "_law_way", "_law_word"] (defScope s_w_reply) := ⟨rfl, rfl, rfl, by decide +kernel, rfl, by decide +kernel, by decide +kernel⟩
abbrev s_law : Stmt := top 11
abbrev n_law : List Str := ["_law_script", "_law_draws", "_law_words", "_law_lists", "_law_k", "_law_askers", "_law_draw", "_law_many", "_law_side", "_law_asker_here", "_law_told"]
theorem sc_law : FnScope n_law ["_law_script"] (defScope s_law) := ⟨rfl, rfl, rfl, by decide +kernel, rfl, by decide +kernel, by decide +kernel⟩
section
variable {Pg : Program} {w : World} {K : PySem.W.Frag} {mg : Str → Option Value} {base : Heap} {G : G3}
theorem ok_w_digits (hw : w = G.w) (T : Txt K mg G) {f : Addr} {fd : FuncData} (F : Fun K "_law_digits" "_law_digits" s_w_digits f fd) :
    FnOk Pg w K mg base (L2.CX Pg w) 1 f fd ["_law_cell", "_law_salt", "_law_many"] (spM G 3 mf_w_digits) :=
  fn_ok (k := 0) (N := n_w_digits) (mb := mb_w_digits) T.hK hw F sc_w_digits fun cdv A outer s H E hr =>
  (mss_cons (ms_own 3 sc_w_digits.nd (mf_lst ma_nil))
  (mss_cons (ms_set 4 sc_w_digits.nd (me_bin om_sub (me_var 0) (me_bin om_pow me_int me_int)))
  (mss_cons (ms_for (passes_of rfl) rfl (mi_range1 rfl T.z_range (ma_cons (me_var 2) ma_nil)) (mg_name 5 sc_w_digits.nd) (mss_one (ms_if (mt_cmp om_ge (me_var 0) (me_bin om_pow me_int me_int) (nomark _)) (mss_cons (ms_app 3 (me_bin om_mod (me_callTy cm_int rfl T.z_int (by decide +kernel) (ma_cons (me_var 4) ma_nil)) me_int))
  (mss_one (ms_set 4 sc_w_digits.nd (me_bin om_div (me_var 4) me_int)))) (mss_cons (ms_set 6 sc_w_digits.nd (me_bin om_mod (me_callTy cm_int rfl T.z_int (by decide +kernel) (ma_cons (me_bin om_add (me_bin om_add (me_bin om_mul (me_var 0) me_int) (me_bin om_mul (me_bin om_add (me_var 1) (me_var 5)) me_int)) me_int) ma_nil)) me_int))
  (mss_one (ms_app 3 (me_bin om_mod (me_bin om_mod (me_callTy cm_int rfl T.z_int (by decide +kernel) (ma_cons (me_bin om_add (me_bin om_add (me_bin om_mul (me_var 6) (me_var 6)) (me_bin om_mul me_int (me_var 1))) (me_var 5)) ma_nil)) me_int) me_int)))))))
  (mss_one (ms_retO 3)))))
theorem ok_w_cell_at (hw : w = G.w) (T : Txt K mg G) {f : Addr} {fd : FuncData} (F : Fun K "_law_cell_at" "_law_cell_at" s_w_cell_at f fd) :
    FnOk Pg w K mg base (L2.CX Pg w) 1 f fd ["_law_script", "_law_k"] (spM G 2 mf_w_cell_at) :=
  fn_ok (k := 0) (N := n_w_cell_at) (mb := mb_w_cell_at) T.hK hw F sc_w_cell_at fun cdv A outer s H E hr =>
  (mss_cons (ms_if (mt_cmp om_lt (me_var 1) (me_callB cm_len rfl T.z_len PySem.boot_len (ma_cons (me_var 0) ma_nil)) (nomark _)) (mss_one (ms_ret (me_ix (me_var 0) (me_var 1)))) mss_nil)
  (mss_cons (ms_if (mt_cmp om_gt (me_callB cm_len rfl T.z_len PySem.boot_len (ma_cons (me_var 0) ma_nil)) me_int (nomark _)) (mss_one (ms_ret (me_bin om_add (me_bin om_mod (me_callTy cm_int rfl T.z_int (by decide +kernel) (ma_cons (me_ix (me_var 0) (me_bin om_mod (me_var 1) (me_callB cm_len rfl T.z_len PySem.boot_len (ma_cons (me_var 0) ma_nil)))) ma_nil)) me_int) (me_bin om_mul me_int (me_var 1))))) mss_nil)
  (mss_one (ms_ret (me_var 1)))))
theorem ok_w_spelled (hw : w = G.w) (T : Txt K mg G) {f : Addr} {fd : FuncData} (F : Fun K "_law_spelled" "_law_spelled" s_w_spelled f fd) :
    FnOk Pg w K mg base (L2.CX Pg w) 1 f fd ["_law_draw", "_law_many"] (spM G 2 mf_w_spelled) :=
  fn_ok (k := 0) (N := n_w_spelled) (mb := mb_w_spelled) T.hK hw F sc_w_spelled fun cdv A outer s H E hr =>
  (mss_cons (ms_set 2 sc_w_spelled.nd me_str)
  (mss_cons (ms_set 3 sc_w_spelled.nd (me_bin om_mul (me_ix (me_var 2) (me_bin om_mod (me_bin om_div (me_callTy cm_int rfl T.z_int (by decide +kernel) (ma_cons (me_var 0) ma_nil)) me_int) me_int)) (me_bin om_mod (me_callTy cm_int rfl T.z_int (by decide +kernel) (ma_cons (me_var 0) ma_nil)) me_int)))
  (mss_cons (ms_set 4 sc_w_spelled.nd (me_bin om_mod (me_bin om_div (me_callTy cm_int rfl T.z_int (by decide +kernel) (ma_cons (me_var 0) ma_nil)) me_int) me_int))
  (mss_cons (ms_set 5 sc_w_spelled.nd (me_bin om_mod (me_bin om_div (me_callTy cm_int rfl T.z_int (by decide +kernel) (ma_cons (me_var 0) ma_nil)) me_int) me_int))
  (mss_cons (ms_set 6 sc_w_spelled.nd (me_f (mf_lc (own := [("_law_k", 8)]) rfl sc_w_spelled.nd (mi_range1 rfl T.z_range (ma_cons (me_var 1) ma_nil)) (blkOk_by (N := n_w_spelled) (sc := defScope s_w_spelled) (by decide +kernel)) (fun _ _ _ _ _ => (mg_name 8 sc_w_spelled.nd)) (fun _ _ _ _ _ => mifs_nil) (fun _ _ _ _ _ => (me_ix (me_var 2) (me_bin om_mod (me_callTy cm_int rfl T.z_int (by decide +kernel) (ma_cons (me_bin om_add (me_var 0) (me_bin om_mul me_int (me_var 8))) ma_nil)) me_int))))))
  (mss_cons (ms_set 7 sc_w_spelled.nd (me_f (mf_lc (own := [("_law_k", 8)]) rfl sc_w_spelled.nd (mi_range1 rfl T.z_range (ma_cons (me_var 1) ma_nil)) (blkOk_by (N := n_w_spelled) (sc := defScope s_w_spelled) (by decide +kernel)) (fun _ _ _ _ _ => (mg_name 8 sc_w_spelled.nd)) (fun _ _ _ _ _ => mifs_nil) (fun _ _ _ _ _ => (me_bin om_add (me_sl (me_var 3) (mp_some (me_var 4)) mp_none) (me_sl (me_var 3) mp_none (mp_some (me_bin om_mul (me_var 8) (me_var 5)))))))))
  (mss_one (ms_ret (me_f (mf_lc (own := [("_law_k", 8)]) rfl sc_w_spelled.nd (mi_range1 rfl T.z_range (ma_cons (me_var 1) ma_nil)) (blkOk_by (N := n_w_spelled) (sc := defScope s_w_spelled) (by decide +kernel)) (fun _ _ _ _ _ => (mg_name 8 sc_w_spelled.nd)) (fun _ _ _ _ _ => mifs_nil) (fun _ _ _ _ _ => (me_sl (me_bin om_add (me_bin om_add (me_sl (me_var 3) mp_none (mp_some (me_var 4))) (me_ix (me_var 6) (me_var 8))) (me_ix (me_var 7) (me_var 8))) mp_none (mp_some me_int)))))))))))))
theorem lz_next_answer : ∀ y ∈ (defScope (stB 1 s_give_answers)).names, y.2 = .free → (defScope s_give_answers).names.lookup y.1 = some .cell ∨ (defScope s_give_answers).names.lookup y.1 = some .free := by decide +kernel
theorem sl_next_answer : NdefX.NScope ["way", "word", "used", "answers"] ["way", "word"] ["used", "answers"] (defScope (stB 1 s_give_answers)) := NdefX.nscope_by (by decide +kernel)
theorem ok_next_answer (hw : w = G.w) (T : Txt K mg G) : ∀ F, G.nf "next_answer" F → VOk Pg w K mg base (L2.CX Pg w) 1 F (spV (G.at base) F 2 lf_next_answer) := fun F hF => by
  obtain ⟨c', cl, hfr, rfl⟩ := T.m_next_answer F hF
  obtain ⟨cu, ca, rfl⟩ := cl_two hfr
  have T := T.ats (b := base)
  refine cap_ok (k := 0) (G := G.at base) (N := ["way", "word", "used", "answers"]) (ps := ["way", "word"]) (mb := lb_next_answer) (me := le_next_answer) (F := (⟨"next_answer", ((("give_answers" : Str) ++ (".<locals>." : Str)) : Str) ++ ("next_answer" : Str), defArgs (stB 1 s_give_answers), defBody (stB 1 s_give_answers), defScope (stB 1 s_give_answers), [("used", cu), ("answers", ca)], c'⟩ : NdefX.NF)) T.hK hw rfl sl_next_answer (fun doc pm ctv us hl => match us, hl with | [_, _], _ => rfl) fun f A outer s H E vu va hvu hva h0 nf hr => ?_
  have tk := takesG (P := Pg) (w := w) (K := K) (mg := mg) (base := base) (N := ["way", "word", "used", "answers"]) (ps := ["way", "word"]) (F := (⟨"next_answer", ((("give_answers" : Str) ++ (".<locals>." : Str)) : Str) ++ ("next_answer" : Str), defArgs (stB 1 s_give_answers), defBody (stB 1 s_give_answers), defScope (stB 1 s_give_answers), [("used", cu), ("answers", ca)], c'⟩ : NdefX.NF)) (f := f) (A := A) (E := E) rfl (by decide) sl_next_answer hvu hva h0 nf
  have h0c : ∀ c, ([("used", cu), ("answers", ca)] : List (Str × Addr)).lookup ("used" : Str) = some c → ∃ v, H c = some (CellO c v) := fun c e => by rw [List.lookup_cons_self] at e; cases e; exact ⟨_, hvu⟩
  exact (mr_cons ms_nonlocal
  (mr_cons (ms_if (mt_cmp (om_eq hr.units) (me_var 2) (me_callB cm_len rfl T.z_len PySem.boot_len (ma_cons (me_var 3) ma_nil)) (nomark _)) (mss_one (ms_raise T.r_NoAnswer rfl tk rfl)) mss_nil)
  (mr_cons (ms_augF 2 sl_next_answer.nd im_add me_int (by with_unfolding_all rfl) h0c)
  (mr_ret (me_ix (me_var 3) (me_bin om_sub (me_var 2) me_int))))))
theorem ok_give_answers (hw : w = G.w) (T : Txt K mg G) {f c PT : Addr} {fd : FuncData} (F : Fun K "give_answers" "give_answers" s_give_answers f fd) (hc : fd.code = .ref c) (OT : OwnT G mg base c PT (((("give_answers" : Str) ++ (".<locals>." : Str)) : Str) ++ ("next_answer" : Str))) :
    FnR Pg w K mg base (L2.CX Pg w) 1 f (spR (G.at base) mf_give_answers) :=
  fn_okH (k := 0) (N := n_give_answers) (pv := "answers") (yu := "used") (ya := "answers") (iu := 1) (ia := 0) (mb := mb_give_answers) (me := me_give_answers) (G := G) T.hK hw F hc sc_give_answers rfl rfl (by decide +kernel) (by decide +kernel) (by decide) (by obtain ⟨_, _, _, _, _, _, _, _, _, rfl, _, _⟩ := F.ex; exact fun rest => match rest with | [] => rfl | _ :: _ => rfl) fun A outer s H E hr => by
  have T := T.ow (b := base) (w' := ownOf n_give_answers (defScope s_give_answers) (PyProof.Rows.envOfC "give_answers" (defScope s_give_answers) s.heap.objs.size f (.ref c)).cells)
  exact (mr_cons (ms_set 1 sc_give_answers.nd me_int)
  (mr_cons (ms_ndef (fr := ["used", "answers"]) (js := [1, 0]) 2 ⟨rfl, fun _ => rfl, rfl⟩ OT.tb rfl OT.m OT.u rfl T.l_next_answer lz_next_answer sc_give_answers.nd)
  (mr_ret (me_var 2))))
theorem ok_w_asker (hw : w = G.w) (T : Txt K mg G) (C_give_answers : CalR Pg w K mg base G 1 "give_answers" mf_give_answers) {f : Addr} {fd : FuncData} (F : Fun K "_law_asker" "_law_asker" s_w_asker f fd) :
    FnOk Pg w K mg base (L2.CX Pg w) 2 f fd ["_law_answers"] (spM G 1 mf_w_asker) :=
  fn_ok (k := 1) (N := n_w_asker) (mb := mb_w_asker) T.hK hw F sc_w_asker fun cdv A outer s H E hr =>
  (mss_cons (ms_if (mt_cmp (om_eq hr.units) (me_lenS (me_var 0) rfl T.z_len PySem.boot_len) me_int (nomark _)) (mss_one (ms_ret (me_callR0 C_give_answers hr (by decide) (takes_of rfl rfl rfl rfl) rfl))) mss_nil)
  (mss_cons (ms_if (mt_cmp (om_eq hr.units) (me_lenS (me_var 0) rfl T.z_len PySem.boot_len) me_int (nomark _)) (mss_one (ms_ret (me_callRp C_give_answers hr (by decide) (takes_of rfl rfl rfl rfl) rfl (ma_cons (me_ixS 0 (me_var 0) me_int) ma_nil)))) mss_nil)
  (mss_cons (ms_if (mt_cmp (om_eq hr.units) (me_lenS (me_var 0) rfl T.z_len PySem.boot_len) me_int (nomark _)) (mss_one (ms_ret (me_callRp C_give_answers hr (by decide) (takes_of rfl rfl rfl rfl) rfl (ma_cons (me_ixS 0 (me_var 0) me_int) (ma_cons (me_ixS 1 (me_var 0) me_int) ma_nil))))) mss_nil)
  (mss_cons (ms_if (mt_cmp (om_eq hr.units) (me_lenS (me_var 0) rfl T.z_len PySem.boot_len) me_int (nomark _)) (mss_one (ms_ret (me_callRp C_give_answers hr (by decide) (takes_of rfl rfl rfl rfl) rfl (ma_cons (me_ixS 0 (me_var 0) me_int) (ma_cons (me_ixS 1 (me_var 0) me_int) (ma_cons (me_ixS 2 (me_var 0) me_int) ma_nil)))))) mss_nil)
  (mss_one (ms_ret (me_callRp C_give_answers hr (by decide) (takes_of rfl rfl rfl rfl) rfl (ma_cons (me_ixS 0 (me_var 0) me_int) (ma_cons (me_ixS 1 (me_var 0) me_int) (ma_cons (me_ixS 2 (me_var 0) me_int) (ma_cons (me_ixS 3 (me_var 0) me_int) ma_nil)))))))))))
theorem ok_w_reply (hw : w = G.w) (T : Txt K mg G) (TB_ans : TabOk Pg w K mg base G 1 2 tab_ans) {f : Addr} {fd : FuncData} (F : Fun K "_law_reply" "_law_reply" s_w_reply f fd) :
    FnOk Pg w K mg base (L2.CX Pg w) 2 f fd ["_law_asker_here", "_law_way", "_law_word"] (spM G 3 mf_w_reply) :=
  fn_ok (k := 1) (N := n_w_reply) (mb := mb_w_reply) T.hK hw F sc_w_reply fun cdv A outer s H E hr =>
  (mss_one (ms_tryAs 3 rfl rfl rfl sc_w_reply.nd rfl ⟨rfl, by decide, .inl T.n_LayerError⟩ (takes_of rfl rfl rfl rfl) (subT_ok T.x_LayerError) (fun W pn xe tk o => (mss_one (ms_ret (me_callV TB_ans T.hf hr (by decide) tk 0 (ha := (ma_cons (me_var 1) (ma_cons (me_var 2) ma_nil))))))) (fun a oe cv dd pn c x hz hfd cr => (mss_cons (ms_if (mt_w (mw_and (mt_tru (me_isE 3 T.i_NoAnswer hz hfd cr (pe_glob rfl T.n_NoAnswer (vOf_rel G _)) (vOf_eq G _) rfl T.z_isinstance)) (mw_and1 (mt_tru (me_isE 3 T.i_ValueError hz hfd cr (by rw [T.b_ValueError.2.2]; exact pe_bltn (v := .ty "ValueError") rfl T.b_ValueError.1 (by decide +kernel) rfl (by decide) (by decide)) (vOf_eq G _) rfl T.z_isinstance))))) (mss_one (ms_ret me_str)) mss_nil)
  (mss_one (ms_ret me_str))))))
theorem ok_law (hw : w = G.w) (T : Txt K mg G) (C_w_digits : Cal Pg w K mg base G 1 "_law_digits" 3 mf_w_digits) (C_w_cell_at : Cal Pg w K mg base G 1 "_law_cell_at" 2 mf_w_cell_at) (C_w_spelled : Cal Pg w K mg base G 1 "_law_spelled" 2 mf_w_spelled) (C_w_asker : Cal Pg w K mg base G 2 "_law_asker" 1 mf_w_asker) (C_w_reply : Cal Pg w K mg base G 2 "_law_reply" 3 mf_w_reply) {f : Addr} {fd : FuncData} (F : Fun K "law" "law" s_law f fd) :
    FnOk Pg w K mg base (L2.CX Pg w) 3 f fd ["_law_script"] (spM G 1 mf_law) :=
  fn_ok (k := 2) (N := n_law) (mb := mb_law) T.hK hw F sc_law fun cdv A outer s H E hr =>
  (mss_cons (ms_set 1 sc_law.nd (me_call C_w_digits hr (by decide) (takes_of rfl rfl rfl rfl) rfl (ma_cons (me_call C_w_cell_at hr (by decide) (takes_of rfl rfl rfl rfl) rfl (ma_cons (me_var 0) (ma_cons me_int ma_nil))) (ma_cons me_int (ma_cons me_int ma_nil)))))
  (mss_cons (ms_set 2 sc_law.nd (me_call C_w_spelled hr (by decide) (takes_of rfl rfl rfl rfl) rfl (ma_cons (me_ix (me_var 1) me_int) (ma_cons me_int ma_nil))))
  (mss_cons (ms_own 3 sc_law.nd (mf_lst ma_nil))
  (mss_cons (ms_for (passes_of rfl) rfl (mi_range1 rfl T.z_range (ma_cons me_int ma_nil)) (mg_name 4 sc_law.nd) (mss_cons (ms_set 7 sc_law.nd (me_bin om_mod (me_callTy cm_int rfl T.z_int (by decide +kernel) (ma_cons (me_ix (me_var 1) (me_bin om_add me_int (me_var 4))) ma_nil)) me_int))
  (mss_one (ms_app 3 (me_newL (mf_lc (own := [("_law_draw", 6)]) rfl sc_law.nd (mi_seq (me_sl (me_var 1) (mp_some (me_bin om_add me_int (me_bin om_mul me_int (me_var 4)))) (mp_some (me_bin om_add (me_bin om_add me_int (me_bin om_mul me_int (me_var 4))) (me_var 7))))) (blkOk_by (N := n_law) (sc := defScope s_law) (by decide +kernel)) (fun _ _ _ _ _ => (mg_name 6 sc_law.nd)) (fun _ _ _ _ _ => mifs_nil) (fun _ _ _ _ _ => (me_bin om_mod (me_callTy cm_int rfl T.z_int (by decide +kernel) (ma_cons (me_var 6) ma_nil)) me_int))))))))
  (mss_cons (ms_set 5 sc_law.nd (me_f (mf_lst (ma_cons (me_call C_w_asker hr (by decide) (takes_of rfl rfl rfl rfl) rfl (ma_cons (me_ix (me_var 3) me_int) ma_nil)) (ma_cons (me_call C_w_asker hr (by decide) (takes_of rfl rfl rfl rfl) rfl (ma_cons (me_ix (me_var 3) me_int) ma_nil)) ma_nil)))))
  (mss_cons (ms_for (passes_of rfl) rfl (mi_seq (me_sl (me_var 1) (mp_some me_int) (mp_some me_int))) (mg_name 6 sc_law.nd) (mss_cons (ms_set 8 sc_law.nd (me_bin om_mod (me_callTy cm_int rfl T.z_int (by decide +kernel) (ma_cons (me_var 6) ma_nil)) me_int))
  (mss_cons (ms_set 9 sc_law.nd (me_ix (me_var 5) (me_var 8)))
  (mss_cons (ms_set 10 sc_law.nd (me_call C_w_reply hr (by decide) (takes_of rfl rfl rfl rfl) rfl (ma_cons (me_var 9) (ma_cons (me_ix (me_f (mf_lst (ma_cons me_str (ma_cons me_str ma_nil)))) (me_bin om_mod (me_bin om_div (me_callTy cm_int rfl T.z_int (by decide +kernel) (ma_cons (me_var 6) ma_nil)) me_int) me_int)) (ma_cons (me_ix (me_var 2) (me_bin om_mod (me_bin om_div (me_callTy cm_int rfl T.z_int (by decide +kernel) (ma_cons (me_var 6) ma_nil)) me_int) me_int)) ma_nil)))))
  (mss_one (ms_if (mt_cmp (om_eq hr.units) (me_lenS (me_ix (me_var 3) (me_var 8)) rfl T.z_len PySem.boot_len) me_int (nomark _)) (mss_one (ms_if (mt_cmp (om_ne hr.units) (me_var 10) me_str (nomark _)) (mss_one (ms_ret me_bl)) mss_nil)) (mss_one (ms_if (mt_w (mw_or (mt_tru (me_callB cm_isi2 rfl T.z_isinstance (by decide +kernel) (ma_cons (me_var 10) (ma_cons (me_ty rfl T.z_bool (by decide +kernel)) ma_nil)))) (mw_or1 (mt_cmp (om_ne hr.units) (me_var 10) (me_pop0S (me_ix (me_var 3) (me_var 8)) me_int) (nomark _))))) (mss_one (ms_ret me_bl)) mss_nil))))))))
  (mss_one (ms_ret me_bl))))))))
end
def nfG (c : String) (F : FV) : Prop := (c = "next_answer" ∧ ∃ (c' : Addr) (cl : List (Str × Addr)), cl.map (·.1) = (["used", "answers"] : List Str) ∧ F = (⟨fun p => NdefX.FnO p ⟨"next_answer", ((("give_answers" : Str) ++ (".<locals>." : Str)) : Str) ++ ("next_answer" : Str), defArgs (stB 1 s_give_answers), defBody (stB 1 s_give_answers), defScope (stB 1 s_give_answers), cl, c'⟩, c', ((("give_answers" : Str) ++ (".<locals>." : Str)) : Str) ++ ("next_answer" : Str), cl⟩ : FV))
theorem nf_hf : ∀ c F, nfG c F → FnL F := fun c F h => by
  unfold nfG at h
  rcases h with ⟨_, _, _, _, rfl⟩
  · exact .inr ⟨_, rfl⟩
theorem nf_l_next_answer : ∀ (c' : Addr) (cl : List (Str × Addr)), cl.map (·.1) = (["used", "answers"] : List Str) → nfG "next_answer" (⟨fun p => NdefX.FnO p ⟨"next_answer", ((("give_answers" : Str) ++ (".<locals>." : Str)) : Str) ++ ("next_answer" : Str), defArgs (stB 1 s_give_answers), defBody (stB 1 s_give_answers), defScope (stB 1 s_give_answers), cl, c'⟩, c', ((("give_answers" : Str) ++ (".<locals>." : Str)) : Str) ++ ("next_answer" : Str), cl⟩ : FV) := fun c' cl e => ⟨rfl, c', cl, e, rfl⟩
theorem nf_m_next_answer : ∀ F, nfG "next_answer" F → ∃ (c' : Addr) (cl : List (Str × Addr)), cl.map (·.1) = (["used", "answers"] : List Str) ∧ F = (⟨fun p => NdefX.FnO p ⟨"next_answer", ((("give_answers" : Str) ++ (".<locals>." : Str)) : Str) ++ ("next_answer" : Str), defArgs (stB 1 s_give_answers), defBody (stB 1 s_give_answers), defScope (stB 1 s_give_answers), cl, c'⟩, c', ((("give_answers" : Str) ++ (".<locals>." : Str)) : Str) ++ ("next_answer" : Str), cl⟩ : FV) := fun F h => by
  unfold nfG at h
  rcases h with ⟨q, r⟩
  · exact r
set_option maxHeartbeats 0 in
theorem all_mk {l : PySem.W.OpenLaw} {w : World} {K : PySem.W.Frag} {h : Heap} {mg : Str → Option Value} {fa f0 f1 f2 f3 f4 f5 f6 : Addr} (X : K.In h) (G0 : h.Ns mainGlobals mg) (hfa : mg "law" = some (.ref fa))
    {CL_LayerError : Addr}
    {CL_NoAnswer : Addr}
    {od0 an0 : Option Addr}
    {sl0 : Array (Option Value)}
    {oc0 kV0 dc0 pm0 cd0 ct0 : Value}
    {od1 an1 : Option Addr}
    {sl1 : Array (Option Value)}
    {oc1 kV1 dc1 pm1 cd1 ct1 : Value}
    {od2 an2 : Option Addr}
    {sl2 : Array (Option Value)}
    {oc2 kV2 dc2 pm2 cd2 ct2 : Value}
    {od3 an3 : Option Addr}
    {sl3 : Array (Option Value)}
    {oc3 kV3 dc3 pm3 cd3 ct3 : Value}
    {od4 an4 : Option Addr}
    {sl4 : Array (Option Value)}
    {oc4 kV4 dc4 pm4 cd4 ct4 : Value}
    {od5 an5 : Option Addr}
    {sl5 : Array (Option Value)}
    {oc5 kV5 dc5 pm5 cd5 ct5 : Value}
    {od6 an6 : Option Addr}
    {sl6 : Array (Option Value)}
    {oc6 kV6 dc6 pm6 cd6 ct6 : Value}
    (n_LayerError : PySem.W.nsIn K mainGlobals "LayerError" = some (some (.ref CL_LayerError)))
    (n_NoAnswer : PySem.W.nsIn K mainGlobals "NoAnswer" = some (some (.ref CL_NoAnswer)))
    (a0 : PySem.W.nsIn K mainGlobals "_law_digits" = some (some (.ref f0)))
    (l0 : K.lookup f0 = some ⟨oc0, od0, .func (PySem.W.fnOf "_law_digits" "_law_digits" (defArgs s_w_digits) (defBody s_w_digits) (defScope s_w_digits) .none kV0 dc0 pm0 an0 cd0 ct0), sl0⟩)
    (c0 : PySem.W.codeIn K cd0 "_law_digits" = true)
    (k0 : PySem.W.keepIn K (.ref f0) = true)
    (a1 : PySem.W.nsIn K mainGlobals "_law_cell_at" = some (some (.ref f1)))
    (l1 : K.lookup f1 = some ⟨oc1, od1, .func (PySem.W.fnOf "_law_cell_at" "_law_cell_at" (defArgs s_w_cell_at) (defBody s_w_cell_at) (defScope s_w_cell_at) .none kV1 dc1 pm1 an1 cd1 ct1), sl1⟩)
    (c1 : PySem.W.codeIn K cd1 "_law_cell_at" = true)
    (k1 : PySem.W.keepIn K (.ref f1) = true)
    (a2 : PySem.W.nsIn K mainGlobals "_law_spelled" = some (some (.ref f2)))
    (l2 : K.lookup f2 = some ⟨oc2, od2, .func (PySem.W.fnOf "_law_spelled" "_law_spelled" (defArgs s_w_spelled) (defBody s_w_spelled) (defScope s_w_spelled) .none kV2 dc2 pm2 an2 cd2 ct2), sl2⟩)
    (c2 : PySem.W.codeIn K cd2 "_law_spelled" = true)
    (k2 : PySem.W.keepIn K (.ref f2) = true)
    (a3 : PySem.W.nsIn K mainGlobals "give_answers" = some (some (.ref f3)))
    (l3 : K.lookup f3 = some ⟨oc3, od3, .func (PySem.W.fnOf "give_answers" "give_answers" (defArgs s_give_answers) (defBody s_give_answers) (defScope s_give_answers) .none kV3 dc3 pm3 an3 cd3 ct3), sl3⟩)
    (c3 : PySem.W.codeIn K cd3 "give_answers" = true)
    (k3 : PySem.W.keepIn K (.ref f3) = true)
    {cc3 cT3 : Addr}
    {co3 : Value}
    {cdo3 : Option Addr}
    {cv3 : Array Value}
    {cs3 : Array (Option Value)}
    (ce3 : cd3 = .ref cc3)
    (lc3 : K.lookup cc3 = some ⟨co3, cdo3, .fields cv3, cs3⟩)
    (vP3 : cv3[11]? = some (.ref cT3))
    (nt3 : K.lookup cT3 = none)
    (a4 : PySem.W.nsIn K mainGlobals "_law_asker" = some (some (.ref f4)))
    (l4 : K.lookup f4 = some ⟨oc4, od4, .func (PySem.W.fnOf "_law_asker" "_law_asker" (defArgs s_w_asker) (defBody s_w_asker) (defScope s_w_asker) .none kV4 dc4 pm4 an4 cd4 ct4), sl4⟩)
    (c4 : PySem.W.codeIn K cd4 "_law_asker" = true)
    (k4 : PySem.W.keepIn K (.ref f4) = true)
    (a5 : PySem.W.nsIn K mainGlobals "_law_reply" = some (some (.ref f5)))
    (l5 : K.lookup f5 = some ⟨oc5, od5, .func (PySem.W.fnOf "_law_reply" "_law_reply" (defArgs s_w_reply) (defBody s_w_reply) (defScope s_w_reply) .none kV5 dc5 pm5 an5 cd5 ct5), sl5⟩)
    (c5 : PySem.W.codeIn K cd5 "_law_reply" = true)
    (k5 : PySem.W.keepIn K (.ref f5) = true)
    (a6 : PySem.W.nsIn K mainGlobals "law" = some (some (.ref f6)))
    (l6 : K.lookup f6 = some ⟨oc6, od6, .func (PySem.W.fnOf "law" "law" (defArgs s_law) (defBody s_law) (defScope s_law) .none kV6 dc6 pm6 an6 cd6 ct6), sl6⟩)
    (c6 : PySem.W.codeIn K cd6 "law" = true)
    (k6 : PySem.W.keepIn K (.ref f6) = true)
    (z_bool : PySem.W.nsIn K mainGlobals "bool" = some none)
    (z_int : PySem.W.nsIn K mainGlobals "int" = some none)
    (z_isinstance : PySem.W.nsIn K mainGlobals "isinstance" = some none)
    (z_len : PySem.W.nsIn K mainGlobals "len" = some none)
    (z_range : PySem.W.nsIn K mainGlobals "range" = some none)
    (zb_ValueError : PySem.W.nsIn K mainGlobals "ValueError" = some none)
    (xb_LayerError : PySem.W.subIn K (.ref CL_LayerError) (.type "BaseException") = some true)
    (xh_LayerError : PySem.W.hasDictIn K CL_LayerError = true)
    (xt_LayerError : PySem.W.typeIn K (.ref CL_LayerError) = some (.type "type"))
    (xb_NoAnswer : PySem.W.subIn K (.ref CL_NoAnswer) (.type "BaseException") = some true)
    (xh_NoAnswer : PySem.W.hasDictIn K CL_NoAnswer = true)
    (xt_NoAnswer : PySem.W.typeIn K (.ref CL_NoAnswer) = some (.type "type"))
    (su_NoAnswer_LayerError : PySem.W.subIn K (.ref CL_NoAnswer) (.ref CL_LayerError) = some true)
    (su_NoAnswer_ValueError : PySem.W.subIn K (.ref CL_NoAnswer) (.type "ValueError") = some true)
    (ea_NoAnswer : PySem.W.findIn K (.ref CL_NoAnswer) "__getattribute__" = some (some (.builtin "BaseException.__getattribute__")))
    (eb_NoAnswer : PySem.W.findIn K (.ref CL_NoAnswer) "__getattr__" = some none)
    (ec_NoAnswer : PySem.W.subIn K (.ref CL_NoAnswer) (.type "BaseException") = some true)
    (ed_NoAnswer : PySem.W.hasDictIn K CL_NoAnswer = true)
    (ee_NoAnswer : PySem.W.findIn K (.ref CL_NoAnswer) "__class__" = some (some (.builtin "object.__class__")))
    (ef_NoAnswer : PySem.W.mroIn K CL_NoAnswer (.type "object") = some true)
    (eg : PySem.W.specialIn K (.builtin "object.__class__") "__get__" = some (some (.builtin "getset_descriptor.__get__")))
    (eh : PySem.W.takesIn K (.builtin "object.__class__") = some true)
    (rx_NoAnswer : PySem.W.excIn K CL_NoAnswer [.type "ValueError", .type "Exception", .type "BaseException", .type "object"] "ValueError.__new__" = true)
    (rk_NoAnswer : PySem.W.keepIn K (.ref CL_NoAnswer) = true)
    (rs_NoAnswer : PySem.W.subIn K (.ref CL_NoAnswer) (.type "BaseException") = some true)
    (rt_NoAnswer : PySem.W.typeIn K (.ref CL_NoAnswer) = some (.type "type"))
    : ∃ (G : G3) (fd : FuncData) (cs : List (Addr × Addr)), G.K = K ∧ (∀ p ∈ cs, K.lookup p.2 = none ∧ ∃ y ∈ (["give_answers"] : List Str), PySem.W.tabIn K y = some p) ∧ (∀ p ∈ G.tabs, ∃ c, (c, p.1) ∈ cs) ∧ (∀ (s : Shared) (v : Value), BindsTo s fd ⟨[v], []⟩ [("_law_script", v)]) ∧ ∀ base : Heap, K.In base → base.Ns mainGlobals mg → (∀ p ∈ cs, LamX.TabB base mg p.1 p.2) → FnOk l.prog w K mg base (L2.CX l.prog w) 3 fa fd ["_law_script"] (spM (G.at base) 1 mf_law) := by
  have e := hfa.symm.trans (PySem.W.mg_of X G0 a6)
  cases e
  have T : Txt K mg ⟨K, w, fun c => List.lookup c [("LayerError", CL_LayerError), ("NoAnswer", CL_NoAnswer)], fun _ => none, nfG, [(cT3, (fun _ _ => ((("give_answers" : Str) ++ (".<locals>." : Str)) : Str) ++ ("next_answer" : Str)))], h, fun _ => none⟩ := ⟨rfl, PySem.W.mg_none_of X G0 z_bool, PySem.W.mg_none_of X G0 z_int, PySem.W.mg_none_of X G0 z_isinstance, PySem.W.mg_none_of X G0 z_len, PySem.W.mg_none_of X G0 z_range, PySem.W.mg_of X G0 n_LayerError, PySem.W.mg_of X G0 n_NoAnswer, ⟨PySem.W.mg_none_of X G0 zb_ValueError, rfl, rfl⟩, (cons_all (exm_ref' xb_LayerError xh_LayerError xt_LayerError su_NoAnswer_LayerError) nil_all), (isE_of (cons_all ⟨CL_NoAnswer, rfl, ⟨ea_NoAnswer, eb_NoAnswer, ec_NoAnswer, ed_NoAnswer, ee_NoAnswer, eg, eh, ef_NoAnswer⟩, kit_same⟩ nil_all)), (isE_of (cons_all ⟨CL_NoAnswer, rfl, ⟨ea_NoAnswer, eb_NoAnswer, ec_NoAnswer, ed_NoAnswer, ee_NoAnswer, eg, eh, ef_NoAnswer⟩, (kit_ty' (by decide +kernel) su_NoAnswer_ValueError)⟩ nil_all)), ⟨CL_NoAnswer, _, _, _, _, PySem.F.excBase_ValueError, rx_NoAnswer, PySem.W.mg_of X G0 n_NoAnswer, rk_NoAnswer, rs_NoAnswer, rt_NoAnswer, rfl, rfl⟩, nf_hf, nf_l_next_answer, nf_m_next_answer⟩
  revert T
  generalize hG : (⟨K, w, fun c => List.lookup c [("LayerError", CL_LayerError), ("NoAnswer", CL_NoAnswer)], fun _ => none, nfG, [(cT3, (fun _ _ => ((("give_answers" : Str) ++ (".<locals>." : Str)) : Str) ++ ("next_answer" : Str)))], h, fun _ => none⟩ : G3) = G
  intro T
  have Gt : G.tabs = [(cT3, (fun _ _ => ((("give_answers" : Str) ++ (".<locals>." : Str)) : Str) ++ ("next_answer" : Str)))] := by rw [← hG]
  have GK : G.K = K := by rw [← hG]
  have Gw : w = G.w := by rw [← hG]
  have G_LayerError : G.cls "LayerError" = some CL_LayerError := by rw [← hG]; rfl
  have G_NoAnswer : G.cls "NoAnswer" = some CL_NoAnswer := by rw [← hG]; rfl
  refine ⟨G, PySem.W.fnOf "law" "law" (defArgs s_law) (defBody s_law) (defScope s_law) .none kV6 dc6 pm6 an6 cd6 ct6, [(cc3, cT3)], GK, (cons_all ⟨nt3, "give_answers", by simp, tabIn_of a3 l3 ce3 lc3 vP3⟩ nil_all), by rw [Gt]; exact (cons_all ⟨cc3, by simp⟩ nil_all), fun s v => .of_eq rfl, fun base _ _ TBs => ?_⟩
  have OT3 : ∀ b, Over base b → OwnT G mg b cc3 cT3 _ := fun b ob => ⟨TabB.over (TBs (cc3, cT3) (by simp)) ob, by rw [Gt]; exact .head _, by rw [Gt]; exact (cons_all (fun _ => rfl) nil_all)⟩
  have F0 := fun_mk (st := s_w_digits) l0 c0 k0
  have O0 := fun (b : Heap) (ob : Over base b) => ok_w_digits (Pg := l.prog) (base := b) (G := G.at b) Gw T.ats  F0
  have B0 := F0.binds (ps := ["_law_cell", "_law_salt", "_law_many"]) fun _ _ _ _ _ _ us hl => match us, hl with | [_, _, _], _ => rfl
  have C_w_digits : ∀ b, Over base b → Cal l.prog w K mg b (G.at b) 1 "_law_digits" 3 mf_w_digits := fun b ob => ⟨_, _, _, PySem.W.mg_of X G0 a0, k0, B0, rfl, (O0 b ob)⟩
  have F1 := fun_mk (st := s_w_cell_at) l1 c1 k1
  have O1 := fun (b : Heap) (ob : Over base b) => ok_w_cell_at (Pg := l.prog) (base := b) (G := G.at b) Gw T.ats  F1
  have B1 := F1.binds (ps := ["_law_script", "_law_k"]) fun _ _ _ _ _ _ us hl => match us, hl with | [_, _], _ => rfl
  have C_w_cell_at : ∀ b, Over base b → Cal l.prog w K mg b (G.at b) 1 "_law_cell_at" 2 mf_w_cell_at := fun b ob => ⟨_, _, _, PySem.W.mg_of X G0 a1, k1, B1, rfl, (O1 b ob)⟩
  have F2 := fun_mk (st := s_w_spelled) l2 c2 k2
  have O2 := fun (b : Heap) (ob : Over base b) => ok_w_spelled (Pg := l.prog) (base := b) (G := G.at b) Gw T.ats  F2
  have B2 := F2.binds (ps := ["_law_draw", "_law_many"]) fun _ _ _ _ _ _ us hl => match us, hl with | [_, _], _ => rfl
  have C_w_spelled : ∀ b, Over base b → Cal l.prog w K mg b (G.at b) 1 "_law_spelled" 2 mf_w_spelled := fun b ob => ⟨_, _, _, PySem.W.mg_of X G0 a2, k2, B2, rfl, (O2 b ob)⟩
  have F3 := fun_mk (st := s_give_answers) l3 c3 k3
  have V_next_answer := fun (b : Heap) (ob : Over base b) => ok_next_answer (Pg := l.prog) (base := b) (G := G) Gw T 
  have O3 := fun (b : Heap) (ob : Over base b) => ok_give_answers (Pg := l.prog) (base := b) (G := G) Gw T  F3 ce3 (OT3 b ob)
  have C_give_answers : ∀ b, Over base b → CalR l.prog w K mg b (G.at b) 1 "give_answers" mf_give_answers := fun b ob => ⟨_, PySem.W.mg_of X G0 a3, k3, O3 b ob⟩
  have F4 := fun_mk (st := s_w_asker) l4 c4 k4
  have O4 := fun (b : Heap) (ob : Over base b) => ok_w_asker (Pg := l.prog) (base := b) (G := G.at b) Gw T.ats (C_give_answers b ob) F4
  have B4 := F4.binds (ps := ["_law_answers"]) fun _ _ _ _ _ _ us hl => match us, hl with | [_], _ => rfl
  have C_w_asker : ∀ b, Over base b → Cal l.prog w K mg b (G.at b) 2 "_law_asker" 1 mf_w_asker := fun b ob => ⟨_, _, _, PySem.W.mg_of X G0 a4, k4, B4, rfl, (O4 b ob)⟩
  have F5 := fun_mk (st := s_w_reply) l5 c5 k5
  have TB_ans : ∀ b, Over base b → TabOk l.prog w K mg b (G.at b) 1 2 tab_ans := fun b ob c mf hm => (show ∀ q ∈ tab_ans, ∀ F, G.nf q.1 F → VOk l.prog w K mg b (L2.CX l.prog w) 1 F (spV (G.at b) F 2 q.2) from (cons_all (fun F hF => (V_next_answer b ob F hF).mono (by decide)) nil_all)) (c, mf) hm
  have O5 := fun (b : Heap) (ob : Over base b) => ok_w_reply (Pg := l.prog) (base := b) (G := G.at b) Gw T.ats (TB_ans b ob) F5
  have B5 := F5.binds (ps := ["_law_asker_here", "_law_way", "_law_word"]) fun _ _ _ _ _ _ us hl => match us, hl with | [_, _, _], _ => rfl
  have C_w_reply : ∀ b, Over base b → Cal l.prog w K mg b (G.at b) 2 "_law_reply" 3 mf_w_reply := fun b ob => ⟨_, _, _, PySem.W.mg_of X G0 a5, k5, B5, rfl, (O5 b ob)⟩
  have F6 := fun_mk (st := s_law) l6 c6 k6
  exact ok_law (base := base) (G := G.at base) Gw T.ats (C_w_digits base (Over.refl _)) (C_w_cell_at base (Over.refl _)) (C_w_spelled base (Over.refl _)) (C_w_asker base (Over.refl _)) (C_w_reply base (Over.refl _)) F6 
end My

open PySem PySem.W PyProof.Rows in
set_option maxRecDepth 100000 in
set_option maxHeartbeats 0 in
theorem PySem.Challenge.cw_switchedlayers_k09_answers_one_by_one_holds : PySem.Challenge.rw_switchedlayers_k09_answers_one_by_one.Holds := by
  w_on; o_law; k_head; (case hw => w_witness2)
  k_fill
  refine M3.walk3T (l := PySem.Challenge.rw_switchedlayers_k09_answers_one_by_one) (n := 63) (k := 3) (x := "_law_script") (m := My.mf_law) ["give_answers"] rfl (by decide) rfl ⟨rfl, by decide, by decide⟩ (fun w h Y => PySem.W.km_in_of Y) (by decide +kernel) ?F My.law_true
  case F =>
    intro w mg fa h KX G hmg
    refine' My.all_mk KX G hmg ?n_LayerError ?n_NoAnswer ?a0 ?l0 ?c0 ?k0 ?a1 ?l1 ?c1 ?k1 ?a2 ?l2 ?c2 ?k2 ?a3 ?l3 ?c3 ?k3 ?ce3 ?lc3 ?vP3 ?nt3 ?a4 ?l4 ?c4 ?k4 ?a5 ?l5 ?c5 ?k5 ?a6 ?l6 ?c6 ?k6 ?z_bool ?z_int ?z_isinstance ?z_len ?z_range ?zb_ValueError ?xb_LayerError ?xh_LayerError ?xt_LayerError ?xb_NoAnswer ?xh_NoAnswer ?xt_NoAnswer ?su_NoAnswer_LayerError ?su_NoAnswer_ValueError ?ea_NoAnswer ?eb_NoAnswer ?ec_NoAnswer ?ed_NoAnswer ?ee_NoAnswer ?ef_NoAnswer ?eg ?eh ?rx_NoAnswer ?rk_NoAnswer ?rs_NoAnswer ?rt_NoAnswer
    (case n_LayerError => k_is)
    (case n_NoAnswer => k_is)
    (case a0 => k_is)
    (case l0 => k_is)
    (case c0 => k_is)
    (case k0 => k_is)
    (case a1 => k_is)
    (case l1 => k_is)
    (case c1 => k_is)
    (case k1 => k_is)
    (case a2 => k_is)
    (case l2 => k_is)
    (case c2 => k_is)
    (case k2 => k_is)
    (case a3 => k_is)
    (case l3 => k_is)
    (case c3 => k_is)
    (case k3 => k_is)
    (case ce3 => rfl)
    (case lc3 => k_is)
    (case vP3 => rfl)
    (case nt3 => kernel_rfl)
    (case a4 => k_is)
    (case l4 => k_is)
    (case c4 => k_is)
    (case k4 => k_is)
    (case a5 => k_is)
    (case l5 => k_is)
    (case c5 => k_is)
    (case k5 => k_is)
    (case a6 => k_is)
    (case l6 => k_is)
    (case c6 => k_is)
    (case k6 => k_is)
    (case z_bool => k_is)
    (case z_int => k_is)
    (case z_isinstance => k_is)
    (case z_len => k_is)
    (case z_range => k_is)
    (case zb_ValueError => k_is)
    (case xb_LayerError => k_is)
    (case xh_LayerError => k_is)
    (case xt_LayerError => k_is)
    (case xb_NoAnswer => k_is)
    (case xh_NoAnswer => k_is)
    (case xt_NoAnswer => k_is)
    (case su_NoAnswer_LayerError => k_is)
    (case su_NoAnswer_ValueError => k_is)
    (case ea_NoAnswer => k_is)
    (case eb_NoAnswer => k_is)
    (case ec_NoAnswer => k_is)
    (case ed_NoAnswer => k_is)
    (case ee_NoAnswer => k_is)
    (case ef_NoAnswer => k_is)
    (case eg => k_is)
    (case eh => k_is)
    (case rx_NoAnswer => k_exc)
    (case rk_NoAnswer => k_is)
    (case rs_NoAnswer => k_is)
    (case rt_NoAnswer => k_is)

