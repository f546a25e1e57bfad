import PyProof.Rows.All
import Wide.All
import OpenK.AllK
import Wide.FinOn
import HandS.ForMost
import HandS.TupAny
import HandS.List
import HandS.Exc
import HandS.ExcOwn
import HandS.Wide
import HandS.Flow
import HandS.Conv
import HandS.Deep
import HandS.IsInst
import HandS.CallSlots
import HandS.Iter
import HandS.WordsExc
import HandS.Text
import HandS.Dict
import HandS.Small
import KE.DataFind
import HandS.ClsMeth
import HandS.Ends
import PySem.Challenge.RW_switchedlayers_k03_names
set_option Elab.async false
set_option linter.all false
set_option maxRecDepth 100000

/-! tuples that are made here, with what is known of their object: it has no dict -/
namespace M3
open PySem PySem.Spec PyProof.Rows L2
/-- what stands at a new tuple -/
def NewT (xs : List V) (H : Hp) (Q : VK) : Prop := ∀ (p : Addr) (o : Obj), H p = none → o.dict = none → Q (.ref p) (upd H p (.frz o (.tup xs)))
section
variable {X : Cx} {pos : Pos} {es : List Expr} {t : TA}
theorem laidT {pins : List (Addr × Obj)} {σ : L2.St} {H : Hp} {s : Shared} {h' : Heap} {k : Nat} {Q : VK} {xs : List V} {us : List Value} {n : Nat} (I : Inv X pins σ H { s with heap := h' }) (r : Vals xs us) (z : xs.length ≤ sizeLine) (q : NewT xs H Q) :
    EP X pins σ Q (.ref h'.objs.size) { s with heap := h'.push { cls := .type "tuple", data := .seq us.toArray n }, toks := k } := by
  have hf : H h'.objs.size = none := I.hok.fresh (Nat.le_refl _)
  refine ⟨.ref h'.objs.size, _, I.laid (t' := k) (o := .frz { cls := .type "tuple", data := .seq us.toArray n } (.tup xs)) (fun b u e => Heap.get?_push_of_some _ e) (Nat.le_refl _) ?_, rfl, q _ _ hf rfl⟩
  exact ⟨Heap.get?_push_size _ rfl, z, us, r, ⟨_, Heap.get?_push_size _ rfl, rfl, _, rfl⟩⟩
theorem pe_tupZ {x1} (h : PA X es t) : PE X (.Tuple es x1 pos) (fun σ H Q => t σ H fun xs H1 => xs.length ≤ sizeLine ∧ NewT xs H1 Q) :=
  ⟨fun pins now σ H Q inv wish => wpAny_Tuple_spliced <| thn (h.run pos pins now σ H _ inv wish) fun _ later ⟨_, _, J, r, z, q⟩ => ⟨r.length ▸ z, laidT (s := later) J r z q⟩⟩
def rCatZ (K : PySem.W.Frag) : R2 := fun x y H Q => ∃ a b xs ys, x = .ref a ∧ y = .ref b ∧ SqT K H a xs ∧ SqT K H b ys ∧ xs.length + ys.length ≤ sizeLine ∧
  (xs = [] → Q (.ref b) H) ∧ (xs ≠ [] → ys = [] → Q (.ref a) H) ∧ (xs ≠ [] → ys ≠ [] → NewT (xs ++ ys) H Q)
theorem op_catZ : OpR X (binaryOp .Add) (rCatZ X.K) := by
  rintro pins now σ H _ _ v u Q inv rx ry ⟨a, b, xs, ys, rfl, rfl, ta, tb, z, left, keep, new⟩
  obtain rfl : v = .ref a := rx
  obtain rfl : u = .ref b := ry
  obtain ⟨as, va, pa, -⟩ := inv.tuple ta
  obtain ⟨bs, vb, pb, -⟩ := inv.tuple tb
  rcases eq_or_ne xs [] with e | e
  · subst e
    cases va
    exact cat_tup0 pa pb ⟨V.ref b, H, inv, rfl, left rfl⟩
  · have room : as.length + bs.length ≤ sizeLine := va.length ▸ vb.length ▸ z
    exact HT.cat_tup pa pb (mt va.nil_iff.mp e) (fun q => ⟨V.ref a, H, inv, rfl, keep e (vb.nil_iff.mp q)⟩) (fun q => laidT (s := now) inv (va.append vb) (by simpa using z) (new e (mt vb.nil_iff.mpr q))) room
where
  eq_or_ne (l m : List V) : l = m ∨ l ≠ m := Classical.em _
def rSlZ (K : PySem.W.Frag) : V → Option Int → Option Int → Hp → VK → Prop := fun x lo hi H Q => ∃ a xs, x = .ref a ∧ SqT K H a xs ∧
  (HT.sIx xs.length 0 lo = 0 ∧ HT.sIx xs.length xs.length hi = xs.length → Q (.ref a) H) ∧ (¬ (HT.sIx xs.length 0 lo = 0 ∧ HT.sIx xs.length xs.length hi = xs.length) → NewT (cutV xs lo hi) H Q)
theorem sl_tupZ : SlR X (rSlZ X.K) := by
  rintro pins now σ H _ v vl vu lo hi sl Q inv rx cut plo phi ⟨a, xs, rfl, at_, whole, part⟩
  obtain rfl : v = .ref a := rx
  obtain ⟨its, vals, tup, z⟩ := inv.tuple at_
  have same : its.toArray.size = xs.length := (List.size_toArray ..).trans vals.length.symm
  refine ⟨"tuple", _, PyProof.Rows.slot_tuple_getitem.lookup, tup.typeIs, ?_⟩
  rcases Classical.em (HT.sIx xs.length 0 lo = 0 ∧ HT.sIx xs.length xs.length hi = xs.length) with all | less
  · exact getItem_tuple_whole tup cut plo phi (same.symm ▸ all) ⟨V.ref a, H, inv, rfl, whole all⟩
  · refine HT.getItem_tuple_cut tup cut plo phi (same.symm ▸ less) ?_ (same.symm ▸ z)
    rw [same]
    exact laidT (s := now) inv ((vals.drop _).take _) (Nat.le_trans (cutV_length ..) z) (part less)
theorem call_tupleZ : CallR X (.type "tuple") (fun xs H Q => ∃ p ys, xs = [.ref p] ∧ ((SqL X.K H p ys ∧ NewT ys H Q) ∨ (SqT X.K H p ys ∧ Q (.ref p) H))) := by
  rintro pins now σ H _ us Q inv vals ⟨p, ys, rfl, h⟩
  obtain rfl := Vals.ref1 vals
  cases h with
  | inl h =>
    obtain ⟨its, w, lst, z⟩ := inv.list h.1
    have len := w.length
    have room := line63
    exact call_tuple_list lst.isList (fun later kept => laidT (s := now) (inv.kept (t' := now.toks) kept) w z h.2) (by simp only [List.size_toArray]; omega)
  | inr h =>
    obtain ⟨its, w, tup, z⟩ := inv.tuple h.1
    exact call_tuple_same tup ⟨V.ref p, H, inv, rfl, h.2⟩
end
/-- a tuple that is known to have no dict -/
def FTup (F : Hp) (p : Addr) (vs : List V) : Prop := ∃ o, F p = some (.frz o (.tup vs)) ∧ o.dict = none
theorem FTup.sq {K : PySem.W.Frag} {F : Hp} {p : Addr} {vs : List V} (h : FTup F p vs) : SqT K F p vs := by obtain ⟨o, e, _⟩ := h; exact .inl (.inr ⟨o, e⟩)
theorem FTup.mono {F F' : Hp} {p : Addr} {vs : List V} (s : Same F F') (h : FTup F p vs) : FTup F' p vs := by obtain ⟨o, e, d⟩ := h; exact ⟨o, s _ _ e, d⟩
end M3


namespace M3
open PySem PySem.Spec PyProof.Rows L2

/-! data -/
inductive D where
  | non | bl (b : Bool) | int (i : Int) | str (x : Str) | ty (n : String)
  | tup (xs : List D) | ctup (xs : List D) | lst (xs : List D) | ro (xs : List D) | dict (ks : List Key) (vs : List D) | dicT (ks : List (List Key)) (vs : List D) | ref (k : Nat)

/-- what a slot or an expression holds: data; a list of one's own (it may grow); a caught exception -/
inductive W where
  | val (d : D) | bor (xs : List D) | bod (ks : List Key) (vs : List D) | boT (ks : List (List Key)) (vs : List D) | exn (c : String) (x : D)
/-- a thing of one's own -/
def W.own : W → Bool
  | .bor _ => true
  | .bod _ _ => true
  | .boT _ _ => true
  | _ => false

/-- objects that are shared -/
inductive MO where
  | lst (xs : List D) | dic (ks : List Key) (vs : List D) | diT (ks : List (List Key)) (vs : List D)
  | ins (c : String) (fs : List (Str × D))

abbrev Store := List MO

inductive Res (α : Type) where
  | ok (a : α) (st : Store)
  | err (c : String) (x : D) (st : Store)
  | bad

abbrev M (α : Type) := Store → Res α

def M.pure {α : Type} (a : α) : M α := fun st => .ok a st
def M.bind {α β : Type} (m : M α) (f : α → M β) : M β := fun st => match m st with
  | .ok a st' => f a st'
  | .err c x st' => .err c x st'
  | .bad => .bad
def M.bad {α : Type} : M α := fun _ => .bad
/-- what may not raise -/
def M.quiet {α : Type} (m : M α) : M α := fun st => match m st with
  | .ok a st' => .ok a st'
  | _ => .bad

def M.of {α : Type} : Option α → M α
  | some a => M.pure a
  | none => M.bad
/-- go on if c -/
def M.chk (c : Prop) [Decidable c] : M Unit := fun st => if c then .ok () st else .bad

abbrev Sl3 := List (Option W)

/-! what stands for what -/
mutual
inductive Rep (K : PySem.W.Frag) (F : Hp) (io : Nat → Option Addr) : D → V → Prop where
  | non : Rep K F io .non .non
  | bl {b} : Rep K F io (.bl b) (.bl b)
  | int {i} : Rep K F io (.int i) (.int i)
  | str {x} : Rep K F io (.str x) (.str x)
  | ty {n} : Rep K F io (.ty n) (.ty n)
  | tup {xs vs p} : FTup F p vs → RepL K F io xs vs → Rep K F io (.tup xs) (.ref p)
  | ctup {xs vs p} : SqT K F p vs → RepL K F io xs vs → Rep K F io (.ctup xs) (.ref p)
  | lst {xs vs p} : F p = some (.lst vs) → RepL K F io xs vs → Rep K F io (.lst xs) (.ref p)
  | ro {xs vs p} : SqL K F p vs → RepL K F io xs vs → Rep K F io (.ro xs) (.ref p)
  | dict {ks us p od} {kvs : List (Key × V)} : F p = some (.frz od (.dK kvs)) → kvs.map (·.1) = ks → RepL K F io us (kvs.map (·.2)) → Rep K F io (.dict ks us) (.ref p)
  | dicT {ks us p od} {kvs : List (List Key × V)} : F p = some (.frz od (.dT kvs)) → kvs.map (·.1) = ks → RepL K F io us (kvs.map (·.2)) → Rep K F io (.dicT ks us) (.ref p)
  | ref {k a} : io k = some a → Rep K F io (.ref k) (.ref a)
inductive RepL (K : PySem.W.Frag) (F : Hp) (io : Nat → Option Addr) : List D → List V → Prop where
  | nil : RepL K F io [] []
  | cons {x xs v vs} : Rep K F io x v → RepL K F io xs vs → RepL K F io (x :: xs) (v :: vs)
end

abbrev Io := Nat → Option Addr
def IoLe (io io' : Io) : Prop := ∀ k a, io k = some a → io' k = some a
theorem IoLe.refl (io : Io) : IoLe io io := fun _ _ h => h
theorem IoLe.trans {a b c : Io} (h : IoLe a b) (h' : IoLe b c) : IoLe a c := fun k x e => h' k x (h k x e)

theorem szL {n : Nat} (h : n ≤ 1000000) : n ≤ sizeLine := Nat.le_trans h (by rw [sizeLine_eq]; decide)
theorem szl {n : Nat} (h : n < 1000000) : n < sizeLine := Nat.lt_of_lt_of_le h (by rw [sizeLine_eq]; decide)
theorem same_sqT {K : PySem.W.Frag} {F F' : Hp} {p : Addr} {vs : List V} (h : Same F F') (s : SqT K F p vs) : SqT K F' p vs := by
  rcases s with (h1 | ⟨o, h1⟩) | h1
  · exact .inl (.inl (h _ _ h1))
  · exact .inl (.inr ⟨o, h _ _ h1⟩)
  · exact .inr h1
theorem same_sqL {K : PySem.W.Frag} {F F' : Hp} {p : Addr} {vs : List V} (h : Same F F') (s : SqL K F p vs) : SqL K F' p vs := h.seq s

section
variable {K : PySem.W.Frag} {F F' : Hp} {io io' : Io}
mutual
theorem Rep.mono (hF : Same F F') (hi : IoLe io io') : ∀ {d : D} {v : V}, Rep K F io d v → Rep K F' io' d v
  | _, _, .non => .non
  | _, _, .bl => .bl
  | _, _, .int => .int
  | _, _, .str => .str
  | _, _, .ty => .ty
  | _, _, .tup s r => .tup (FTup.mono hF s) (RepL.mono hF hi r)
  | _, _, .ctup s r => .ctup (same_sqT hF s) (RepL.mono hF hi r)
  | _, _, .dict s e r => .dict (hF _ _ s) e (RepL.mono hF hi r)
  | _, _, .dicT s e r => .dicT (hF _ _ s) e (RepL.mono hF hi r)
  | _, _, .lst s r => .lst (hF _ _ s) (RepL.mono hF hi r)
  | _, _, .ro s r => .ro (same_sqL hF s) (RepL.mono hF hi r)
  | _, _, .ref e => .ref (hi _ _ e)
theorem RepL.mono (hF : Same F F') (hi : IoLe io io') : ∀ {d : List D} {v : List V}, RepL K F io d v → RepL K F' io' d v
  | _, _, .nil => .nil
  | _, _, .cons r t => .cons (Rep.mono hF hi r) (RepL.mono hF hi t)
end
theorem RepL.length : ∀ {xs : List D} {vs : List V}, RepL K F io xs vs → xs.length = vs.length
  | _, _, .nil => rfl
  | _, _, .cons _ t => congrArg Nat.succ (RepL.length t)
theorem RepL.append : ∀ {xs ys : List D} {vs us : List V}, RepL K F io xs vs → RepL K F io ys us → RepL K F io (xs ++ ys) (vs ++ us)
  | _, _, _, _, .nil, s => s
  | _, _, _, _, .cons r t, s => .cons r (RepL.append t s)
theorem RepL.get : ∀ {xs : List D} {vs : List V} {i : Nat} {d : D}, RepL K F io xs vs → xs[i]? = some d → ∃ v, vs[i]? = some v ∧ Rep K F io d v
  | _, _, _, _, .nil, e => by simp at e
  | _, _, 0, _, .cons r _, e => by simp at e; subst e; exact ⟨_, rfl, r⟩
  | _, _, i + 1, _, .cons _ t, e => by
    obtain ⟨v, h1, h2⟩ := RepL.get (i := i) t (by simpa using e)
    exact ⟨v, by simpa using h1, h2⟩
theorem RepL.get' : ∀ {xs : List D} {vs : List V} {i : Nat} {v : V}, RepL K F io xs vs → vs[i]? = some v → ∃ d, xs[i]? = some d ∧ Rep K F io d v
  | _, _, _, _, .nil, e => by simp at e
  | _, _, 0, _, .cons r _, e => by simp at e; subst e; exact ⟨_, rfl, r⟩
  | _, _, i + 1, _, .cons _ t, e => by
    obtain ⟨v, h1, h2⟩ := RepL.get' (i := i) t (by simpa using e)
    exact ⟨v, by simpa using h1, h2⟩
theorem RepL.take : ∀ {xs : List D} {vs : List V} (n : Nat), RepL K F io xs vs → RepL K F io (xs.take n) (vs.take n)
  | _, _, 0, _ => .nil
  | _, _, _ + 1, .nil => .nil
  | _, _, n + 1, .cons r t => .cons r (RepL.take n t)
theorem RepL.drop : ∀ {xs : List D} {vs : List V} (n : Nat), RepL K F io xs vs → RepL K F io (xs.drop n) (vs.drop n)
  | _, _, 0, r => r
  | _, _, _ + 1, .nil => .nil
  | _, _, n + 1, .cons _ t => RepL.drop n t
theorem RepL.set {d : D} {v : V} (r : Rep K F io d v) : ∀ {xs : List D} {vs : List V} (i : Nat), RepL K F io xs vs → RepL K F io (xs.set i d) (vs.set i v)
  | _, _, _, .nil => .nil
  | _, _, 0, .cons _ t => .cons r t
  | _, _, i + 1, .cons q t => .cons q (RepL.set r i t)
theorem RepL.reverse : ∀ {xs : List D} {vs : List V}, RepL K F io xs vs → RepL K F io xs.reverse vs.reverse
  | _, _, .nil => .nil
  | _, _, .cons r t => by
    rw [List.reverse_cons, List.reverse_cons]
    exact (RepL.reverse t).append (.cons r .nil)
end

/-! ### the state -/
/-- what is fixed through a law: own classes by name, the field of an own exception class -/
structure G3 where
  K : PySem.W.Frag
  cls : String → Option Addr
  fld : String → Option Str
/-- addresses of shared objects; what never changes; the heap -/
structure S3 where
  io : Io
  F : Hp
  H : Hp
structure Le (B : Addr → Prop) (s s' : S3) : Prop where
  io : IoLe s.io s'.io
  fr : Same s.F s'.F
  hid : ∀ a, B a → s'.H a = s.H a
theorem Le.refl {B : Addr → Prop} (s : S3) : Le B s s := ⟨IoLe.refl _, Same.refl _, fun _ _ => rfl⟩
theorem Le.trans {B : Addr → Prop} {a b c : S3} (x : Le B a b) (y : Le B b c) : Le B a c := ⟨x.io.trans y.io, x.fr.trans y.fr, fun p h => (y.hid p h).trans (x.hid p h)⟩
theorem Le.less {B B0 : Addr → Prop} (h : ∀ a, B0 a → B a) {s s' : S3} (x : Le B s s') : Le B0 s s' := ⟨x.io, x.fr, fun a q => x.hid a (h a q)⟩

inductive FsR (K : PySem.W.Frag) (F : Hp) (io : Io) : List (Str × D) → List (Str × V) → Prop where
  | nil : FsR K F io [] []
  | cons {f d v fs gs} : Rep K F io d v → FsR K F io fs gs → FsR K F io ((f, d) :: fs) ((f, v) :: gs)
theorem FsR.mono {K : PySem.W.Frag} {F F' : Hp} {io io' : Io} (hF : Same F F') (hi : IoLe io io') : ∀ {fs gs}, FsR K F io fs gs → FsR K F' io' fs gs
  | _, _, .nil => .nil
  | _, _, .cons r t => .cons (r.mono hF hi) (FsR.mono hF hi t)
theorem FsR.look {K : PySem.W.Frag} {F : Hp} {io : Io} {f : Str} : ∀ {fs gs}, FsR K F io fs gs → (∀ d, fs.lookup f = some d → ∃ v, gs.lookup f = some v ∧ Rep K F io d v) ∧ (fs.lookup f = none → gs.lookup f = none)
  | _, _, .nil => ⟨fun d h => by simp at h, fun _ => rfl⟩
  | _, _, .cons (f := g) r t => by
    have ih := FsR.look (f := f) t
    rw [List.lookup_cons, List.lookup_cons]
    cases h : f == g with
    | true => exact ⟨fun d e => ⟨_, rfl, by cases e; exact r⟩, fun e => by cases e⟩
    | false => exact ih
theorem FsR.length {K : PySem.W.Frag} {F : Hp} {io : Io} : ∀ {fs gs}, FsR K F io fs gs → fs.length = gs.length
  | _, _, .nil => rfl
  | _, _, .cons _ t => congrArg Nat.succ (FsR.length t)

def ObjR (G : G3) (s : S3) (a : Addr) : MO → Prop
  | .lst xs => ∃ vs, s.H a = some (.lst vs) ∧ RepL G.K s.F s.io xs vs
  | .dic ks us => ∃ kvs : List (Key × V), s.H a = some (.dK kvs) ∧ kvs.map (·.1) = ks ∧ RepL G.K s.F s.io us (kvs.map (·.2))
  | .diT ks us => ∃ kvs : List (List Key × V), s.H a = some (.dT kvs) ∧ kvs.map (·.1) = ks ∧ RepL G.K s.F s.io us (kvs.map (·.2))
  | .ins c fs => ∃ C dx gs, G.cls c = some C ∧ s.H a = some (.ins C dx gs) ∧ FsR G.K s.F s.io fs gs

structure Wd (G : G3) (B : Addr → Prop) (st : Store) (s : S3) : Prop where
  sub : Same s.F s.H
  hid : ∀ a, B a → s.F a = none ∧ ∃ o, s.H a = some o
  dom : ∀ k a, s.io k = some a → k < st.length
  inj : ∀ j k a, s.io j = some a → s.io k = some a → j = k
  obj : ∀ k o, st[k]? = some o → ∃ a, s.io k = some a ∧ ¬ B a ∧ s.F a = none ∧ ObjR G s a o
theorem Wd.freshF {G : G3} {B : Addr → Prop} {st : Store} {s : S3} (w : Wd G B st s) {p : Addr} (h : s.H p = none) : s.F p = none := by
  cases q : s.F p with
  | none => rfl
  | some o => rw [w.sub p o q] at h; cases h
theorem Wd.freshB {G : G3} {B : Addr → Prop} {st : Store} {s : S3} (w : Wd G B st s) {p : Addr} (h : s.H p = none) : ¬ B p := fun b => by
  obtain ⟨_, o, e⟩ := w.hid p b
  rw [e] at h; cases h
theorem Wd.freshI {G : G3} {B : Addr → Prop} {st : Store} {s : S3} (w : Wd G B st s) {p : Addr} (h : s.H p = none) {k : Nat} : s.io k ≠ some p := fun e => by
  have hk := w.dom k p e
  obtain ⟨a, e', _, _, o⟩ := w.obj k st[k] (List.getElem?_eq_getElem hk)
  rw [e] at e'; cases e'
  cases hx : st[k] with
  | lst xs => rw [hx] at o; obtain ⟨vs, q, _⟩ := o; rw [h] at q; cases q
  | dic ks us => rw [hx] at o; obtain ⟨vs, q, _⟩ := o; rw [h] at q; cases q
  | diT ks us => rw [hx] at o; obtain ⟨vs, q, _⟩ := o; rw [h] at q; cases q
  | ins c fs => rw [hx] at o; obtain ⟨_, _, _, _, q, _⟩ := o; rw [h] at q; cases q
theorem ObjR.mono {G : G3} {s s' : S3} {a : Addr} {o : MO} (hi : IoLe s.io s'.io) (hf : Same s.F s'.F) (hh : s'.H a = s.H a) (x : ObjR G s a o) : ObjR G s' a o := by
  cases o with
  | lst xs => obtain ⟨vs, e, r⟩ := x; exact ⟨vs, hh.trans e, r.mono hf hi⟩
  | dic ks us => obtain ⟨vs, e, e2, r⟩ := x; exact ⟨vs, hh.trans e, e2, r.mono hf hi⟩
  | diT ks us => obtain ⟨vs, e, e2, r⟩ := x; exact ⟨vs, hh.trans e, e2, r.mono hf hi⟩
  | ins c fs => obtain ⟨C, dx, gs, e0, e, r⟩ := x; exact ⟨C, dx, gs, e0, hh.trans e, r.mono hf hi⟩

/-- a new thing that never changes -/
def S3.froz (s : S3) (p : Addr) (o : HO) : S3 := ⟨s.io, upd s.F p o, upd s.H p o⟩
theorem same_upd {H : Hp} {p : Addr} {o : HO} (h : H p = none) : Same H (upd H p o) := fun b u e => by
  rw [upd_ne (ne_of_none e h)]; exact e
theorem Wd.froz {G : G3} {B : Addr → Prop} {st : Store} {s : S3} (w : Wd G B st s) {p : Addr} (h : s.H p = none) (o : HO) : Wd G B st (s.froz p o) ∧ Le B s (s.froz p o) := by
  have hF := w.freshF h
  have nB : ∀ a, B a → a ≠ p := fun a b e => w.freshB h (e ▸ b)
  refine ⟨⟨fun b u e => ?_, fun a b => ?_, w.dom, w.inj, fun k u e => ?_⟩, IoLe.refl _, same_upd hF, fun a b => upd_ne (nB a b)⟩
  · show upd s.H p o b = some u
    have e : upd s.F p o b = some u := e
    by_cases hb : b = p
    · subst hb; rw [upd_same] at e ⊢; exact e
    · rw [upd_ne hb] at e ⊢; exact w.sub b u e
  · obtain ⟨h1, u, h2⟩ := w.hid a b
    exact ⟨by show upd s.F p o a = none; rw [upd_ne (nB a b)]; exact h1, u, by show upd s.H p o a = some u; rw [upd_ne (nB a b)]; exact h2⟩
  · obtain ⟨a, e1, b1, f1, o1⟩ := w.obj k u e
    have na : a ≠ p := fun z => w.freshI h (z ▸ e1)
    exact ⟨a, e1, b1, by show upd s.F p o a = none; rw [upd_ne na]; exact f1, ObjR.mono (s := s) (s' := s.froz p o) (IoLe.refl _) (same_upd hF) (upd_ne na) o1⟩

theorem Wd.newT {G : G3} {B : Addr → Prop} {st : Store} {s : S3} {xs : List D} {vs : List V} {Q : VK} (w : Wd G B st s) (r : RepL G.K s.F s.io xs vs)
    (k : ∀ (s' : S3) (v : V), Le B s s' → Wd G B st s' → Rep G.K s'.F s'.io (.tup xs) v → Q v s'.H) : NewT vs s.H Q := fun p o hp hd =>
  let ⟨w2, l2⟩ := w.froz hp (.frz o (.tup vs))
  k (s.froz p (.frz o (.tup vs))) (.ref p) l2 w2 (.tup ⟨o, upd_same, hd⟩ (r.mono l2.fr l2.io))

/-- an exception's class and dict -/
def ExR (G : G3) (s : S3) (c : String) (x : D) (cv : Value) (dd : Option Addr) : Prop :=
  match G.cls c with
  | none => cv = .type c ∧ dd = none
  | some C => cv = .ref C ∧ (match G.fld c with
    | none => dd = none
    | some f => ∃ d fs v, dd = some d ∧ s.H d = some (.xd fs) ∧ fs.lookup f = some v ∧ Rep G.K s.F s.io x v)

/-- the handled exception: where, its class' name, its field -/
abbrev Hex := Option (Addr × String × D)

def RepW (G : G3) (X : Hex) (B : Addr → Prop) (s : S3) : W → V → Prop
  | .val d, v => Rep G.K s.F s.io d v
  | .bor xs, v => ∃ p vs, v = .ref p ∧ B p ∧ s.H p = some (.lst vs) ∧ RepL G.K s.F s.io xs vs
  | .bod ks us, v => ∃ (p : Addr) (kvs : List (Key × V)), v = .ref p ∧ B p ∧ s.H p = some (.dK kvs) ∧ kvs.map (·.1) = ks ∧ RepL G.K s.F s.io us (kvs.map (·.2))
  | .boT ks us, v => ∃ (p : Addr) (kvs : List (List Key × V)), v = .ref p ∧ B p ∧ s.H p = some (.dT kvs) ∧ kvs.map (·.1) = ks ∧ RepL G.K s.F s.io us (kvs.map (·.2))
  | .exn c x, v => ∃ a, X = some (a, c, x) ∧ v = .ref a
theorem RepW.mono {G : G3} {X : Hex} {B : Addr → Prop} {s s' : S3} (l : Le B s s') {w : W} {v : V} (r : RepW G X B s w v) : RepW G X B s' w v := by
  cases w with
  | val d => exact Rep.mono l.fr l.io r
  | bor xs => obtain ⟨p, vs, e, b, h, r⟩ := r; exact ⟨p, vs, e, b, (l.hid p b).trans h, r.mono l.fr l.io⟩
  | bod ks us => obtain ⟨p, vs, e, b, h, e2, r⟩ := r; exact ⟨p, vs, e, b, (l.hid p b).trans h, e2, r.mono l.fr l.io⟩
  | boT ks us => obtain ⟨p, vs, e, b, h, e2, r⟩ := r; exact ⟨p, vs, e, b, (l.hid p b).trans h, e2, r.mono l.fr l.io⟩
  | exn c x => exact r

/-- the slots -/
structure Slo (G : G3) (X : Hex) (B0 B : Addr → Prop) (s : S3) (u : Sl3) (z : L2.St) : Prop where
  len : u.length = z.length
  ex : ∃ ow : Nat → Addr, (∀ (i : Nat) (w : W), u[i]? = some (some w) → ∃ v, z[i]? = some (some v) ∧ RepW G X B s w v ∧ (w.own = true → v = .ref (ow i) ∧ ¬ B0 (ow i))) ∧
    ∀ (i j : Nat) (w w' : W), w.own = true → w'.own = true → u[i]? = some (some w) → u[j]? = some (some w') → ow i = ow j → i = j
theorem Slo.mono {G : G3} {X : Hex} {B0 B : Addr → Prop} {s s' : S3} {u : Sl3} {z : L2.St} (l : Le B s s') (h : Slo G X B0 B s u z) : Slo G X B0 B s' u z := by
  obtain ⟨hl, ow, h1, h2⟩ := h
  exact ⟨hl, ow, fun i w e => let ⟨v, e1, r, q⟩ := h1 i w e; ⟨v, e1, r.mono l, q⟩, h2⟩
theorem Slo.get {G : G3} {X : Hex} {B0 B : Addr → Prop} {s : S3} {u : Sl3} {z : L2.St} (h : Slo G X B0 B s u z) {i : Nat} {w : W} (e : u[i]? = some (some w)) : ∃ v, z[i]? = some (some v) ∧ RepW G X B s w v := by
  obtain ⟨hl, ow, h1, h2⟩ := h
  obtain ⟨v, e1, r, _⟩ := h1 i w e
  exact ⟨v, e1, r⟩

/-! ### what is wanted behind a part -/
def Post {α β : Type} (G : G3) (B : Addr → Prop) (R : S3 → α → β → Prop) (E : XK) (s : S3) (Q : β → Hp → Prop) : Res α → Prop
  | .ok a st' => ∀ (s' : S3) (b : β), Le B s s' → Wd G B st' s' → R s' a b → Q b s'.H
  | .err c x st' => ∀ (s' : S3) (cv : Value) (dd : Option Addr), Le B s s' → Wd G B st' s' → ExR G s' c x cv dd → E cv dd s'.H
  | .bad => False
theorem Post.mono {α β : Type} {G : G3} {B : Addr → Prop} {R : S3 → α → β → Prop} {E : XK} {s s1 : S3} {Q : β → Hp → Prop} {r : Res α} (l : Le B s s1) (h : Post G B R E s Q r) : Post G B R E s1 Q r := by
  cases r with
  | ok a st' => exact fun s' b l' w r => h s' b (l.trans l') w r
  | err c x st' => exact fun s' cv dd l' w r => h s' cv dd (l.trans l') w r
  | bad => exact h
theorem Post.bind {α β γ δ : Type} {G : G3} {B : Addr → Prop} {R : S3 → α → β → Prop} {R' : S3 → γ → δ → Prop} {E : XK} {s : S3} {Q : δ → Hp → Prop} {Q1 : β → Hp → Prop} {m : M α} {f : α → M γ} {st : Store} (h : Post G B R' E s Q (M.bind m f st))
    (k : ∀ a st' s' b, Le B s s' → Wd G B st' s' → R s' a b → Post G B R' E s' Q (f a st') → Q1 b s'.H) : Post G B R E s Q1 (m st) := by
  unfold M.bind at h
  cases e : m st with
  | ok a st' =>
    rw [e] at h
    exact fun s' b l w r => k a st' s' b l w r (Post.mono l h)
  | err c x st' => rw [e] at h; exact h
  | bad => rw [e] at h; exact h
theorem Post.pure {α β : Type} {G : G3} {B : Addr → Prop} {R : S3 → α → β → Prop} {E : XK} {s : S3} {Q : β → Hp → Prop} {a : α} {b : β} {st : Store} (h : Post G B R E s Q (.ok a st)) (w : Wd G B st s) (r : R s a b) : Q b s.H := h s b (Le.refl _) w r

/-! ### the judgements -/
abbrev EM := Sl3 → M W
abbrev TM := Sl3 → M Bool
abbrev AM := Sl3 → M (List W)
inductive RepWs (G : G3) (X : Hex) (B : Addr → Prop) (s : S3) : List W → List V → Prop where
  | nil : RepWs G X B s [] []
  | cons {w v ws vs} : RepW G X B s w v → RepWs G X B s ws vs → RepWs G X B s (w :: ws) (v :: vs)
theorem RepWs.mono {G : G3} {X : Hex} {B : Addr → Prop} {s s' : S3} (l : Le B s s') : ∀ {ws : List W} {vs : List V}, RepWs G X B s ws vs → RepWs G X B s' ws vs
  | _, _, .nil => .nil
  | _, _, .cons r t => .cons (r.mono l) (RepWs.mono l t)
theorem RepWs.length {G : G3} {X : Hex} {B : Addr → Prop} {s : S3} : ∀ {ws : List W} {vs : List V}, RepWs G X B s ws vs → ws.length = vs.length
  | _, _, .nil => rfl
  | _, _, .cons _ t => congrArg Nat.succ (RepWs.length t)

/-- where a part stands: the context, the law's names, the handled exception, the wish about exceptions -/
structure P3 where
  X : Cx
  G : G3
  hx : Hex
  wx : WX
  hK : X.K = G.K
/-- the readings that the mirrors give -/
def tE (G : G3) (hx : Hex) (wx : WX) (m : EM) : TE := fun z H Q => ∃ (B0 B : Addr → Prop) (s : S3) (st : Store) (u : Sl3), s.H = H ∧ Wd G B st s ∧ Slo G hx B0 B s u z ∧ Post G B (RepW G hx B) (fun c d H => wx c d z H) s Q (m u st)
def tT (G : G3) (hx : Hex) (wx : WX) (m : TM) : TT := fun z H Q => ∃ (B0 B : Addr → Prop) (s : S3) (st : Store) (u : Sl3), s.H = H ∧ Wd G B st s ∧ Slo G hx B0 B s u z ∧ Post G B (fun _ a b => a = b) (fun c d H => wx c d z H) s Q (m u st)
def tA (G : G3) (hx : Hex) (wx : WX) (m : AM) : TA := fun z H Q => ∃ (B0 B : Addr → Prop) (s : S3) (st : Store) (u : Sl3), s.H = H ∧ Wd G B st s ∧ Slo G hx B0 B s u z ∧ Post G B (RepWs G hx B) (fun c d H => wx c d z H) s Q (m u st)
structure ME (P : P3) (e : Expr) (m : EM) : Prop where
  pe : PE P.X e (tE P.G P.hx P.wx m)
structure MT (P : P3) (e : Expr) (m : TM) : Prop where
  pt : PT P.X e (tT P.G P.hx P.wx m)
structure MW (P : P3) (e : Expr) (m : TM) : Prop where
  pw : PW P.X e (tT P.G P.hx P.wx m)
structure MA (P : P3) (es : List Expr) (m : AM) : Prop where
  pa : PA P.X es (tA P.G P.hx P.wx m)
section
variable {P : P3} {e : Expr} {es : List Expr}
theorem ME.mk' {m : EM} {t : TE} (h : PE P.X e t) (k : ∀ (B0 B : Addr → Prop) (s : S3) (st : Store) (u : Sl3) (z : L2.St) (Q : VK), Wd P.G B st s → Slo P.G P.hx B0 B s u z →
    Post P.G B (RepW P.G P.hx B) (fun c d H => P.wx c d z H) s Q (m u st) → t z s.H Q) : ME P e m :=
  ⟨⟨fun pins s0 z H Q I ⟨B0, B, s, st, u, e, wd, sl, p⟩ => by subst e; exact h.run pins s0 z _ Q I (k B0 B s st u z Q wd sl p)⟩⟩
theorem MT.mk' {m : TM} {t : TT} (h : PT P.X e t) (k : ∀ (B0 B : Addr → Prop) (s : S3) (st : Store) (u : Sl3) (z : L2.St) (Q : Bool → Hp → Prop), Wd P.G B st s → Slo P.G P.hx B0 B s u z →
    Post P.G B (fun _ a b => a = b) (fun c d H => P.wx c d z H) s Q (m u st) → t z s.H Q) : MT P e m :=
  ⟨⟨fun pins s0 z H Q I ⟨B0, B, s, st, u, e, wd, sl, p⟩ => by subst e; exact h.run pins s0 z _ Q I (k B0 B s st u z Q wd sl p)⟩⟩
theorem MW.mk' {m : TM} {t : TT} (h : PW P.X e t) (k : ∀ (B0 B : Addr → Prop) (s : S3) (st : Store) (u : Sl3) (z : L2.St) (Q : Bool → Hp → Prop), Wd P.G B st s → Slo P.G P.hx B0 B s u z →
    Post P.G B (fun _ a b => a = b) (fun c d H => P.wx c d z H) s Q (m u st) → t z s.H Q) : MW P e m :=
  ⟨⟨fun whole pins s0 z H Q I ⟨B0, B, s, st, u, e, wd, sl, p⟩ => by subst e; exact h.run whole pins s0 z _ Q I (k B0 B s st u z Q wd sl p)⟩⟩
theorem MA.mk' {m : AM} {t : TA} (h : PA P.X es t) (k : ∀ (B0 B : Addr → Prop) (s : S3) (st : Store) (u : Sl3) (z : L2.St) (Q : List V → Hp → Prop), Wd P.G B st s → Slo P.G P.hx B0 B s u z →
    Post P.G B (RepWs P.G P.hx B) (fun c d H => P.wx c d z H) s Q (m u st) → t z s.H Q) : MA P es m :=
  ⟨⟨fun pos pins s0 z H Q I ⟨B0, B, s, st, u, e, wd, sl, p⟩ => by subst e; exact h.run pos pins s0 z _ Q I (k B0 B s st u z Q wd sl p)⟩⟩
theorem ME.out {m : EM} (h : ME P e m) : ∃ t, PE P.X e t ∧ ∀ (B0 B : Addr → Prop) (s : S3) (st : Store) (u : Sl3) (z : L2.St) (Q : VK), Wd P.G B st s → Slo P.G P.hx B0 B s u z →
    Post P.G B (RepW P.G P.hx B) (fun c d H => P.wx c d z H) s Q (m u st) → t z s.H Q := ⟨_, h.pe, fun B0 B s st u z Q wd sl p => ⟨B0, B, s, st, u, rfl, wd, sl, p⟩⟩
theorem MT.out {m : TM} (h : MT P e m) : ∃ t, PT P.X e t ∧ ∀ (B0 B : Addr → Prop) (s : S3) (st : Store) (u : Sl3) (z : L2.St) (Q : Bool → Hp → Prop), Wd P.G B st s → Slo P.G P.hx B0 B s u z →
    Post P.G B (fun _ a b => a = b) (fun c d H => P.wx c d z H) s Q (m u st) → t z s.H Q := ⟨_, h.pt, fun B0 B s st u z Q wd sl p => ⟨B0, B, s, st, u, rfl, wd, sl, p⟩⟩
theorem MW.out {m : TM} (h : MW P e m) : ∃ t, PW P.X e t ∧ ∀ (B0 B : Addr → Prop) (s : S3) (st : Store) (u : Sl3) (z : L2.St) (Q : Bool → Hp → Prop), Wd P.G B st s → Slo P.G P.hx B0 B s u z →
    Post P.G B (fun _ a b => a = b) (fun c d H => P.wx c d z H) s Q (m u st) → t z s.H Q := ⟨_, h.pw, fun B0 B s st u z Q wd sl p => ⟨B0, B, s, st, u, rfl, wd, sl, p⟩⟩
theorem MA.out {m : AM} (h : MA P es m) : ∃ t, PA P.X es t ∧ ∀ (B0 B : Addr → Prop) (s : S3) (st : Store) (u : Sl3) (z : L2.St) (Q : List V → Hp → Prop), Wd P.G B st s → Slo P.G P.hx B0 B s u z →
    Post P.G B (RepWs P.G P.hx B) (fun c d H => P.wx c d z H) s Q (m u st) → t z s.H Q := ⟨_, h.pa, fun B0 B s st u z Q wd sl p => ⟨B0, B, s, st, u, rfl, wd, sl, p⟩⟩
end

/-! ### a new list, for whoever takes it -/
abbrev FM := Sl3 → M (List D)
def plus (B : Addr → Prop) (p : Addr) : Addr → Prop := fun a => B a ∨ a = p
def PostF (G : G3) (B : Addr → Prop) (E : XK) (s : S3) (Q : VK) : Res (List D) → Prop
  | .ok xs st' => ∀ (s' : S3) (p : Addr) (vs : List V), Le B s s' → Wd G (plus B p) st' s' → ¬ B p → s'.H p = some (.lst vs) → RepL G.K s'.F s'.io xs vs → Q (.ref p) s'.H
  | .err c x st' => ∀ (s' : S3) (cv : Value) (dd : Option Addr), Le B s s' → Wd G B st' s' → ExR G s' c x cv dd → E cv dd s'.H
  | .bad => False
def tF (G : G3) (hx : Hex) (wx : WX) (m : FM) : TE := fun z H Q => ∃ (B0 B : Addr → Prop) (s : S3) (st : Store) (u : Sl3), s.H = H ∧ Wd G B st s ∧ Slo G hx B0 B s u z ∧ PostF G B (fun c d H => wx c d z H) s Q (m u st)
structure MF (P : P3) (e : Expr) (m : FM) : Prop where
  pe : PE P.X e (tF P.G P.hx P.wx m)
theorem MF.mk' {P : P3} {e : Expr} {m : FM} {t : TE} (h : PE P.X e t) (k : ∀ (B0 B : Addr → Prop) (s : S3) (st : Store) (u : Sl3) (z : L2.St) (Q : VK), Wd P.G B st s → Slo P.G P.hx B0 B s u z →
    PostF P.G B (fun c d H => P.wx c d z H) s Q (m u st) → t z s.H Q) : MF P e m :=
  ⟨⟨fun pins s0 z H Q I ⟨B0, B, s, st, u, e, wd, sl, p⟩ => by subst e; exact h.run pins s0 z _ Q I (k B0 B s st u z Q wd sl p)⟩⟩
theorem MF.out {P : P3} {e : Expr} {m : FM} (h : MF P e m) : ∃ t, PE P.X e t ∧ ∀ (B0 B : Addr → Prop) (s : S3) (st : Store) (u : Sl3) (z : L2.St) (Q : VK), Wd P.G B st s → Slo P.G P.hx B0 B s u z →
    PostF P.G B (fun c d H => P.wx c d z H) s Q (m u st) → t z s.H Q := ⟨_, h.pe, fun B0 B s st u z Q wd sl p => ⟨B0, B, s, st, u, rfl, wd, sl, p⟩⟩
section
variable {G : G3} {B : Addr → Prop} {E : XK} {s s1 : S3} {Q : VK}
theorem PostF.mono {r : Res (List D)} (l : Le B s s1) (h : PostF G B E s Q r) : PostF G B E s1 Q r := by
  cases r with
  | ok a st' => exact fun s' p vs l' w nb hp r => h s' p vs (l.trans l') w nb hp r
  | err c x st' => exact fun s' cv dd l' w r => h s' cv dd (l.trans l') w r
  | bad => exact h
theorem PostF.bind {α β : Type} {R : S3 → α → β → Prop} {Q1 : β → Hp → Prop} {m : M α} {f : α → M (List D)} {st : Store} (h : PostF G B E s Q (M.bind m f st))
    (k : ∀ a st' s' b, Le B s s' → Wd G B st' s' → R s' a b → PostF G B E s' Q (f a st') → Q1 b s'.H) : Post G B R E s Q1 (m st) := by
  unfold M.bind at h
  cases e : m st with
  | ok a st' =>
    rw [e] at h
    exact fun s' b l w r => k a st' s' b l w r (PostF.mono l h)
  | err c x st' => rw [e] at h; exact h
  | bad => rw [e] at h; exact h
theorem PostF.of_chk {c : Prop} [Decidable c] {f : M (List D)} {st : Store} (h : PostF G B E s Q (M.bind (M.chk c) (fun _ => f) st)) : c ∧ PostF G B E s Q (f st) := by
  by_cases hc : c
  · refine ⟨hc, ?_⟩
    have e : M.bind (M.chk c) (fun _ => f) st = f st := by unfold M.bind M.chk; rw [if_pos hc]
    rw [e] at h; exact h
  · have e : M.bind (M.chk c) (fun _ => f) st = .bad := by unfold M.bind M.chk; rw [if_neg hc]
    rw [e] at h; exact h.elim
theorem Wd.less {B' : Addr → Prop} {st : Store} (w : Wd G B' st s) (h : ∀ a, B a → B' a) : Wd G B st s :=
  ⟨w.sub, fun a b => w.hid a (h a b), w.dom, w.inj, fun k o e => let ⟨a, e1, b, f, r⟩ := w.obj k o e; ⟨a, e1, fun z => b (h a z), f, r⟩⟩
/-- a list of one's own is let go: it never changes from here on -/
theorem freeze_le {p : Addr} {ho : HO} {st : Store} (w : Wd G (plus B p) st s) : Le B s ⟨s.io, upd s.F p ho, s.H⟩ :=
  ⟨IoLe.refl _, same_upd (w.hid p (.inr rfl)).1, fun _ _ => rfl⟩
theorem freeze_wd {p : Addr} {ho : HO} {st : Store} (w : Wd G (plus B p) st s) (nb : ¬ B p) (h : s.H p = some ho) : Wd G B st ⟨s.io, upd s.F p ho, s.H⟩ := by
  have hF := (w.hid p (.inr rfl)).1
  refine ⟨fun b o e => ?_, fun a b => ?_, w.dom, w.inj, fun k o e => ?_⟩
  · have e : upd s.F p ho b = some o := e
    by_cases hb : b = p
    · subst hb; rw [upd_same] at e; cases e; exact h
    · rw [upd_ne hb] at e; exact w.sub b o e
  · obtain ⟨h1, h2⟩ := w.hid a (.inl b)
    exact ⟨by show upd s.F p ho a = none; rw [upd_ne (show a ≠ p from fun z => by subst z; exact nb b)]; exact h1, h2⟩
  · obtain ⟨a, e1, b1, f1, o1⟩ := w.obj k o e
    have na : a ≠ p := fun z => b1 (.inr z)
    exact ⟨a, e1, fun z => b1 (.inl z), by show upd s.F p ho a = none; rw [upd_ne na]; exact f1, ObjR.mono (s := s) (s' := ⟨s.io, upd s.F p ho, s.H⟩) (IoLe.refl _) (same_upd hF) rfl o1⟩
/-- a new list is laid -/
theorem own_wd {p : Addr} {ho : HO} {st : Store} (w : Wd G B st s) (hp : s.H p = none) : Wd G (plus B p) st ⟨s.io, s.F, upd s.H p ho⟩ ∧ Le B s ⟨s.io, s.F, upd s.H p ho⟩ := by
  have nB : ∀ a, B a → a ≠ p := fun a b e => w.freshB hp (e ▸ b)
  have hF := w.freshF hp
  refine ⟨⟨fun b o e => ?_, fun a b => ?_, w.dom, w.inj, fun k o e => ?_⟩, IoLe.refl _, Same.refl _, fun a b => upd_ne (nB a b)⟩
  · show upd s.H p _ b = some o
    rw [upd_ne (fun z => by subst z; have e : s.F b = some o := e; rw [hF] at e; cases e)]; exact w.sub b o e
  · rcases b with b | b
    · obtain ⟨h1, o, h2⟩ := w.hid a b
      exact ⟨h1, o, by show upd s.H p _ a = some o; rw [upd_ne (nB a b)]; exact h2⟩
    · subst b
      exact ⟨hF, _, upd_same⟩
  · obtain ⟨a, e1, b1, f1, o1⟩ := w.obj k o e
    have na : a ≠ p := fun z => w.freshI hp (z ▸ e1)
    exact ⟨a, e1, fun z => z.elim b1 na, f1, ObjR.mono (s := s) (s' := ⟨s.io, s.F, upd s.H p ho⟩) (IoLe.refl _) (Same.refl _) (upd_ne na) o1⟩
theorem PostF.fresh {p : Addr} {xs : List D} {vs : List V} {st : Store} (h : PostF G B E s Q (.ok xs st)) (w : Wd G B st s) (r : RepL G.K s.F s.io xs vs) (hp : s.H p = none) : Q (.ref p) (upd s.H p (.lst vs)) :=
  let ⟨w2, l2⟩ := own_wd (ho := .lst vs) w hp
  h ⟨s.io, s.F, upd s.H p (.lst vs)⟩ p vs l2 w2 (w.freshB hp) upd_same r
end

/-! ### statements -/
inductive SRes where
  | nx (u : Sl3) (st : Store) | rt (w : W) (st : Store) | bk (u : Sl3) (st : Store) | ct (u : Sl3) (st : Store)
  | err (c : String) (x : D) (u : Sl3) (st : Store) | bad
abbrev SM := Sl3 → Store → SRes

def PostS (G : G3) (hx : Hex) (wx : WX) (B0 : Addr → Prop) (s : S3) (D : Ends) : SRes → Prop
  | .nx u' st' => ∀ (B' : Addr → Prop) (s' : S3) (z' : L2.St), (∀ a, B0 a → B' a) → Le B0 s s' → Wd G B' st' s' → Slo G hx B0 B' s' u' z' → D.nx z' s'.H
  | .bk u' st' => ∀ (B' : Addr → Prop) (s' : S3) (z' : L2.St), (∀ a, B0 a → B' a) → Le B0 s s' → Wd G B' st' s' → Slo G hx B0 B' s' u' z' → D.bk z' s'.H
  | .ct u' st' => ∀ (B' : Addr → Prop) (s' : S3) (z' : L2.St), (∀ a, B0 a → B' a) → Le B0 s s' → Wd G B' st' s' → Slo G hx B0 B' s' u' z' → D.ct z' s'.H
  | .rt w st' => ∀ (B' : Addr → Prop) (s' : S3) (v : V), (∀ a, B0 a → B' a) → Le B0 s s' → Wd G B' st' s' → RepR G B0 B' s' w v → D.rt v s'.H
  | .err c x u' st' => ∀ (B' : Addr → Prop) (s' : S3) (z' : L2.St) (cv : Value) (dd : Option Addr), (∀ a, B0 a → B' a) → Le B0 s s' → Wd G B' st' s' → Slo G hx B0 B' s' u' z' → ExR G s' c x cv dd → wx cv dd z' s'.H
  | .bad => False
where
  /-- what is handed back: data, or a list of one's own (let go) -/
  RepR (G : G3) (B0 B : Addr → Prop) (s : S3) : W → V → Prop
    | .val d, v => Rep G.K s.F s.io d v
    | .bor xs, v => ∃ p vs, v = .ref p ∧ B p ∧ ¬ B0 p ∧ s.H p = some (.lst vs) ∧ RepL G.K s.F s.io xs vs
    | .bod ks us, v => ∃ (p : Addr) (kvs : List (Key × V)), v = .ref p ∧ B p ∧ ¬ B0 p ∧ s.H p = some (.dK kvs) ∧ kvs.map (·.1) = ks ∧ RepL G.K s.F s.io us (kvs.map (·.2))
    | .boT ks us, v => ∃ (p : Addr) (kvs : List (List Key × V)), v = .ref p ∧ B p ∧ ¬ B0 p ∧ s.H p = some (.dT kvs) ∧ kvs.map (·.1) = ks ∧ RepL G.K s.F s.io us (kvs.map (·.2))
    | .exn _ _, _ => False
def tS (G : G3) (hx : Hex) (wx : WX) (m : SM) : TS := fun D z H => ∃ (B0 B : Addr → Prop) (s : S3) (o : Store) (u : Sl3), s.H = H ∧ (∀ a, B0 a → B a) ∧ Wd G B o s ∧ Slo G hx B0 B s u z ∧ PostS G hx wx B0 s D (m u o)
structure MS (P : P3) (st : Stmt) (m : SM) : Prop where
  ps : PS P.X st (tS P.G P.hx P.wx m)
structure MSs (P : P3) (st : List Stmt) (m : SM) : Prop where
  pss : PSs P.X st (tS P.G P.hx P.wx m)
theorem MS.mk' {P : P3} {st : Stmt} {m : SM} {t : TS} (h : PS P.X st t) (k : ∀ (B0 B : Addr → Prop) (s : S3) (o : Store) (u : Sl3) (z : L2.St) (D : Ends), (∀ a, B0 a → B a) → Wd P.G B o s → Slo P.G P.hx B0 B s u z → PostS P.G P.hx P.wx B0 s D (m u o) → t D z s.H) : MS P st m :=
  ⟨⟨fun pins s0 z H D I ⟨B0, B, s, o, u, e, b, wd, sl, p⟩ => by subst e; exact h.run pins s0 z _ D I (k B0 B s o u z D b wd sl p)⟩⟩
theorem MSs.mk' {P : P3} {st : List Stmt} {m : SM} {t : TS} (h : PSs P.X st t) (k : ∀ (B0 B : Addr → Prop) (s : S3) (o : Store) (u : Sl3) (z : L2.St) (D : Ends), (∀ a, B0 a → B a) → Wd P.G B o s → Slo P.G P.hx B0 B s u z → PostS P.G P.hx P.wx B0 s D (m u o) → t D z s.H) : MSs P st m :=
  ⟨⟨fun pins s0 z H D I ⟨B0, B, s, o, u, e, b, wd, sl, p⟩ => by subst e; exact h.run pins s0 z _ D I (k B0 B s o u z D b wd sl p)⟩⟩
theorem MS.out {P : P3} {st : Stmt} {m : SM} (h : MS P st m) : ∃ t, PS P.X st t ∧ ∀ (B0 B : Addr → Prop) (s : S3) (o : Store) (u : Sl3) (z : L2.St) (D : Ends), (∀ a, B0 a → B a) → Wd P.G B o s → Slo P.G P.hx B0 B s u z → PostS P.G P.hx P.wx B0 s D (m u o) → t D z s.H :=
  ⟨_, h.ps, fun B0 B s o u z D b wd sl p => ⟨B0, B, s, o, u, rfl, b, wd, sl, p⟩⟩
theorem MSs.out {P : P3} {st : List Stmt} {m : SM} (h : MSs P st m) : ∃ t, PSs P.X st t ∧ ∀ (B0 B : Addr → Prop) (s : S3) (o : Store) (u : Sl3) (z : L2.St) (D : Ends), (∀ a, B0 a → B a) → Wd P.G B o s → Slo P.G P.hx B0 B s u z → PostS P.G P.hx P.wx B0 s D (m u o) → t D z s.H :=
  ⟨_, h.pss, fun B0 B s o u z D b wd sl p => ⟨B0, B, s, o, u, rfl, b, wd, sl, p⟩⟩
theorem PostS.mono {G : G3} {hx : Hex} {wx : WX} {B0 : Addr → Prop} {s s1 : S3} {D : Ends} {r : SRes} (l : Le B0 s s1) (h : PostS G hx wx B0 s D r) : PostS G hx wx B0 s1 D r := by
  cases r with
  | nx u' st' => exact fun B' s' z' b l' w r => h B' s' z' b (l.trans l') w r
  | bk u' st' => exact fun B' s' z' b l' w r => h B' s' z' b (l.trans l') w r
  | ct u' st' => exact fun B' s' z' b l' w r => h B' s' z' b (l.trans l') w r
  | rt w st' => exact fun B' s' v b l' w r => h B' s' v b (l.trans l') w r
  | err c x u' st' => exact fun B' s' z' cv dd b l' w r => h B' s' z' cv dd b (l.trans l') w r
  | bad => exact h
end M3


namespace M3
open PySem PySem.Spec PyProof.Rows L2

/-! ### parts of data -/
def W.d : W → Option D
  | .val d => some d
  | _ => none
/-- as it is read -/
def W.rd : W → Option D
  | .val d => some d
  | .bor xs => some (.lst xs)
  | _ => none
def asDs : List W → Option (List D)
  | [] => some []
  | .val d :: ws => (asDs ws).map (d :: ·)
  | _ :: _ => none
section
variable {G : G3} {X : Hex} {B : Addr → Prop} {s : S3}
theorem rd_ok {w : M3.W} {v : V} {d : D} {st : Store} (wd : Wd G B st s) (r : RepW G X B s w v) (e : w.rd = some d) : Rep G.K s.H s.io d v := by
  cases w with
  | val d' => cases e; exact Rep.mono wd.sub (IoLe.refl _) r
  | bor xs => cases e; obtain ⟨p, vs, rfl, b, h, r⟩ := r; exact .lst h (r.mono wd.sub (IoLe.refl _))
  | bod ks us => cases e
  | boT ks us => cases e
  | exn c x => cases e
theorem asDs_ok : ∀ {ws : List W} {vs : List V} {ds : List D}, RepWs G X B s ws vs → asDs ws = some ds → RepL G.K s.F s.io ds vs
  | _, _, _, .nil, e => by cases e; exact .nil
  | w :: ws, _, ds, .cons r t, e => by
    cases w with
    | val d =>
      unfold asDs at e
      cases h : asDs ws with
      | none => rw [h] at e; cases e
      | some ds' => rw [h] at e; cases e; exact .cons r (asDs_ok t h)
    | _ => cases e
end

section
variable {α β γ δ : Type} {G : G3} {B : Addr → Prop} {R : S3 → α → β → Prop} {R' : S3 → γ → δ → Prop} {E : XK} {s : S3} {Q : δ → Hp → Prop}
theorem Post.of_chk {c : Prop} [Decidable c] {f : M γ} {st : Store} (h : Post G B R' E s Q (M.bind (M.chk c) (fun _ => f) st)) : c ∧ Post G B R' E s Q (f st) := by
  by_cases hc : c
  · refine ⟨hc, ?_⟩
    have e : M.bind (M.chk c) (fun _ => f) st = f st := by unfold M.bind M.chk; rw [if_pos hc]
    rw [e] at h; exact h
  · have e : M.bind (M.chk c) (fun _ => f) st = .bad := by unfold M.bind M.chk; rw [if_neg hc]
    rw [e] at h; exact h.elim
theorem Post.of_of {a : Option α} {f : α → M γ} {st : Store} (h : Post G B R' E s Q (M.bind (M.of a) f st)) : ∃ x, a = some x ∧ Post G B R' E s Q (f x st) := by
  cases a with
  | none => exact h.elim
  | some x => exact ⟨x, rfl, h⟩
end

section
variable {G : G3} {B : Addr → Prop} {E : XK} {s : S3} {Q : VK}
theorem PostF.of_of {α : Type} {a : Option α} {f : α → M (List D)} {st : Store} (h : PostF G B E s Q (M.bind (M.of a) f st)) : ∃ x, a = some x ∧ PostF G B E s Q (f x st) := by
  cases a with
  | none => exact h.elim
  | some x => exact ⟨x, rfl, h⟩
end

/-! ### names, constants -/
def eVar (i : Nat) : EM := fun u st => match u[i]? with
  | some (some w) => .ok w st
  | _ => .bad
def eC (d : D) : EM := fun _ => M.pure (.val d)
section
variable {P : P3} {pos p pos' : Pos}
theorem me_var (i : Nat) {x : Str} (hN : P.X.N[i]? = some x := by rfl) (hv : Vis P.X.env.scope x := by first | exact Or.inl rfl | exact Or.inr (Or.inl rfl) | exact Or.inr (Or.inr rfl)) (hd : (x == ("__debug__" : Str)) = false := by decide)
    (hcd : (x == ("__classdict__" : Str)) = false := by decide) : ME P (.Name x pos) (eVar i) := by
  refine ME.mk' (pe_var hN hv hd hcd) fun B0 B s st u z Q wd sl h => ?_
  unfold eVar at h
  cases e : u[i]? with
  | none => rw [e] at h; exact h.elim
  | some o =>
    cases o with
    | none => rw [e] at h; exact h.elim
    | some w =>
      rw [e] at h
      obtain ⟨v, e1, r⟩ := sl.get e
      exact ⟨v, e1, h.pure wd r⟩
theorem me_c {e : Expr} {d : D} {v : V} (h : PE P.X e (tC v)) (r : ∀ F io, Rep P.G.K F io d v) : ME P e (eC d) :=
  ME.mk' h fun B0 B s st u z Q wd sl h => h.pure wd (show Rep P.G.K s.F s.io d v from r _ _)
theorem me_int {i j} : ME P (.Constant (.int i) j pos) (eC (.int i)) := me_c pe_int fun _ _ => .int
theorem me_bl {b j} : ME P (.Constant (.bool b) j pos) (eC (.bl b)) := me_c pe_bl fun _ _ => .bl
theorem me_non {j} : ME P (.Constant .none j pos) (eC .non) := me_c pe_non fun _ _ => .non
theorem me_str {x j} : ME P (.Constant (.str x) j pos) (eC (.str x)) := me_c pe_str fun _ _ => .str
/-- a constant of the module -/
theorem me_glob {x : Str} {d : D} {v : V} {u : Value} (hg : Gl P.X x) (hm : P.X.mg x = some u) (rv : RelV v u) (r : ∀ F io, Rep P.G.K F io d v) (hd : (x == ("__debug__" : Str)) = false := by decide) : ME P (.Name x pos) (eC d) :=
  me_c (pe_glob hg hm rv hd) r
/-- a built-in type as a value -/
theorem me_ty {x : Str} {T : String} (hg : Gl P.X x) (hm : P.X.mg x = none) (hv : bootBuiltins x = some (.type T)) (hn : x ≠ "__name__" := by decide) (hd : (x == ("__debug__" : Str)) = false := by decide) : ME P (.Name x pos) (eC (.ty T)) :=
  me_c (pe_bltn (v := .ty T) hg hm hv rfl hn hd) fun _ _ => .ty

/-! ### arguments, displays -/
def aNil : AM := fun _ => M.pure []
def aCons (m : EM) (ms : AM) : AM := fun u => M.bind (m u) fun w => M.bind (ms u) fun ws => M.pure (w :: ws)
theorem ma_nil : MA P [] aNil := MA.mk' pa_nil fun B0 B s st u z Q wd sl h => h.pure wd .nil
theorem ma_cons {e : Expr} {es : List Expr} {m : EM} {ms : AM} (he : ME P e m) (hs : MA P es ms) (hst : starEach (e :: es) P.X.env = (false, eval e P.X.env) :: starEach es P.X.env := by rfl) : MA P (e :: es) (aCons m ms) := by
  obtain ⟨t, pt, ht⟩ := he.out
  obtain ⟨r, pr, hr⟩ := hs.out
  refine MA.mk' (pa_cons pt pr hst) fun B0 B s st u z Q wd sl h => ht B0 B s st u z _ wd sl (Post.bind h fun w st1 s1 v l1 wd1 r1 h1 => ?_)
  refine hr B0 B s1 st1 u z _ wd1 (sl.mono l1) (Post.bind h1 fun ws st2 s2 vs l2 wd2 r2 h2 => ?_)
  exact h2.pure wd2 (.cons (r1.mono l2) r2)
def eTup (m : AM) : EM := fun u => M.bind (m u) fun ws => M.bind (M.of (asDs ws)) fun ds => M.bind (M.chk (ds.length ≤ 1000000)) fun _ => M.pure (.val (.tup ds))
theorem me_tup {es : List Expr} {m : AM} {x1} (hs : MA P es m) : ME P (.Tuple es x1 pos) (eTup m) := by
  obtain ⟨t, pt, ht⟩ := hs.out
  refine ME.mk' (pe_tupZ pt) fun B0 B s st u z Q wd sl h => ht B0 B s st u z _ wd sl (Post.bind h fun ws st1 s1 vs l1 wd1 r1 h1 => ?_)
  obtain ⟨ds, e, h1⟩ := Post.of_of h1
  have rl := asDs_ok r1 e
  obtain ⟨hz, h1⟩ := Post.of_chk h1
  exact ⟨by rw [← rl.length]; exact szL hz, wd1.newT rl fun s' v l w r => h1 s' v l w r⟩
/-- a new list -/
def fLst (m : AM) : FM := fun u => M.bind (m u) fun ws => M.bind (M.of (asDs ws)) fun ds => M.bind (M.chk (ds.length ≤ 1000000)) fun _ => M.pure ds
theorem mf_lst {es : List Expr} {m : AM} (hs : MA P es m) : MF P (.List es pos) (fLst m) := by
  obtain ⟨t, pt, ht⟩ := hs.out
  refine MF.mk' (pe_lst pt) fun B0 B s st u z Q wd sl h => ht B0 B s st u z _ wd sl (PostF.bind h fun ws st1 s1 vs l1 wd1 r1 h1 => ?_)
  obtain ⟨ds, e, h1⟩ := PostF.of_of h1
  have rl := asDs_ok r1 e
  obtain ⟨hz, h1⟩ := PostF.of_chk h1
  exact ⟨by rw [← rl.length]; exact szL hz, fun p hp => PostF.fresh h1 wd1 rl hp⟩
/-- .. as a value -/
def eF (m : FM) : EM := fun u => M.bind (m u) fun xs => M.pure (.val (.lst xs))
theorem me_f {e : Expr} {m : FM} (h : MF P e m) : ME P e (eF m) := by
  obtain ⟨t, pt, ht⟩ := h.out
  refine ME.mk' pt fun B0 B s st u z Q wd sl h => ht B0 B s st u z _ wd sl ?_
  unfold eF M.bind at h
  cases e : m u st with
  | ok xs st' =>
    rw [e] at h
    exact fun s' p vs l w nb hp r => h ⟨s'.io, upd s'.F p (.lst vs), s'.H⟩ (.ref p) (l.trans (freeze_le w)) (freeze_wd w nb hp) (.lst upd_same (r.mono (freeze_le w).fr (freeze_le w).io))
  | err c x st' => rw [e] at h; exact h
  | bad => rw [e] at h; exact h
end
end M3


namespace M3
open PySem PySem.Spec PyProof.Rows L2

/-! ### operators by values -/
def OpM (P : P3) (f : Value → Value → Sem Value) (g : W → W → Option W) : Prop := ∃ r, OpR P.X f r ∧ ∀ (B : Addr → Prop) (s : S3) (st : Store) (w1 w2 w : W) (v1 v2 : V) (Q : VK), Wd P.G B st s → RepW P.G P.hx B s w1 v1 → RepW P.G P.hx B s w2 v2 →
  g w1 w2 = some w → (∀ (s' : S3) (v : V), Le B s s' → Wd P.G B st s' → RepW P.G P.hx B s' w v → Q v s'.H) → r v1 v2 s.H Q
def eBin (g : W → W → Option W) (a b : EM) : EM := fun u => M.bind (a u) fun x => M.bind (b u) fun y => M.of (g x y)
section
variable {P : P3} {pos : Pos} {a b c : Expr} {ma mb mc : EM} {g g' : W → W → Option W}
theorem op_use {R : R2} (h : OpM P f g) {B0 B : Addr → Prop} {s : S3} {st : Store} {u : Sl3} {z : L2.St} {Q : VK} {ta tb : TE}
    (ha : ∀ (B0 B : Addr → Prop) (s : S3) (st : Store) (u : Sl3) (z : L2.St) (Q : VK), Wd P.G B st s → Slo P.G P.hx B0 B s u z → Post P.G B (RepW P.G P.hx B) (fun c d H => P.wx c d z H) s Q (ma u st) → ta z s.H Q)
    (hb : ∀ (B0 B : Addr → Prop) (s : S3) (st : Store) (u : Sl3) (z : L2.St) (Q : VK), Wd P.G B st s → Slo P.G P.hx B0 B s u z → Post P.G B (RepW P.G P.hx B) (fun c d H => P.wx c d z H) s Q (mb u st) → tb z s.H Q)
    (hr : ∀ (B : Addr → Prop) (s : S3) (st : Store) (w1 w2 w : W) (v1 v2 : V) (Q : VK), Wd P.G B st s → RepW P.G P.hx B s w1 v1 → RepW P.G P.hx B s w2 v2 →
      g w1 w2 = some w → (∀ (s' : S3) (v : V), Le B s s' → Wd P.G B st s' → RepW P.G P.hx B s' w v → Q v s'.H) → R v1 v2 s.H Q)
    (wd : Wd P.G B st s) (sl : Slo P.G P.hx B0 B s u z) (hp : Post P.G B (RepW P.G P.hx B) (fun c d H => P.wx c d z H) s Q (eBin g ma mb u st)) : tOp R ta tb z s.H Q := by
  refine ha B0 B s st u z _ wd sl (Post.bind hp fun w1 st1 s1 v1 l1 wd1 r1 h1 => ?_)
  refine hb B0 B s1 st1 u z _ wd1 (sl.mono l1) (Post.bind h1 fun w2 st2 s2 v2 l2 wd2 r2 h2 => ?_)
  cases e : g w1 w2 with
  | none => rw [e] at h2; exact h2.elim
  | some w => rw [e] at h2; exact hr B s2 st2 w1 w2 w v1 v2 Q wd2 (r1.mono l2) r2 e fun s' v l w' r => h2 s' v l w' r
theorem me_bin {op : Operator} (h : OpM P (binaryOp op) g) (ha : ME P a ma) (hb : ME P b mb) : ME P (.BinOp a op b pos) (eBin g ma mb) := by
  obtain ⟨ta, pa, ha⟩ := ha.out
  obtain ⟨tb, pb, hb⟩ := hb.out
  obtain ⟨r, hr, hq⟩ := id h
  exact ME.mk' (pe_op hr pa pb) fun B0 B s st u z Q wd sl hp => op_use h ha hb hq wd sl hp
theorem me_cmp {op : CmpOp} (h : OpM P (compareOp op) g) (ha : ME P a ma) (hb : ME P b mb) (hm : behindInMarks op b = false) : ME P (.Compare a [op] [b] pos) (eBin g ma mb) := by
  obtain ⟨ta, pa, ha⟩ := ha.out
  obtain ⟨tb, pb, hb⟩ := hb.out
  obtain ⟨r, hr, hq⟩ := id h
  exact ME.mk' (pe_cmpR hr pa pb hm) fun B0 B s st u z Q wd sl hp => op_use h ha hb hq wd sl hp
/-- the value as a bool -/
def W.bool : W → Option Bool
  | .val (.bl b) => some b
  | _ => none
theorem bool_inv {w : M3.W} {k : Bool} (e : w.bool = some k) : w = .val (.bl k) := by
  unfold W.bool at e
  split at e
  · cases e; rfl
  · cases e
def tOf (m : EM) : TM := fun u => M.bind (m u) fun w => M.of w.bool
theorem mt_cmp {op : CmpOp} (h : OpM P (compareOp op) g) (ha : ME P a ma) (hb : ME P b mb) (hm : behindInMarks op b = false) : MT P (.Compare a [op] [b] pos) (tOf (eBin g ma mb)) := by
  obtain ⟨ta, pa, ha⟩ := ha.out
  obtain ⟨tb, pb, hb⟩ := hb.out
  obtain ⟨r, hr, hq⟩ := id h
  refine MT.mk' (pt_cmpR hr pa pb hm) fun B0 B s st u z Q wd sl hp => ?_
  refine op_use h ha hb hq wd sl (Post.bind hp fun w st1 s1 v l1 wd1 r1 h1 => ?_)
  obtain ⟨k, e, h1⟩ : ∃ k, w.bool = some k ∧ Post P.G B (fun _ a b => a = b) (fun c d H => P.wx c d z H) s1 Q (.ok k st1) := by
    cases e : w.bool with
    | none => rw [e] at h1; exact h1.elim
    | some k => rw [e] at h1; exact ⟨k, rfl, h1⟩
  obtain rfl := bool_inv e
  cases r1
  exact ⟨k, rfl, h1.pure wd1 rfl⟩
end

/-! the operators -/
def W.ls : W → Option (List D)
  | .val (.lst xs) => some xs
  | .bor xs => some xs
  | _ => none
def addF : W → W → Option W
  | .val (.int i), .val (.int j) => some (.val (.int (i + j)))
  | .val (.str a), .val (.str b) => if a.length + b.length ≤ 1000000 then some (.val (.str (a ++ b))) else none
  | .val (.tup xs), .val (.tup ys) => if xs.length + ys.length ≤ 1000000 then some (.val (.tup (xs ++ ys))) else none
  | x, y => match x.ls, y.ls with
    | some xs, some ys => if xs.length + ys.length ≤ 1000000 then some (.val (.lst (xs ++ ys))) else none
    | _, _ => none
theorem ls_ok {G : G3} {X : Hex} {B : Addr → Prop} {s : S3} {st : Store} {w : W} {v : V} {xs : List D} (wd : Wd G B st s) (r : RepW G X B s w v) (e : w.ls = some xs) : ∃ p vs, v = .ref p ∧ s.H p = some (.lst vs) ∧ RepL G.K s.F s.io xs vs := by
  cases w with
  | val d =>
    cases d with
    | lst ys => cases e; cases r with | lst h r => exact ⟨_, _, rfl, wd.sub _ _ h, r⟩
    | _ => cases e
  | bor ys => cases e; obtain ⟨p, vs, rfl, b, h, r⟩ := r; exact ⟨p, vs, rfl, h, r⟩
  | _ => cases e
section
variable {P : P3}
theorem om_add : OpM P (binaryOp .Add) addF := by
  refine ⟨_, op_add.or (op_add_str.or (op_catZ.or op_cat)), fun B s st w1 w2 w v1 v2 Q wd r1 r2 e k => ?_⟩
  unfold addF at e
  split at e
  · cases e; cases r1; cases r2; exact .inl ⟨_, _, rfl, rfl, k s _ (Le.refl _) wd .int⟩
  · split at e
    · rename_i hz
      cases e; cases r1; cases r2
      exact .inr (.inl ⟨_, _, rfl, rfl, szL hz, k s _ (Le.refl _) wd .str⟩)
    · cases e
  · split at e
    · rename_i xs ys hz
      cases e
      cases r1 with
      | tup s1 q1 =>
        cases r2 with
        | tup s2 q2 =>
          have hs := wd.sub
          refine .inr (.inr (.inl ⟨_, _, _, _, rfl, rfl, (s1.mono hs).sq, (s2.mono hs).sq, by rw [← q1.length, ← q2.length]; exact szL hz, fun z => ?_, fun z1 z2 => ?_, fun z1 z2 => ?_⟩))
          · subst z
            cases q1
            exact k s _ (Le.refl _) wd (.tup s2 q2)
          · subst z2
            cases q2
            rw [List.append_nil] at k
            exact k s _ (Le.refl _) wd (.tup s1 q1)
          · exact wd.newT (q1.append q2) fun s' v l w r => k s' v l w r
    · cases e
  · split at e
    · rename_i e1 e2
      obtain ⟨p, vs, rfl, hp, rp⟩ := ls_ok wd r1 e1
      obtain ⟨q, us, rfl, hq, rq⟩ := ls_ok wd r2 e2
      split at e
      · rename_i hz
        cases e
        refine Or.inr (Or.inr (Or.inr ⟨p, q, vs, us, rfl, rfl, hp, hq, by rw [← rp.length, ← rq.length]; exact szL hz, fun l hl => ?_⟩))
        obtain ⟨wd2, l2⟩ := wd.froz hl (.lst (vs ++ us))
        exact k _ _ l2 wd2 (.lst upd_same ((rp.append rq).mono l2.fr l2.io))
      · cases e
    · cases e

/-! whole numbers -/
def intF (C : Int → Int → Bool) (f : Int → Int → D) : W → W → Option W
  | .val (.int i), .val (.int j) => if C i j = true then some (.val (f i j)) else none
  | _, _ => none
theorem om_int {f : Value → Value → Sem Value} {C : Int → Int → Prop} {Cb : Int → Int → Bool} {g : Int → Int → V} {gd : Int → Int → D} (h : OpR P.X f (rI C g)) (hC : ∀ i j, Cb i j = true → C i j) (hg : ∀ i j K F io, Rep K F io (gd i j) (g i j)) : OpM P f (intF Cb gd) := by
  refine ⟨_, h, fun B s st w1 w2 w v1 v2 Q wd r1 r2 e k => ?_⟩
  unfold intF at e
  split at e
  · split at e
    · rename_i hc
      cases e; cases r1; cases r2
      exact ⟨_, _, rfl, rfl, hC _ _ hc, k s _ (Le.refl _) wd (hg _ _ _ _ _)⟩
    · cases e
  · cases e
theorem om_int0 {f : Value → Value → Sem Value} {g : Int → Int → V} {gd : Int → Int → D} (h : OpR P.X f (rI0 g)) (hg : ∀ i j K F io, Rep K F io (gd i j) (g i j)) : OpM P f (intF (fun _ _ => true) gd) := by
  refine ⟨_, h, fun B s st w1 w2 w v1 v2 Q wd r1 r2 e k => ?_⟩
  unfold intF at e
  split at e
  · rw [if_pos rfl] at e
    cases e; cases r1; cases r2
    exact ⟨_, _, rfl, rfl, k s _ (Le.refl _) wd (hg _ _ _ _ _)⟩
  · cases e
def subF : W → W → Option W := intF (fun _ _ => true) fun i j => .int (i - j)
def modF : W → W → Option W := intF (fun _ j => decide (0 < j)) fun i j => .int (i % j)
def divF : W → W → Option W := intF (fun _ j => decide (0 < j ∧ j < 1073741824)) fun i j => .int (i / j)
def powF : W → W → Option W := intF (fun i j => decide (0 ≤ j ∧ j ≤ 1000 ∧ i.natAbs < 1000000)) fun i j => .int (i ^ j.toNat)
def ltF : W → W → Option W := intF (fun _ _ => true) fun i j => .bl (decide (i < j))
def leF : W → W → Option W := intF (fun _ _ => true) fun i j => .bl (decide (i ≤ j))
def gtF : W → W → Option W := intF (fun _ _ => true) fun i j => .bl (decide (j < i))
def geF : W → W → Option W := intF (fun _ _ => true) fun i j => .bl (decide (j ≤ i))
theorem om_sub : OpM P (binaryOp .Sub) subF := om_int0 op_sub fun _ _ _ _ _ => .int
theorem om_mod : OpM P (binaryOp .Mod) modF := om_int op_mod (fun i j h => of_decide_eq_true h) fun _ _ _ _ _ => .int
theorem om_div : OpM P (binaryOp .FloorDiv) divF := om_int op_fdiv (fun i j h => of_decide_eq_true (p := 0 < j ∧ j < 1073741824) h) fun _ _ _ _ _ => .int
theorem om_pow : OpM P (binaryOp .Pow) powF := om_int op_pow (fun i j h => by have := of_decide_eq_true (p := 0 ≤ j ∧ j ≤ 1000 ∧ i.natAbs < 1000000) h; exact ⟨this.1, by omega, by omega⟩) fun _ _ _ _ _ => .int
theorem om_lt : OpM P (compareOp .Lt) ltF := om_int0 op_lt fun _ _ _ _ _ => .bl
theorem om_le : OpM P (compareOp .LtE) leF := om_int0 op_le fun _ _ _ _ _ => .bl
theorem om_gt : OpM P (compareOp .Gt) gtF := om_int0 op_gt fun _ _ _ _ _ => .bl
theorem om_ge : OpM P (compareOp .GtE) geF := om_int0 op_ge fun _ _ _ _ _ => .bl

/-- * of great numbers; a text times a number -/
def mulC (i j : Int) : Bool := decide (i.natAbs.log2 + j.natAbs.log2 < 100000000)
def MulS (x : Str) (n : Int) : Bool := decide (0 ≤ n ∧ n ≤ 1000 ∧ x.length ≤ 1000)
def mulF : W → W → Option W
  | .val (.int i), .val (.int j) => if mulC i j = true then some (.val (.int (i * j))) else none
  | .val (.str x), .val (.int j) => if MulS x j = true then some (.val (.str (Txt.mul x j))) else none
  | _, _ => none
/-- as the model counts bits -/
theorem bits_log (x : Int) : Builtin.Int.intBits x ≤ x.natAbs.log2 + 1 := by simp only [Builtin.Int.intBits]; split <;> omega
theorem line_bits : bitsLine = 2 ^ 27 := by decide
theorem mulC_ok {i j : Int} (h : mulC i j = true) : IntMulOk i j := fun big => by
  have few : i.natAbs.log2 + j.natAbs.log2 < 100000000 := of_decide_eq_true h
  have far := of_decide_eq_true (show decide _ = true from ((Bool.and_eq_true _ _).mp big).2)
  have li := bits_log i
  have lj := bits_log j
  simp only [line_bits] at far
  omega
theorem MulS_ok {x : Str} {n : Int} (h : MulS x n = true) : MulOk x n := by
  obtain ⟨h0, h1, h2⟩ := of_decide_eq_true h
  refine ⟨?_, fun hn _ => ?_, fun hn _ => ?_⟩
  · rw [Bool.or_eq_false_iff]
    exact ⟨decide_eq_false (by omega), decide_eq_false (by omega)⟩
  · intro z
    have : (1000 : Int) ≤ (2 ^ 63 - 1) / n := by
      rw [Int.le_ediv_iff_mul_le (by omega)]
      omega
    omega
  · have long : x.length * n.toNat ≤ 1000 * 1000 := Nat.mul_le_mul h2 (by omega)
    have line := szL (n := 1000 * 1000) (by decide)
    unfold Builtin.Str.tooLong
    exact decide_eq_false fun q => by omega
theorem om_mul : OpM P (binaryOp .Mult) mulF := by
  have hI : OpR P.X (binaryOp .Mult) (rI (fun i j => IntMulOk i j) fun i j => .int (i * j)) := opI fun _ _ _ _ _ _ _ hc q => mul_int q hc
  have hS : OpR P.X (binaryOp .Mult) (fun x y H Q => ∃ a n, x = .str a ∧ y = .int n ∧ MulOk a n ∧ Q (.str (Txt.mul a n)) H) := by
    intro pins s z H x y v u Q I rx ry h
    obtain ⟨a, n, rfl, rfl, hm, q⟩ := h
    obtain ⟨t, rfl⟩ := rx
    obtain ⟨t2, rfl⟩ := ry
    exact SB.mul hm fun t' k => ⟨.str (Txt.mul a n), H, I.tok _, ⟨_, rfl⟩, q⟩
  refine ⟨_, hI.or hS, fun B s st w1 w2 w v1 v2 Q wd r1 r2 e k => ?_⟩
  unfold mulF at e
  split at e
  · split at e
    · rename_i hc
      cases e; cases r1; cases r2
      exact .inl ⟨_, _, rfl, rfl, mulC_ok hc, k s _ (Le.refl _) wd .int⟩
    · cases e
  · split at e
    · rename_i hc
      cases e; cases r1; cases r2
      exact .inr ⟨_, _, rfl, rfl, MulS_ok hc, k s _ (Le.refl _) wd .str⟩
    · cases e
  · cases e

/-! == of data at any depth -/
mutual
def D.py : D → Option PyData
  | .non => some .none
  | .bl b => some (.bool b)
  | .int i => some (.int i)
  | .str x => some (.str x)
  | .tup xs => (D.pys xs).map .tuple
  | .lst xs => (D.pys xs).map .list
  | .ro xs => (D.pys xs).map .list
  | .ctup xs => (D.pys xs).map .tuple
  | .ty _ => none
  | .ref _ => none
  | .dict _ _ => none
  | .dicT _ _ => none
def D.pys : List D → Option (List PyData)
  | [] => some []
  | d :: ds => match D.py d, D.pys ds with
    | some x, some xs => some (x :: xs)
    | _, _ => none
end
section
variable {K : PySem.W.Frag} {F : Hp} {io : Io}
mutual
theorem py_ok : ∀ {d : D} {v : V} {x : PyData}, Rep K F io d v → d.py = some x → Dp K F v x
  | _, _, _, .non, e => by rw [D.py] at e; cases e; exact .non
  | _, _, _, .bl, e => by rw [D.py] at e; cases e; exact .bl _
  | _, _, _, .int, e => by rw [D.py] at e; cases e; exact .int _
  | _, _, _, .str, e => by rw [D.py] at e; cases e; exact .str _
  | _, _, _, .ty, e => by rw [D.py] at e; cases e
  | _, _, _, .ref _, e => by rw [D.py] at e; cases e
  | _, _, _, .dict _ _ _, e => by rw [D.py] at e; cases e
  | _, _, _, .dicT _ _ _, e => by rw [D.py] at e; cases e
  | .tup xs, _, x, .tup s r, e => by
    rw [D.py] at e
    cases h : D.pys xs with
    | none => rw [h] at e; cases e
    | some ys => rw [h] at e; cases e; exact .tup s.sq (pys_ok r h)
  | .ctup xs, _, x, .ctup s r, e => by
    rw [D.py] at e
    cases h : D.pys xs with
    | none => rw [h] at e; cases e
    | some ys => rw [h] at e; cases e; exact .tup s (pys_ok r h)
  | .lst xs, _, x, .lst s r, e => by
    rw [D.py] at e
    cases h : D.pys xs with
    | none => rw [h] at e; cases e
    | some ys => rw [h] at e; cases e; exact .lst (.inl (.inl s)) (pys_ok r h)
  | .ro xs, _, x, .ro s r, e => by
    rw [D.py] at e
    cases h : D.pys xs with
    | none => rw [h] at e; cases e
    | some ys => rw [h] at e; cases e; exact .lst s (pys_ok r h)
theorem pys_ok : ∀ {ds : List D} {vs : List V} {xs : List PyData}, RepL K F io ds vs → D.pys ds = some xs → DpAll K F vs xs
  | _, _, _, .nil, e => by rw [D.pys] at e; cases e; exact .nil
  | d :: ds, _, xs, .cons r t, e => by
    rw [D.pys] at e
    cases h : D.py d with
    | none => rw [h] at e; cases e
    | some x =>
      cases h2 : D.pys ds with
      | none => rw [h, h2] at e; cases e
      | some ys => rw [h, h2] at e; cases e; exact .cons (py_ok r h) (pys_ok t h2)
end
end
/-- what == says: none if it is not asked of such data here -/
def D.eqv? (a b : D) : Option Bool := match a.py, b.py with
  | some x, some y => if SeqAt.shaped x = true ∧ SeqAt.shaped y = true then some (PyData.eqv x y) else none
  | _, _ => none
def eqF (neg : Bool) (x y : W) : Option W := match x.rd, y.rd with
  | some a, some b => (a.eqv? b).map fun k => .val (.bl (if neg then !k else k))
  | _, _ => none
theorem eqv_of {a b : D} {k : Bool} (h : a.eqv? b = some k) : ∃ x y, a.py = some x ∧ b.py = some y ∧ SeqAt.shaped x = true ∧ SeqAt.shaped y = true ∧ k = PyData.eqv x y := by
  unfold D.eqv? at h
  split at h
  · rename_i x y e1 e2
    split at h
    · rename_i hs
      cases h
      exact ⟨x, y, e1, e2, hs.1, hs.2, rfl⟩
    · cases h
  · cases h
theorem eqF_ok {B : Addr → Prop} {s : S3} {st : Store} {w1 w2 w : W} {v1 v2 : V} {neg : Bool} (wd : Wd P.G B st s) (r1 : RepW P.G P.hx B s w1 v1) (r2 : RepW P.G P.hx B s w2 v2) (e : eqF neg w1 w2 = some w) :
    ∃ x y, Dp P.X.K s.H v1 x ∧ Dp P.X.K s.H v2 y ∧ SeqAt.shaped x = true ∧ SeqAt.shaped y = true ∧ w = .val (.bl (if neg then !PyData.eqv x y else PyData.eqv x y)) := by
  unfold eqF at e
  split at e
  · rename_i a b e1 e2
    cases h : a.eqv? b with
    | none => rw [h] at e; cases e
    | some k =>
      rw [h] at e
      cases e
      obtain ⟨x, y, p1, p2, q1, q2, rfl⟩ := eqv_of h
      rw [P.hK]
      exact ⟨x, y, py_ok (rd_ok wd r1 e1) p1, py_ok (rd_ok wd r2 e2) p2, q1, q2, rfl⟩
  · cases e
theorem om_eq (hu : P.X.A.units + 64 < cLine) : OpM P (compareOp .Eq) (eqF false) := by
  refine ⟨_, op_eqD hu, fun B s st w1 w2 w v1 v2 Q wd r1 r2 e k => ?_⟩
  obtain ⟨x, y, h1, h2, s1, s2, rfl⟩ := eqF_ok wd r1 r2 e
  exact ⟨x, y, h1, h2, s1, s2, k s _ (Le.refl _) wd .bl⟩
theorem om_ne (hu : P.X.A.units + 64 < cLine) : OpM P (compareOp .NotEq) (eqF true) := by
  refine ⟨_, op_neD hu, fun B s st w1 w2 w v1 v2 Q wd r1 r2 e k => ?_⟩
  obtain ⟨x, y, h1, h2, s1, s2, rfl⟩ := eqF_ok wd r1 r2 e
  exact ⟨x, y, h1, h2, s1, s2, k s _ (Le.refl _) wd .bl⟩
/-! is None -/
def isNF (neg : Bool) : W → W → Option W
  | .val d, .val .non => some (.val (.bl (match d with | .non => !neg | _ => neg)))
  | .bor _, .val .non => some (.val (.bl neg))
  | .exn _ _, .val .non => some (.val (.bl neg))
  | _, _ => none
theorem isNF_ok {B : Addr → Prop} {s : S3} {w1 w2 w : W} {v1 v2 : V} {neg : Bool} (r1 : RepW P.G P.hx B s w1 v1) (r2 : RepW P.G P.hx B s w2 v2) (e : isNF neg w1 w2 = some w) : v2 = .non ∧ w = .val (.bl (if neg then !decide (v1 = .non) else decide (v1 = .non))) := by
  unfold isNF at e
  split at e
  · cases e
    cases r2
    refine ⟨rfl, ?_⟩
    rename_i d
    cases r1 <;> cases neg <;> simp
  · cases e
    cases r2
    refine ⟨rfl, ?_⟩
    obtain ⟨p, vs, rfl, _⟩ := r1
    cases neg <;> simp
  · cases e
    cases r2
    refine ⟨rfl, ?_⟩
    obtain ⟨a, _, rfl⟩ := r1
    cases neg <;> simp
  · cases e
theorem om_is : OpM P (compareOp .Is) (isNF false) := by
  refine ⟨_, op_isN, fun B s st w1 w2 w v1 v2 Q wd r1 r2 e k => ?_⟩
  obtain ⟨h1, rfl⟩ := isNF_ok r1 r2 e
  exact ⟨h1, k s _ (Le.refl _) wd .bl⟩
theorem om_isnot : OpM P (compareOp .IsNot) (isNF true) := by
  refine ⟨_, op_notN, fun B s st w1 w2 w v1 v2 Q wd r1 r2 e k => ?_⟩
  obtain ⟨h1, rfl⟩ := isNF_ok r1 r2 e
  exact ⟨h1, k s _ (Le.refl _) wd .bl⟩
end
end M3


namespace M3
open PySem PySem.Spec PyProof.Rows L2

/-! ### truth -/
def D.tru : D → Option Bool
  | .non => some false
  | .bl b => some b
  | .int i => some (i != 0)
  | .str y => if y.length ≤ 1000000 then some (y.length != 0) else none
  | .tup xs => some (!xs.isEmpty)
  | .ctup xs => some (!xs.isEmpty)
  | .lst xs => some (!xs.isEmpty)
  | .ro xs => some (!xs.isEmpty)
  | _ => none
def W.tru (w : W) : Option Bool := w.rd.bind D.tru
theorem isEmpty_repL {K : PySem.W.Frag} {F : Hp} {io : Io} {xs : List D} {vs : List V} (r : RepL K F io xs vs) : xs.isEmpty = vs.isEmpty := by cases r <;> rfl
theorem tru_rep {K : PySem.W.Frag} {F : Hp} {io : Io} {d : D} {v : V} {k : Bool} (r : Rep K F io d v) (e : d.tru = some k) : TruV K v F k := by
  cases r with
  | non => cases e; rfl
  | bl => cases e; rfl
  | int => cases e; rfl
  | @str x =>
    have e : (if x.length ≤ 1000000 then some (x.length != 0) else none) = some k := e
    split at e
    · rename_i hl
      cases e
      refine ⟨szL hl, ?_⟩
      cases hx : x.length with
      | zero => rfl
      | succ n => rfl
    · cases e
  | ty => cases e
  | tup s q => cases e; exact .inr (.inl ⟨_, s.sq, by rw [isEmpty_repL q]⟩)
  | ctup s q => cases e; exact .inr (.inl ⟨_, s, by rw [isEmpty_repL q]⟩)
  | lst s q => cases e; exact .inl ⟨_, .inl (.inl s), by rw [isEmpty_repL q]⟩
  | ro s q => cases e; exact .inl ⟨_, s, by rw [isEmpty_repL q]⟩
  | _ => cases e
theorem tru_ok3 {P : P3} {B : Addr → Prop} {s : S3} {st : Store} {w : W} {v : V} {k : Bool} (wd : Wd P.G B st s) (r : RepW P.G P.hx B s w v) (e : w.tru = some k) : TruV P.X.K v s.H k := by
  unfold W.tru at e
  cases h : w.rd with
  | none => rw [h] at e; cases e
  | some d => rw [h] at e; rw [P.hK]; exact tru_rep (rd_ok wd r h) e
def tTru (m : EM) : TM := fun u => M.bind (m u) fun w => M.of w.tru
section
variable {P : P3} {pos : Pos} {a b c : Expr} {rest : List Expr} {ma mb mc : EM}
theorem of_eq {α : Type} {o : Option α} {st : Store} {G : G3} {B : Addr → Prop} {β : Type} {R : S3 → α → β → Prop} {E : XK} {s : S3} {Q : β → Hp → Prop} (h : Post G B R E s Q (M.of o st)) : ∃ x, o = some x ∧ Post G B R E s Q (.ok x st) := by
  cases o with
  | none => exact h.elim
  | some x => exact ⟨x, rfl, h⟩
theorem mt_tru (ha : ME P a ma) (he : ∀ whole, isTrue a P.X.env whole = (do let v ← whole; standAt a.pos; holding [v] (truthy v)) := by intro _; rfl) : MT P a (tTru ma) := by
  obtain ⟨ta, pa, ha⟩ := ha.out
  refine MT.mk' (pt_truth pa he) fun B0 B s st u z Q wd sl hp => ha B0 B s st u z _ wd sl (Post.bind hp fun w st1 s1 v l1 wd1 r1 h1 => ?_)
  obtain ⟨k, e, h1⟩ := of_eq h1
  exact ⟨k, tru_ok3 wd1 r1 e, h1.pure wd1 rfl⟩
/-! and, or, not as values -/
def eAnd (a b : EM) : EM := fun u => M.bind (a u) fun w => M.bind (M.of w.tru) fun k => if k = true then b u else M.pure w
def eOr (a b : EM) : EM := fun u => M.bind (a u) fun w => M.bind (M.of w.tru) fun k => if k = true then M.pure w else b u
def eNot (a : EM) : EM := fun u => M.bind (a u) fun w => M.bind (M.of w.tru) fun k => M.pure (.val (.bl (!k)))
theorem me_one {op} (ha : ME P a ma) : ME P (.BoolOp op [a] pos) ma := ⟨pe_one ha.pe⟩
theorem me_and (ha : ME P a ma) (hb : ME P (.BoolOp .And (b :: rest) pos) mb) : ME P (.BoolOp .And (a :: b :: rest) pos) (eAnd ma mb) := by
  obtain ⟨ta, pa, ha⟩ := ha.out
  obtain ⟨tb, pb, hb⟩ := hb.out
  refine ME.mk' (pe_andT pa pb) fun B0 B s st u z Q wd sl hp => ha B0 B s st u z _ wd sl (Post.bind hp fun w st1 s1 v l1 wd1 r1 h1 => ?_)
  obtain ⟨k, e, h1⟩ := Post.of_of h1
  refine ⟨k, tru_ok3 wd1 r1 e, ?_⟩
  cases k with
  | true => exact hb B0 B s1 st1 u z Q wd1 (sl.mono l1) h1
  | false => exact h1.pure wd1 r1
theorem me_or (ha : ME P a ma) (hb : ME P (.BoolOp .Or (b :: rest) pos) mb) : ME P (.BoolOp .Or (a :: b :: rest) pos) (eOr ma mb) := by
  obtain ⟨ta, pa, ha⟩ := ha.out
  obtain ⟨tb, pb, hb⟩ := hb.out
  refine ME.mk' (pe_orT pa pb) fun B0 B s st u z Q wd sl hp => ha B0 B s st u z _ wd sl (Post.bind hp fun w st1 s1 v l1 wd1 r1 h1 => ?_)
  obtain ⟨k, e, h1⟩ := Post.of_of h1
  refine ⟨k, tru_ok3 wd1 r1 e, ?_⟩
  cases k with
  | true => exact h1.pure wd1 r1
  | false => exact hb B0 B s1 st1 u z Q wd1 (sl.mono l1) h1
theorem me_not (ha : ME P a ma) : ME P (.UnaryOp .Not a pos) (eNot ma) := by
  obtain ⟨ta, pa, ha⟩ := ha.out
  refine ME.mk' (pe_notT pa) fun B0 B s st u z Q wd sl hp => ha B0 B s st u z _ wd sl (Post.bind hp fun w st1 s1 v l1 wd1 r1 h1 => ?_)
  obtain ⟨k, e, h1⟩ := Post.of_of h1
  exact ⟨k, tru_ok3 wd1 r1 e, h1.pure wd1 .bl⟩
/-! and, or, not as tests -/
def tAnd3 (a b : TM) : TM := fun u => M.bind (a u) fun k => if k = true then b u else M.pure false
def tOr3 (a b : TM) : TM := fun u => M.bind (a u) fun k => if k = true then M.pure true else b u
def tNot3 (a : TM) : TM := fun u => M.bind (a u) fun k => M.pure (!k)
variable {na nb : TM}
theorem mw_and1 (ha : MT P a na) : MW P (.BoolOp .And [a] pos) na := ⟨pw_and1 ha.pt⟩
theorem mw_or1 (ha : MT P a na) : MW P (.BoolOp .Or [a] pos) na := ⟨pw_or1 ha.pt⟩
theorem mw_and (ha : MT P a na) (hb : MW P (.BoolOp .And (b :: rest) pos) nb) : MW P (.BoolOp .And (a :: b :: rest) pos) (tAnd3 na nb) := by
  obtain ⟨ta, pa, ha⟩ := ha.out
  obtain ⟨tb, pb, hb⟩ := hb.out
  refine MW.mk' (pw_and pa pb) fun B0 B s st u z Q wd sl hp => ha B0 B s st u z _ wd sl (Post.bind hp fun k st1 s1 k' l1 wd1 r1 h1 => ?_)
  subst r1
  cases k with
  | true => exact hb B0 B s1 st1 u z Q wd1 (sl.mono l1) h1
  | false => exact h1.pure wd1 rfl
theorem mw_or (ha : MT P a na) (hb : MW P (.BoolOp .Or (b :: rest) pos) nb) : MW P (.BoolOp .Or (a :: b :: rest) pos) (tOr3 na nb) := by
  obtain ⟨ta, pa, ha⟩ := ha.out
  obtain ⟨tb, pb, hb⟩ := hb.out
  refine MW.mk' (pw_or pa pb) fun B0 B s st u z Q wd sl hp => ha B0 B s st u z _ wd sl (Post.bind hp fun k st1 s1 k' l1 wd1 r1 h1 => ?_)
  subst r1
  cases k with
  | true => exact h1.pure wd1 rfl
  | false => exact hb B0 B s1 st1 u z Q wd1 (sl.mono l1) h1
theorem mt_w (h : MW P a na) : MT P a na := ⟨h.pw.pt⟩
theorem mt_not (ha : MT P a na) : MT P (.UnaryOp .Not a pos) (tNot3 na) := by
  obtain ⟨ta, pa, ha⟩ := ha.out
  refine MT.mk' (pt_not pa) fun B0 B s st u z Q wd sl hp => ha B0 B s st u z _ wd sl (Post.bind hp fun k st1 s1 k' l1 wd1 r1 h1 => ?_)
  subst r1
  exact h1.pure wd1 rfl
/-! a op b op c -/
def eChain (g g' : W → W → Option W) (a b c : EM) : EM := fun u => M.bind (a u) fun x => M.bind (b u) fun y => M.bind (M.of (g x y)) fun k => M.bind (M.of k.bool) fun k => if k = true then M.bind (c u) fun w => M.of (g' y w) else M.pure (.val (.bl false))
theorem bool_ok {G : G3} {X : Hex} {B : Addr → Prop} {s : S3} {w : W} {v : V} {k : Bool} (r : RepW G X B s w v) (e : w.bool = some k) : v = .bl k := by
  obtain rfl := bool_inv e
  cases r
  rfl
theorem me_chain {op op' : CmpOp} {g g' : W → W → Option W} (h : OpM P (compareOp op) g) (h' : OpM P (compareOp op') g') (ha : ME P a ma) (hb : ME P b mb) (hc : ME P c mc)
    (hm : lastMarks [op, op'] [b, c] = false := by with_unfolding_all rfl) : ME P (.Compare a [op, op'] [b, c] pos) (eChain g g' ma mb mc) := by
  obtain ⟨ta, pa, ha⟩ := ha.out
  obtain ⟨tb, pb, hb⟩ := hb.out
  obtain ⟨tc, pc, hc⟩ := hc.out
  obtain ⟨r, hr, hq⟩ := h
  obtain ⟨r', hr', hq'⟩ := h'
  refine ME.mk' (pe_chain hr hr' pa pb pc hm) fun B0 B s st u z Q wd sl hp => ha B0 B s st u z _ wd sl (Post.bind hp fun w1 st1 s1 v1 l1 wd1 r1 h1 => ?_)
  refine hb B0 B s1 st1 u z _ wd1 (sl.mono l1) (Post.bind h1 fun w2 st2 s2 v2 l2 wd2 r2 h2 => ?_)
  obtain ⟨w, e, h2⟩ := Post.of_of h2
  refine hq B s2 st2 w1 w2 w v1 v2 _ wd2 (r1.mono l2) r2 e fun s3 v l3 wd3 r3 => ?_
  obtain ⟨k, e2, h3⟩ := Post.of_of h2
  refine ⟨k, bool_ok r3 e2, ?_⟩
  cases k with
  | true =>
    rw [if_pos rfl]
    refine hc B0 B s3 st2 u z _ wd3 (sl.mono ((l1.trans l2).trans l3)) (Post.bind (Post.mono l3 h3) fun w4 st4 s4 v4 l4 wd4 r4 h4 => ?_)
    obtain ⟨w5, e5, h4⟩ := of_eq h4
    exact hq' B s4 st4 w2 w4 w5 v2 v4 Q wd4 ((r2.mono l3).mono l4) r4 e5 fun s5 v5 l5 wd5 r5 => h4 s5 v5 l5 wd5 r5
  | false =>
    rw [if_neg Bool.false_ne_true]
    exact (Post.mono l3 h3).pure wd3 .bl
/-! if as an expression -/
def eIf (t : TM) (a b : EM) : EM := fun u => M.bind (t u) fun k => if k = true then a u else b u
theorem me_if (hc : MT P c na) (ha : ME P a ma) (hb : ME P b mb) : ME P (.IfExp c a b pos) (eIf na ma mb) := by
  obtain ⟨tc, pc, hc⟩ := hc.out
  obtain ⟨ta, pa, ha⟩ := ha.out
  obtain ⟨tb, pb, hb⟩ := hb.out
  refine ME.mk' (pe_ifExp pc pa pb) fun B0 B s st u z Q wd sl hp => hc B0 B s st u z _ wd sl (Post.bind hp fun k st1 s1 k' l1 wd1 r1 h1 => ?_)
  subst r1
  cases k with
  | true => exact ha B0 B s1 st1 u z Q wd1 (sl.mono l1) h1
  | false => exact hb B0 B s1 st1 u z Q wd1 (sl.mono l1) h1
end

/-! ### subscripts -/
def D.items : D → Option (List D)
  | .tup xs => some xs
  | .ctup xs => some xs
  | .lst xs => some xs
  | .ro xs => some xs
  | _ => none
def ixF (x y : W) : Option W := match x, y with
  | .val (.str z), .val (.int i) => if z.length ≤ 1000000 then (atI z.cps.toList i).map fun c => .val (.str ⟨#[c]⟩) else none
  | x, .val (.int i) => (x.rd.bind D.items).bind fun xs => (atI xs i).map .val
  | _, _ => none
theorem atI_rep {K : PySem.W.Frag} {F : Hp} {io : Io} {xs : List D} {vs : List V} {i : Int} {d : D} (r : RepL K F io xs vs) (e : atI xs i = some d) : ∃ v, atI vs i = some v ∧ Rep K F io d v := by
  unfold atI at e ⊢
  rw [r.length] at e
  cases h : ixN vs.length i with
  | none => rw [h] at e; cases e
  | some j => rw [h] at e; exact r.get e
section
variable {P : P3} {pos : Pos} {a b : Expr} {ma mb : EM}
/-- the items of a list or tuple that is read: as they stand in the whole heap, each as data that never changes -/
theorem items_ok {B : Addr → Prop} {s : S3} {st : Store} {w : W} {v : V} {d : D} {xs : List D} (wd : Wd P.G B st s) (r : RepW P.G P.hx B s w v) (e : w.rd = some d) (e2 : d.items = some xs) :
    ∃ p vs, v = .ref p ∧ (SqL P.X.K s.H p vs ∨ SqT P.X.K s.H p vs) ∧ RepL P.G.K s.F s.io xs vs := by
  rw [P.hK]
  cases w with
  | val d' =>
    cases e
    cases r with
    | tup h q => cases e2; exact ⟨_, _, rfl, .inr (h.mono wd.sub).sq, q⟩
    | ctup h q => cases e2; exact ⟨_, _, rfl, .inr (same_sqT wd.sub h), q⟩
    | lst h q => cases e2; exact ⟨_, _, rfl, .inl (.inl (.inl (wd.sub _ _ h))), q⟩
    | ro h q => cases e2; exact ⟨_, _, rfl, .inl (same_sqL wd.sub h), q⟩
    | _ => cases e2
  | bor ys => cases e; cases e2; obtain ⟨p, vs, rfl, b, h, r⟩ := r; exact ⟨p, vs, rfl, .inl (.inl (.inl h)), r⟩
  | bod ks us => cases e
  | boT ks us => cases e
  | exn c x => cases e
theorem me_ix (ha : ME P a ma) (hb : ME P b mb) (hs : PlainIx b := by first | exact fun _ _ => rfl | (intro _ _; rfl)) : ME P (.Subscript a b pos) (eBin ixF ma mb) := by
  obtain ⟨ta, pa, ha⟩ := ha.out
  obtain ⟨tb, pb, hb⟩ := hb.out
  refine ME.mk' (pe_ix ix_seq pa pb hs) fun B0 B s st u z Q wd sl hp => ha B0 B s st u z _ wd sl (Post.bind hp fun w1 st1 s1 v1 l1 wd1 r1 h1 => ?_)
  refine hb B0 B s1 st1 u z _ wd1 (sl.mono l1) (Post.bind h1 fun w2 st2 s2 v2 l2 wd2 r2 h2 => ?_)
  obtain ⟨w, e, h2⟩ := of_eq h2
  have r1 := r1.mono l2
  unfold ixF at e
  split at e
  · split at e
    · rename_i hz
      cases r1; cases r2
      rename_i zs i
      cases h : atI zs.cps.toList i with
      | none => rw [h] at e; cases e
      | some c => rw [h] at e; cases e; exact .inr (.inr ⟨zs, i, c, rfl, rfl, szL hz, h, h2.pure wd2 .str⟩)
    · cases e
  · rename_i i _
    cases r2
    cases h3 : w1.rd with
    | none => rw [h3] at e; cases e
    | some d =>
      rw [h3] at e
      cases h4 : d.items with
      | none => rw [Option.bind_some, h4] at e; cases e
      | some xs =>
        rw [Option.bind_some, h4, Option.bind_some] at e
        cases h5 : atI xs i with
        | none => rw [h5] at e; cases e
        | some d' =>
          rw [h5] at e
          cases e
          obtain ⟨p, vs, rfl, hq, rl⟩ := items_ok wd2 r1 h3 h4
          obtain ⟨v, e6, rv⟩ := atI_rep rl h5
          rcases hq with hq | hq
          · exact .inl ⟨p, vs, i, v, rfl, rfl, hq, e6, h2.pure wd2 rv⟩
          · exact .inr (.inl ⟨p, vs, i, v, rfl, rfl, hq, e6, h2.pure wd2 rv⟩)
  · cases e
end
end M3


namespace M3
open PySem PySem.Spec PyProof.Rows L2

/-! ### slots are written -/
section
variable {G : G3} {X : Hex} {B0 B : Addr → Prop} {s : S3} {u : Sl3} {z : L2.St}
theorem get_set {α : Type} {l : List (Option α)} {i j : Nat} {w w' : α} (h : (l.set i (some w))[j]? = some (some w')) : (i = j ∧ w' = w) ∨ (i ≠ j ∧ l[j]? = some (some w')) := by
  by_cases e : i = j
  · subst e
    by_cases hl : i < l.length
    · rw [List.getElem?_set_self hl] at h; cases h; exact .inl ⟨rfl, rfl⟩
    · rw [List.getElem?_eq_none (by simpa using hl)] at h; cases h
  · rw [List.getElem?_set_ne e] at h; exact .inr ⟨e, h⟩
theorem Slo.set {d : D} {v : V} (h : Slo G X B0 B s u z) (r : Rep G.K s.F s.io d v) (i : Nat) : Slo G X B0 B s (u.set i (some (.val d))) (z.set i (some v)) := by
  obtain ⟨hl, ow, h1, h2⟩ := h
  refine ⟨by simpa using hl, ow, fun j w e => ?_, fun j k w w' o1 o2 e1 e2 e => ?_⟩
  · rcases get_set e with ⟨rfl, rfl⟩ | ⟨ne, e⟩
    · have hi : i < u.length := by
        rcases Nat.lt_or_ge i u.length with q | q
        · exact q
        · rw [List.getElem?_eq_none (by simpa using q)] at e; cases e
      exact ⟨v, by rw [List.getElem?_set_self (by omega)], r, fun q => by cases q⟩
    · obtain ⟨v', e1, r', q⟩ := h1 j w e
      exact ⟨v', by rw [List.getElem?_set_ne ne]; exact e1, r', q⟩
  · rcases get_set e1 with ⟨_, q⟩ | ⟨_, e1⟩
    · subst q; cases o1
    · rcases get_set e2 with ⟨_, q⟩ | ⟨_, e2⟩
      · subst q; cases o2
      · exact h2 j k w w' o1 o2 e1 e2 e
theorem Slo.del (h : Slo G X B0 B s u z) (i : Nat) (o : Option V) : Slo G X B0 B s (u.set i none) (z.set i o) := by
  obtain ⟨hl, ow, h1, h2⟩ := h
  have old : ∀ {j : Nat} {w : M3.W}, (u.set i none)[j]? = some (some w) → i ≠ j ∧ u[j]? = some (some w) := fun {j w} e => by
    by_cases q : i = j
    · subst q
      by_cases hl : i < u.length
      · rw [List.getElem?_set_self hl] at e; cases e
      · rw [List.getElem?_eq_none (by simpa using hl)] at e; cases e
    · rw [List.getElem?_set_ne q] at e; exact ⟨q, e⟩
  refine ⟨by simpa using hl, ow, fun j w e => ?_, fun j k w w' o1 o2 e1 e2 e => h2 j k w w' o1 o2 (old e1).2 (old e2).2 e⟩
  obtain ⟨ne, e⟩ := old e
  obtain ⟨v', e1, r', q⟩ := h1 j w e
  exact ⟨v', by rw [List.getElem?_set_ne ne]; exact e1, r', q⟩
theorem RepW.wider {B' : Addr → Prop} (hb : ∀ a, B a → B' a) {w : M3.W} {v : V} (r : RepW G X B s w v) : RepW G X B' s w v := by
  cases w with
  | val d => exact r
  | bor xs => obtain ⟨p, vs, e, b, h, r⟩ := r; exact ⟨p, vs, e, hb p b, h, r⟩
  | bod ks us => obtain ⟨p, vs, e, b, h, r⟩ := r; exact ⟨p, vs, e, hb p b, h, r⟩
  | boT ks us => obtain ⟨p, vs, e, b, h, r⟩ := r; exact ⟨p, vs, e, hb p b, h, r⟩
  | exn c x => exact r
theorem own_ref {w : M3.W} {v : V} (o : w.own = true) (r : RepW G X B s w v) : ∃ p, v = .ref p ∧ B p := by
  cases w with
  | val d => cases o
  | bor xs => obtain ⟨p, vs, e, b, h, r⟩ := r; exact ⟨p, e, b⟩
  | bod ks us => obtain ⟨p, vs, e, b, h, r⟩ := r; exact ⟨p, e, b⟩
  | boT ks us => obtain ⟨p, vs, e, b, h, r⟩ := r; exact ⟨p, e, b⟩
  | exn c x => cases o
/-- slot i takes a thing of one's own -/
theorem Slo.ownW {p : Addr} {w0 : M3.W} (h : Slo G X B0 B s u z) (nb : ¬ B p) (nb0 : ¬ B0 p) (r : RepW G X (plus B p) s w0 (.ref p)) (i : Nat) :
    Slo G X B0 (plus B p) s (u.set i (some w0)) (z.set i (some (.ref p))) := by
  obtain ⟨hl, ow, h1, h2⟩ := h
  have at_ : ∀ {j : Nat} {w : M3.W}, w.own = true → u[j]? = some (some w) → ow j ≠ p := fun {j w} o e q => by
    obtain ⟨v, e1, r, q'⟩ := h1 j _ e
    obtain ⟨p', e2, b⟩ := own_ref o r
    obtain ⟨e3, _⟩ := q' o
    rw [e2] at e3; cases e3
    exact nb (q ▸ b)
  refine ⟨by simpa using hl, fun j => if j = i then p else ow j, fun j w e => ?_, fun j k w w' o1 o2 e1 e2 e => ?_⟩
  · rcases get_set e with ⟨rfl, rfl⟩ | ⟨ne, e⟩
    · have hi : i < u.length := by
        rcases Nat.lt_or_ge i u.length with q | q
        · exact q
        · rw [List.getElem?_eq_none (by simpa using q)] at e; cases e
      exact ⟨.ref p, by rw [List.getElem?_set_self (by omega)], r, fun q => ⟨by simp, by simpa using nb0⟩⟩
    · obtain ⟨v', e1, r', q⟩ := h1 j w e
      exact ⟨v', by rw [List.getElem?_set_ne ne]; exact e1, r'.wider fun a b => .inl b, fun q' => by simp only [Ne.symm ne, if_false]; exact q q'⟩
  · rcases get_set e1 with ⟨rfl, q⟩ | ⟨n1, e1⟩
    · rcases get_set e2 with ⟨rfl, q⟩ | ⟨n2, e2⟩
      · rfl
      · simp only [if_true, Ne.symm n2, if_false] at e
        exact absurd e.symm (at_ o2 e2)
    · rcases get_set e2 with ⟨rfl, q⟩ | ⟨n2, e2⟩
      · simp only [if_true, Ne.symm n1, if_false] at e
        exact absurd e (at_ o1 e1)
      · simp only [Ne.symm n1, Ne.symm n2, if_false] at e
        exact h2 j k w w' o1 o2 e1 e2 e
/-- slot i takes a list of one's own -/
theorem Slo.own {p : Addr} {xs : List D} {vs : List V} (h : Slo G X B0 B s u z) (nb : ¬ B p) (nb0 : ¬ B0 p) (hp : s.H p = some (.lst vs)) (r : RepL G.K s.F s.io xs vs) (i : Nat) :
    Slo G X B0 (plus B p) s (u.set i (some (.bor xs))) (z.set i (some (.ref p))) := h.ownW (w0 := .bor xs) nb nb0 ⟨p, vs, rfl, .inr rfl, hp, r⟩ i
end

/-! ### statements -/
def sNext : SM := fun u st => .nx u st
def sSeq (a b : SM) : SM := fun u st => match a u st with
  | .nx u' st' => b u' st'
  | r => r
def sBreak : SM := fun u st => .bk u st
def sCont : SM := fun u st => .ct u st
def sDrop (m : EM) : SM := fun u st => match m u st with
  | .ok _ st' => .nx u st'
  | .err c x st' => .err c x u st'
  | .bad => .bad
def sRet (m : EM) : SM := fun u st => match m u st with
  | .ok w st' => .rt w st'
  | .err c x st' => .err c x u st'
  | .bad => .bad
def sRetN : SM := fun _ st => .rt (.val .non) st
def sSet (i : Nat) (m : EM) : SM := fun u st => match m u st with
  | .ok (.val d) st' => .nx (u.set i (some (.val d))) st'
  | .ok _ _ => .bad
  | .err c x st' => .err c x u st'
  | .bad => .bad
def sOwn (i : Nat) (m : FM) : SM := fun u st => match m u st with
  | .ok xs st' => .nx (u.set i (some (.bor xs))) st'
  | .err c x st' => .err c x u st'
  | .bad => .bad
def sIf (c : TM) (a b : SM) : SM := fun u st => match c u st with
  | .ok true st' => a u st'
  | .ok false st' => b u st'
  | .err c x st' => .err c x u st'
  | .bad => .bad
section
variable {P : P3} {pos : Pos} {e : Expr} {m : EM}
theorem Slo.mono' {G : G3} {X : Hex} {B0 B : Addr → Prop} {s s' : S3} {u : Sl3} {z : L2.St} (h : Slo G X B0 B s u z) (l : Le B s s') : Slo G X B0 B s' u z := Slo.mono l h
theorem mss_nil : MSs P [] sNext := MSs.mk' pss_nil fun B0 B s o u z D b wd sl h => h B s z b (Le.refl _) wd sl
theorem ms_pass : MS P (.Pass pos) sNext := MS.mk' ps_pass fun B0 B s o u z D b wd sl h => h B s z b (Le.refl _) wd sl
theorem ms_break : MS P (.Break pos) sBreak := MS.mk' ps_break fun B0 B s o u z D b wd sl h => h B s z b (Le.refl _) wd sl
theorem ms_cont : MS P (.Continue pos) sCont := MS.mk' ps_continue fun B0 B s o u z D b wd sl h => h B s z b (Le.refl _) wd sl
theorem seq_post {G : G3} {hx : Hex} {wx : WX} {B0 : Addr → Prop} {s : S3} {D : Ends} {a b : SM} {u : Sl3} {o : Store} (h : PostS G hx wx B0 s D (sSeq a b u o)) :
    PostS G hx wx B0 s { D with nx := fun z H => ∃ (B : Addr → Prop) (s' : S3) (o' : Store) (u' : Sl3), s'.H = H ∧ (∀ a, B0 a → B a) ∧ Le B0 s s' ∧ Wd G B o' s' ∧ Slo G hx B0 B s' u' z ∧ PostS G hx wx B0 s' D (b u' o') } (a u o) := by
  unfold sSeq at h
  cases e : a u o with
  | nx u' o' => rw [e] at h; exact fun B' s' z' hb l w sl => ⟨B', s', o', u', rfl, hb, l, w, sl, PostS.mono l h⟩
  | rt w o' => rw [e] at h; exact h
  | bk u' o' => rw [e] at h; exact h
  | ct u' o' => rw [e] at h; exact h
  | err c x u' o' => rw [e] at h; exact h
  | bad => rw [e] at h; exact h
theorem mss_cons {st : Stmt} {rest : List Stmt} {a b : SM} (h1 : MS P st a) (h2 : MSs P rest b) : MSs P (st :: rest) (sSeq a b) := by
  obtain ⟨ta, pa, ha⟩ := h1.out
  obtain ⟨tb, pb, hb⟩ := h2.out
  refine MSs.mk' (pss_cons pa pb) fun B0 B s o u z D b0 wd sl h => ?_
  have q := ha B0 B s o u z _ b0 wd sl (seq_post h)
  show ta { D with nx := tb D } z s.H
  refine ha B0 B s o u z { D with nx := tb D } b0 wd sl ?_
  have h' := seq_post h
  cases e : a u o with
  | nx u' o' =>
    rw [e] at h'
    intro B' s' z' hb' l w sl'
    obtain ⟨B2, s2, o2, u2, e2, b2, l2, w2, sl2, p2⟩ := h' B' s' z' hb' l w sl'
    rw [← e2]
    exact hb B0 B2 s2 o2 u2 z' D b2 w2 sl2 p2
  | rt w o' => rw [e] at h'; exact h'
  | bk u' o' => rw [e] at h'; exact h'
  | ct u' o' => rw [e] at h'; exact h'
  | err c x u' o' => rw [e] at h'; exact h'
  | bad => rw [e] at h'; exact h'
theorem mss_one {st : Stmt} {a : SM} (h1 : MS P st a) : MSs P [st] a := by
  obtain ⟨ta, pa, ha⟩ := h1.out
  exact MSs.mk' (pss_one pa) fun B0 B s o u z D b0 wd sl h => ha B0 B s o u z D b0 wd sl h
theorem ms_drop (he : ME P e m) (hs : swapsWith e none pos.line P.X.env = pure false := by rfl) : MS P (.Expr e pos) (sDrop m) := by
  obtain ⟨t, pt, ht⟩ := he.out
  refine MS.mk' (ps_expr pt hs) fun B0 B s o u z D b0 wd sl h => ht B0 B s o u z _ wd sl ?_
  unfold sDrop at h
  cases e : m u o with
  | ok w st' => rw [e] at h; exact fun s' v l w r => h B s' z b0 (l.less b0) w (sl.mono' l)
  | err c x st' => rw [e] at h; exact fun s' cv dd l w q => h B s' z cv dd b0 (l.less b0) w (sl.mono' l) q
  | bad => rw [e] at h; exact h
theorem RepW.ret {G : G3} {X : Hex} {B0 B : Addr → Prop} {s : S3} {d : D} {v : V} (r : RepW G X B s (.val d) v) : PostS.RepR G B0 B s (.val d) v := r
/-- return e (e's value is data) -/
def sRetV (m : EM) : SM := fun u st => match m u st with
  | .ok (.val d) st' => .rt (.val d) st'
  | .ok _ _ => .bad
  | .err c x st' => .err c x u st'
  | .bad => .bad
theorem ms_ret (he : ME P e m) : MS P (.Return (some e) pos) (sRetV m) := by
  obtain ⟨t, pt, ht⟩ := he.out
  refine MS.mk' (ps_ret pt) fun B0 B s o u z D b0 wd sl h => ht B0 B s o u z _ wd sl ?_
  unfold sRetV at h
  cases e : m u o with
  | ok w st' =>
    rw [e] at h
    cases w with
    | val d => exact fun s' v l w r => h B s' v b0 (l.less b0) w r
    | _ => exact h.elim
  | err c x st' => rw [e] at h; exact fun s' cv dd l w q => h B s' z cv dd b0 (l.less b0) w (sl.mono' l) q
  | bad => rw [e] at h; exact h
/-- return x, x a list of one's own -/
def sRetO (i : Nat) : SM := fun u st => match u[i]? with
  | some (some (.bor xs)) => .rt (.bor xs) st
  | _ => .bad
theorem ms_retO (i : Nat) {x : Str} {p : Pos} (hN : P.X.N[i]? = some x := by rfl) (hv : Vis P.X.env.scope x := by first | exact Or.inl rfl | exact Or.inr (Or.inl rfl) | exact Or.inr (Or.inr rfl)) (hd : (x == ("__debug__" : Str)) = false := by decide)
    (hcd : (x == ("__classdict__" : Str)) = false := by decide) : MS P (.Return (some (.Name x p)) pos) (sRetO i) := by
  refine MS.mk' (ps_ret (pe_var hN hv hd hcd)) fun B0 B s o u z D b0 wd sl h => ?_
  unfold sRetO at h
  split at h
  · rename_i xs e
    obtain ⟨hl, ow, h1, h2⟩ := sl
    obtain ⟨v, e1, ⟨p', vs, e2, b, hp, r⟩, q⟩ := h1 i _ e
    obtain ⟨e3, nb⟩ := q rfl
    subst e2
    cases e3
    exact ⟨_, e1, h B s _ b0 (Le.refl _) wd ⟨_, vs, rfl, b, nb, hp, r⟩⟩
  · exact h.elim
theorem ms_retN : MS P (.Return none pos) sRetN := MS.mk' ps_retN fun B0 B s o u z D b0 wd sl h => h B s .non b0 (Le.refl _) wd .non
theorem ms_set (i : Nat) {x : Str} {p : Pos} (hN : P.X.N.Nodup) (he : ME P e m) (hi : P.X.N[i]? = some x := by rfl) (hx : Loc P.X.env.scope x := by first | exact Or.inl rfl | exact Or.inr rfl) (hs : swapsWith e (some (.Name x p)) pos.line P.X.env = pure false := by rfl)
    (hf : P.X.fn x = true ∨ P.X.env.scope.names.lookup x = some .local := by first | exact .inl rfl | exact .inr rfl | assumption) : MS P (.Assign [.Name x p] e pos) (sSet i m) := by
  obtain ⟨t, pt, ht⟩ := he.out
  refine MS.mk' (ps_set hN hi hx pt hs hf) fun B0 B s o u z D b0 wd sl h => ht B0 B s o u z _ wd sl ?_
  unfold sSet at h
  cases e : m u o with
  | ok w st' =>
    rw [e] at h
    cases w with
    | val d => exact fun s' v l w r => h B s' _ b0 (l.less b0) w ((sl.mono' l).set r i)
    | _ => exact h.elim
  | err c x st' => rw [e] at h; exact fun s' cv dd l w q => h B s' z cv dd b0 (l.less b0) w (sl.mono' l) q
  | bad => rw [e] at h; exact h
theorem ms_own (i : Nat) {x : Str} {p : Pos} {m : FM} (hN : P.X.N.Nodup) (he : MF P e m) (hi : P.X.N[i]? = some x := by rfl) (hx : Loc P.X.env.scope x := by first | exact Or.inl rfl | exact Or.inr rfl) (hs : swapsWith e (some (.Name x p)) pos.line P.X.env = pure false := by rfl)
    (hf : P.X.fn x = true ∨ P.X.env.scope.names.lookup x = some .local := by first | exact .inl rfl | exact .inr rfl | assumption) : MS P (.Assign [.Name x p] e pos) (sOwn i m) := by
  obtain ⟨t, pt, ht⟩ := he.out
  refine MS.mk' (ps_set hN hi hx pt hs hf) fun B0 B s o u z D b0 wd sl h => ht B0 B s o u z _ wd sl ?_
  unfold sOwn at h
  cases e : m u o with
  | ok xs st' =>
    rw [e] at h
    exact fun s' p vs l w nb hp r => h (plus B p) s' _ (fun a q => .inl (b0 a q)) (l.less b0) w ((sl.mono' l).own nb (fun q => nb (b0 p q)) hp r i)
  | err c x st' => rw [e] at h; exact fun s' cv dd l w q => h B s' z cv dd b0 (l.less b0) w (sl.mono' l) q
  | bad => rw [e] at h; exact h
theorem ms_if {c : Expr} {a b : List Stmt} {mc : TM} {ma mb : SM} (hc : MT P c mc) (ha : MSs P a ma) (hb : MSs P b mb) : MS P (.If c a b pos) (sIf mc ma mb) := by
  obtain ⟨tc, pc, hc⟩ := hc.out
  obtain ⟨ta, pa, ha⟩ := ha.out
  obtain ⟨tb, pb, hb⟩ := hb.out
  refine MS.mk' (ps_if pc pa pb) fun B0 B s o u z D b0 wd sl h => hc B0 B s o u z _ wd sl ?_
  unfold sIf at h
  cases e : mc u o with
  | ok k st' =>
    rw [e] at h
    intro s' k' l w r
    subst r
    cases k with
    | true => exact ha B0 B s' st' u z D b0 w (sl.mono' l) (PostS.mono (l.less b0) h)
    | false => exact hb B0 B s' st' u z D b0 w (sl.mono' l) (PostS.mono (l.less b0) h)
  | err c x st' => rw [e] at h; exact fun s' cv dd l w q => h B s' z cv dd b0 (l.less b0) w (sl.mono' l) q
  | bad => rw [e] at h; exact h
end
end M3


namespace M3
open PySem PySem.Spec PyProof.Rows L2

/-! ### targets -/
abbrev GM := D → Sl3 → Option Sl3
abbrev GMs := List D → Sl3 → Option Sl3
/-- z' is z but for the slots gs -/
structure But (gs : List Nat) (z z' : L2.St) : Prop where
  len : z'.length = z.length
  out : ∀ j, j ∉ gs → z'[j]? = z[j]?
theorem But.refl {gs : List Nat} (z : L2.St) : But gs z z := ⟨rfl, fun _ _ => rfl⟩
theorem But.trans {gs gs' : List Nat} {a b c : L2.St} (h : But gs a b) (h' : But gs' b c) : But (gs ++ gs') a c :=
  ⟨h'.len.trans h.len, fun j hj => (h'.out j fun m => hj (List.mem_append_right _ m)).trans (h.out j fun m => hj (List.mem_append_left _ m))⟩
theorem wipe_in {z : L2.St} {i : Nat} : ∀ {vs : List Nat}, i ∈ vs → i < z.length → (wipe z vs)[i]? = some none
  | v :: vs, h, hl => by
    unfold wipe
    by_cases e : v = i
    · subst e; rw [List.getElem?_set_self (by rw [wipe_length]; exact hl)]
    · rw [List.getElem?_set_ne e]
      rcases List.mem_cons.mp h with q | q
      · exact absurd q.symm e
      · exact wipe_in q hl
theorem But.wipe {gs vs : List Nat} {z z' : L2.St} (h : But gs z z') (hs : ∀ i ∈ gs, i ∈ vs) : L2.wipe z' vs = L2.wipe z vs := by
  apply List.ext_getElem?
  intro i
  by_cases hi : i ∈ vs
  · by_cases hl : i < z.length
    · rw [wipe_in hi (by rw [h.len]; exact hl), wipe_in hi hl]
    · rw [List.getElem?_eq_none (by rw [wipe_length, h.len]; omega), List.getElem?_eq_none (by rw [wipe_length]; omega)]
  · rw [wipe_out hi, wipe_out hi]
    exact h.out i fun m => hi (hs i m)
def tG (G : G3) (hx : Hex) (g : GM) (gs : List Nat) : TG := fun v z H Q => ∃ (B0 B : Addr → Prop) (s : S3) (st : Store) (u : Sl3) (d : D) (u' : Sl3), s.H = H ∧ Wd G B st s ∧ Slo G hx B0 B s u z ∧ Rep G.K s.F s.io d v ∧ g d u = some u' ∧
  ∀ z', Slo G hx B0 B s u' z' → But gs z z' → Q z' H
def tGs (G : G3) (hx : Hex) (g : GMs) (gs : List Nat) : TGs := fun vs z H Q => ∃ (B0 B : Addr → Prop) (s : S3) (st : Store) (u : Sl3) (ds : List D) (u' : Sl3), s.H = H ∧ Wd G B st s ∧ Slo G hx B0 B s u z ∧ RepL G.K s.F s.io ds vs ∧ g ds u = some u' ∧
  ∀ z', Slo G hx B0 B s u' z' → But gs z z' → Q z' H
structure MG (P : P3) (tg : Expr) (g : GM) (gs : List Nat) : Prop where
  pg : PG P.X tg (tG P.G P.hx g gs)
structure MGs (P : P3) (tg : List Expr) (g : GMs) (gs : List Nat) : Prop where
  pgs : PGs P.X tg (tGs P.G P.hx g gs)
def gName3 (i : Nat) : GM := fun d u => some (u.set i (some (.val d)))
def gNil3 : GMs := fun ds u => match ds with
  | [] => some u
  | _ => none
def gCons3 (g : GM) (gs : GMs) : GMs := fun ds u => match ds with
  | d :: ds => (g d u).bind (gs ds)
  | [] => none
def gTup3 (n : Nat) (gs : GMs) : GM := fun d u => match d with
  | .tup ds => if ds.length = n then gs ds u else none
  | _ => none
section
variable {P : P3} {pos : Pos}
theorem mg_name (i : Nat) {x : Str} (hN : P.X.N.Nodup) (hi : P.X.N[i]? = some x := by rfl) (hx : Loc P.X.env.scope x := by first | exact Or.inl rfl | exact Or.inr rfl)
    (hf : P.X.fn x = true ∨ P.X.env.scope.names.lookup x = some .local := by first | exact .inl rfl | exact .inr rfl | assumption) : MG P (.Name x pos) (gName3 i) [i] := by
  refine ⟨⟨fun pins s0 z H v w Q I r ⟨B0, B, s, st, u, d, u', e, wd, sl, rd, eg, k⟩ => ?_⟩⟩
  cases eg
  refine (pg_name hN hi hx hf).run pins s0 z H v w Q I r (k _ (sl.set rd i) ⟨by simp, fun j hj => ?_⟩)
  rw [List.getElem?_set_ne (fun q => hj (by simp [q]))]
theorem mgs_nil : MGs P [] gNil3 [] := by
  refine ⟨⟨fun pins s0 z H vs us Q I r ⟨B0, B, s, st, u, ds, u', e, wd, sl, rd, eg, k⟩ => ?_⟩⟩
  cases rd with
  | nil => cases eg; exact pgs_nil.run pins s0 z H [] us Q I r ⟨rfl, k z sl (But.refl z)⟩
  | cons _ _ => cases eg
theorem mgs_cons {e : Expr} {es : List Expr} {g : GM} {gs : GMs} {is js : List Nat} (h1 : MG P e g is) (h2 : MGs P es gs js)
    (hs : (assignEach (e :: es) P.X.env).map (·.2) = assign e P.X.env :: (assignEach es P.X.env).map (·.2) := by rfl) : MGs P (e :: es) (gCons3 g gs) (is ++ js) := by
  refine ⟨⟨fun pins s0 z H vs us Q I r ⟨B0, B, s, st, u, ds, u', e, wd, sl, rd, eg, k⟩ => ?_⟩⟩
  cases rd with
  | nil => cases eg
  | @cons d ds v vs rd rds =>
    have eg : (g d u).bind (gs ds) = some u' := eg
    cases e1 : g d u with
    | none => rw [e1] at eg; cases eg
    | some u1 =>
      rw [e1] at eg
      refine (pgs_cons h1.pg h2.pgs hs).run pins s0 z H _ us Q I r ⟨v, vs, rfl, B0, B, s, st, u, d, u1, e, wd, sl, rd, e1, fun z1 sl1 b1 => ?_⟩
      exact ⟨B0, B, s, st, u1, ds, u', e, wd, sl1, rds, eg, fun z2 sl2 b2 => k z2 sl2 (b1.trans b2)⟩
theorem mg_tup {es : List Expr} {k : Nat} {gs : GMs} {is : List Nat} {n : Nat} (hc : P.X.calm = true) (h : MGs P es gs is)
    (hn : (assignEach es P.X.env).length = n := by rfl) (hst : (assignEach es P.X.env).findIdx? (·.1) = none := by rfl) : MG P (.Tuple es k pos) (gTup3 n gs) is := by
  refine ⟨⟨fun pins s0 z H v w Q I r ⟨B0, B, s, st, u, d, u', e, wd, sl, rd, eg, k⟩ => ?_⟩⟩
  subst e
  unfold gTup3 at eg
  split at eg
  · rename_i ds
    split at eg
    · rename_i hl
      cases rd with
      | tup hq rl =>
        refine (pg_tup hc h.pgs hn hst).run pins s0 z s.H _ w Q I r ⟨_, _, rfl, (hq.mono wd.sub).sq, by rw [← rl.length]; exact hl, ?_⟩
        exact ⟨B0, B, s, st, u, _, u', rfl, wd, sl, rl, eg, k⟩
    · cases eg
  · cases eg
end

/-! ### what a loop walks -/
structure Itm (G : G3) (s : S3) (ds : List D) (J : It) : Prop where
  go : ∀ (s' : S3), IoLe s.io s'.io → Same s.F s'.F → Same s'.F s'.H → ∀ i, i < ds.length → J.go i s'.H
  yld : ∀ (s' : S3), IoLe s.io s'.io → Same s.F s'.F → Same s'.F s'.H → ∀ i x H', i < ds.length → J.yld i s'.H x H' → H' = s'.H ∧ ∃ d, ds[i]? = some d ∧ Rep G.K s'.F s'.io d x
  stop : ∀ (s' : S3), IoLe s.io s'.io → Same s.F s'.F → Same s'.F s'.H → ∀ i, ds.length ≤ i → J.stop i s'.H
def tI (G : G3) (hx : Hex) (wx : WX) (m : FM) : TI := fun z H R => ∃ (B0 B : Addr → Prop) (s : S3) (st : Store) (u : Sl3), s.H = H ∧ Wd G B st s ∧ Slo G hx B0 B s u z ∧ Post G B (fun s ds J => Itm G s ds J) (fun c d H => wx c d z H) s R (m u st)
structure MI (P : P3) (tg iter : Expr) (m : FM) : Prop where
  pi : PI P.X tg iter (tI P.G P.hx P.wx m)
theorem MI.mk' {P : P3} {tg iter : Expr} {m : FM} {t : TI} (h : PI P.X tg iter t) (k : ∀ (B0 B : Addr → Prop) (s : S3) (st : Store) (u : Sl3) (z : L2.St) (R : It → Hp → Prop), Wd P.G B st s → Slo P.G P.hx B0 B s u z →
    Post P.G B (fun s ds J => Itm P.G s ds J) (fun c d H => P.wx c d z H) s R (m u st) → t z s.H R) : MI P tg iter m :=
  ⟨⟨fun pins s0 z H R I ⟨B0, B, s, st, u, e, wd, sl, p⟩ => by subst e; exact h.run pins s0 z _ R I (k B0 B s st u z R wd sl p)⟩⟩
theorem MI.out {P : P3} {tg iter : Expr} {m : FM} (h : MI P tg iter m) : ∃ t, PI P.X tg iter t ∧ ∀ (B0 B : Addr → Prop) (s : S3) (st : Store) (u : Sl3) (z : L2.St) (R : It → Hp → Prop), Wd P.G B st s → Slo P.G P.hx B0 B s u z →
    Post P.G B (fun s ds J => Itm P.G s ds J) (fun c d H => P.wx c d z H) s R (m u st) → t z s.H R := ⟨_, h.pi, fun B0 B s st u z R wd sl p => ⟨B0, B, s, st, u, rfl, wd, sl, p⟩⟩
/-- over a list or a tuple -/
def D.walk : D → Option (List D)
  | .str x => some (x.cps.toList.map fun c => .str ⟨#[c]⟩)
  | d => d.items
def iSeq (m : EM) : FM := fun u => M.bind (m u) fun w => match w with
  | .val d => M.of d.walk
  | _ => M.bad
def iSeqT (K : PySem.W.Frag) (tl : TE) : TI := fun z H R => tl z H fun x H1 => (∃ y, x = .str y ∧ R (Its y) H1) ∨ ∃ a, x = .ref a ∧ ((∃ xs, SqL K H1 a xs) ∧ R (Itl K a) H1 ∨ (∃ xs, SqT K H1 a xs) ∧ R (Itt K a) H1)
section
variable {P : P3} {pos p : Pos} {tg l : Expr} {m : EM}
theorem pi_seq3 {X : Cx} {tl : TE} (hl : PE X l tl) : PI X tg l (iSeqT X.K tl) := by
  constructor
  intro pins s z H R I h
  refine thn (hl.run pins s z H _ I h) ?_
  rintro v s1 ⟨x, H1, I1, r1, ⟨y, rfl, q⟩ | ⟨a, rfl, q⟩⟩
  · obtain ⟨t, rfl⟩ := r1
    cases ha : y.cps.all (· < 128)
    · exact wpAny_pyIter_wide ha (pi_one (tk := s1.toks) I1 _ (turn_str _ y t "str_iterator" (.inr rfl)) ⟨_, Heap.get?_push_size _ rfl, rfl, rfl⟩ q)
    · exact wpAny_pyIter_ascii ha (pi_one (tk := s1.toks) I1 _ (turn_str _ y t "str_ascii_iterator" (.inl rfl)) ⟨_, Heap.get?_push_size _ rfl, rfl, rfl⟩ q)
  obtain rfl : v = Value.ref a := r1
  have nfp : ∀ b ∈ [s1.heap.objs.size], FpOk X pins H1 b := fun b hb => by
    rw [List.mem_singleton.mp hb]
    exact I1.fpOk (Nat.le_refl _) I1.fresh
  rcases q with ⟨⟨xs, hq⟩, q⟩ | ⟨⟨xs, hq⟩, q⟩
  · obtain ⟨its, _, pl, _⟩ := I1.list hq
    exact wpAny_pyIter_list pl.isList ⟨_, [s1.heap.objs.size], _, _, H1, rfl, I1.kept (t' := s1.toks) (fun b o e => Heap.get?_push_of_some _ e), turn_list a _, ⟨_, Heap.get?_push_size _ rfl, rfl, rfl⟩, nfp, q⟩
  · obtain ⟨its, _, pl, _⟩ := I1.tuple hq
    exact wpAny_pyIter_tuple (show s1.heap.IsTuple a its.toArray from pl) ⟨_, [s1.heap.objs.size], _, _, H1, rfl, I1.kept (t' := s1.toks) (fun b o e => Heap.get?_push_of_some _ e), turn_tuple a _, ⟨_, Heap.get?_push_size _ rfl, rfl, rfl⟩, nfp, q⟩
theorem itm_list {G : G3} {s : S3} {xs : List D} {vs : List V} {a : Addr} (h : SqL G.K s.F a vs) (r : RepL G.K s.F s.io xs vs) : Itm G s xs (Itl G.K a) := by
  have up : ∀ (s' : S3), Same s.F s'.F → Same s'.F s'.H → SqL G.K s'.H a vs := fun s' h1 h2 => same_sqL h2 (same_sqL h1 h)
  refine ⟨fun s' h1 h2 h3 i hi => ?_, fun s' h1 h2 h3 i x H' hi y => ?_, fun s' h1 h2 h3 i hi => ⟨vs, up s' h2 h3, by rw [← r.length]; exact hi⟩⟩
  · obtain ⟨v, e, _⟩ := r.get (List.getElem?_eq_getElem hi)
    exact ⟨vs, v, up s' h2 h3, e⟩
  · obtain ⟨e, y⟩ := y
    obtain ⟨d, e2, rd⟩ := r.get' (y vs (up s' h2 h3))
    exact ⟨e, d, e2, rd.mono h2 h1⟩
theorem itm_tup {G : G3} {s : S3} {xs : List D} {vs : List V} {a : Addr} (h : SqT G.K s.F a vs) (r : RepL G.K s.F s.io xs vs) : Itm G s xs (Itt G.K a) := by
  have up : ∀ (s' : S3), Same s.F s'.F → Same s'.F s'.H → SqT G.K s'.H a vs := fun s' h1 h2 => same_sqT h2 (same_sqT h1 h)
  refine ⟨fun s' h1 h2 h3 i hi => ?_, fun s' h1 h2 h3 i x H' hi y => ?_, fun s' h1 h2 h3 i hi => ⟨vs, up s' h2 h3, by rw [← r.length]; exact hi⟩⟩
  · obtain ⟨v, e, _⟩ := r.get (List.getElem?_eq_getElem hi)
    exact ⟨vs, v, up s' h2 h3, e⟩
  · obtain ⟨e, y⟩ := y
    obtain ⟨d, e2, rd⟩ := r.get' (y vs (up s' h2 h3))
    exact ⟨e, d, e2, rd.mono h2 h1⟩
theorem itm_str {G : G3} {s : S3} (y : Str) : Itm G s (y.cps.toList.map fun c => .str ⟨#[c]⟩) (Its y) := by
  have hl : (y.cps.toList.map fun c => D.str ⟨#[c]⟩).length = y.cps.size := by simp
  refine ⟨fun s' h1 h2 h3 i hi => by rw [hl] at hi; exact hi, fun s' h1 h2 h3 i x H' hi y' => ?_, fun s' h1 h2 h3 i hi => by rw [hl] at hi; exact hi⟩
  obtain ⟨e, c, ec, rfl⟩ := y'
  exact ⟨e, .str ⟨#[c]⟩, by rw [List.getElem?_map, Array.getElem?_toList, ec]; rfl, .str⟩
theorem mi_seq (h : ME P l m) : MI P tg l (iSeq m) := by
  obtain ⟨t, pt, ht⟩ := h.out
  refine MI.mk' (pi_seq3 pt) fun B0 B s st u z R wd sl hp => ht B0 B s st u z _ wd sl (Post.bind hp fun w st1 s1 v l1 wd1 r1 h1 => ?_)
  cases w with
  | val d =>
    obtain ⟨xs, e, h1⟩ := of_eq h1
    rw [P.hK]
    cases r1 with
    | str => cases e; exact .inl ⟨_, rfl, h1.pure wd1 (itm_str _)⟩
    | tup hq rl => cases e; exact .inr ⟨_, rfl, .inr ⟨⟨_, (hq.mono wd1.sub).sq⟩, h1.pure wd1 (itm_tup hq.sq rl)⟩⟩
    | lst hq rl => cases e; exact .inr ⟨_, rfl, .inl ⟨⟨_, .inl (.inl (wd1.sub _ _ hq))⟩, h1.pure wd1 (itm_list (.inl (.inl hq)) rl)⟩⟩
    | ctup hq rl => cases e; exact .inr ⟨_, rfl, .inr ⟨⟨_, same_sqT wd1.sub hq⟩, h1.pure wd1 (itm_tup hq rl)⟩⟩
    | ro hq rl => cases e; exact .inr ⟨_, rfl, .inl ⟨⟨_, same_sqL wd1.sub hq⟩, h1.pure wd1 (itm_list hq rl)⟩⟩
    | _ => cases e
  | _ => exact h1.elim
/-- over range -/
def rangeD (lo : Int) (n : Nat) : List D := (List.range n).map fun (i : Nat) => D.int (lo + (i : Int))
def rng1 (ws : List W) : Option (List D) := match ws with
  | [.val (.int j)] => if -1000000 ≤ j ∧ j ≤ 1000000 then some (rangeD 0 j.toNat) else none
  | _ => none
def rng2 (ws : List W) : Option (List D) := match ws with
  | [.val (.int i), .val (.int j)] => if -1000000 ≤ i ∧ i ≤ 1000000 ∧ -1000000 ≤ j ∧ j ≤ 1000000 then some (rangeD i (j - i).toNat) else none
  | _ => none
def iRange1 (m : AM) : FM := fun u => M.bind (m u) fun ws => M.of (rng1 ws)
def iRange2 (m : AM) : FM := fun u => M.bind (m u) fun ws => M.of (rng2 ws)
theorem itm_range {G : G3} {s : S3} (lo : Int) (n : Nat) : Itm G s (rangeD lo n) (Itr lo n) := by
  have hl : (rangeD lo n).length = n := by simp [rangeD]
  refine ⟨fun s' h1 h2 h3 i hi => by rw [hl] at hi; exact hi, fun s' h1 h2 h3 i x H' hi y => ?_, fun s' h1 h2 h3 i hi => by rw [hl] at hi; exact hi⟩
  obtain ⟨e, rfl⟩ := y
  rw [hl] at hi
  exact ⟨e, _, by simp [rangeD, hi], .int⟩
theorem mi_range1 {a : Expr} {ma : AM} (hg : Gl P.X "range") (hm : P.X.mg "range" = none) (ha : MA P [a] ma) (hs : starEach [a] P.X.env = [(false, eval a P.X.env)] := by rfl) : MI P tg (.Call (.Name "range" p) [a] [] pos) (iRange1 ma) := by
  obtain ⟨t, pt, ht⟩ := ha.out
  refine MI.mk' (pi_range1 hg hm pt hs) fun B0 B s st u z R wd sl hp => ht B0 B s st u z _ wd sl (Post.bind hp fun ws st1 s1 v l1 wd1 r1 h1 => ?_)
  obtain ⟨xs, e, h1⟩ := of_eq h1
  unfold rng1 at e
  split at e
  · rename_i j
    cases r1 with
    | cons r rr =>
      cases rr
      cases r
      split at e
      · rename_i hc
        cases e
        exact ⟨j, rfl, by omega, by omega, h1.pure wd1 (itm_range 0 _)⟩
      · cases e
  · cases e
theorem mi_range2 {a b : Expr} {ma : AM} (hg : Gl P.X "range") (hm : P.X.mg "range" = none) (ha : MA P [a, b] ma) (hs : starEach [a, b] P.X.env = [(false, eval a P.X.env), (false, eval b P.X.env)] := by rfl) (hs2 : starEach [b] P.X.env = [(false, eval b P.X.env)] := by rfl) :
    MI P tg (.Call (.Name "range" p) [a, b] [] pos) (iRange2 ma) := by
  obtain ⟨t, pt, ht⟩ := ha.out
  refine MI.mk' (pi_range2 hg hm pt hs hs2) fun B0 B s st u z R wd sl hp => ht B0 B s st u z _ wd sl (Post.bind hp fun ws st1 s1 v l1 wd1 r1 h1 => ?_)
  obtain ⟨xs, e, h1⟩ := of_eq h1
  unfold rng2 at e
  split at e
  · rename_i i j
    cases r1 with
    | cons r rr =>
      cases rr with
      | cons r2 rr =>
        cases rr
        cases r
        cases r2
        split at e
        · rename_i hc
          cases e
          exact ⟨i, j, rfl, ⟨by omega, by omega, by omega, by omega⟩, h1.pure wd1 (itm_range i _)⟩
        · cases e
  · cases e
end

/-! ### for, while -/
def forL (g : GM) (b : SM) : List D → SM
  | [], u, st => .nx u st
  | d :: ds, u, st => match g d u with
    | none => .bad
    | some u1 => match b u1 st with
      | .nx u2 st2 => forL g b ds u2 st2
      | .ct u2 st2 => forL g b ds u2 st2
      | .bk u2 st2 => .nx u2 st2
      | r => r
def sFor (m : FM) (g : GM) (b : SM) : SM := fun u st => match m u st with
  | .ok ds st' => forL g b ds u st'
  | .err c x st' => .err c x u st'
  | .bad => .bad
def whileL (c : TM) (b : SM) : Nat → SM
  | 0, _, _ => .bad
  | n + 1, u, st => match c u st with
    | .ok true st1 => match b u st1 with
      | .nx u2 st2 => whileL c b n u2 st2
      | .ct u2 st2 => whileL c b n u2 st2
      | .bk u2 st2 => .nx u2 st2
      | r => r
    | .ok false st1 => .nx u st1
    | .err c x st1 => .err c x u st1
    | .bad => .bad
section
variable {P : P3} {pos : Pos}
theorem ms_for {tg iter : Expr} {body : List Stmt} {mi : FM} {g : GM} {gs : List Nat} {mb : SM} (hp : PassesOwn (model P.X.prog P.X.w) P.X.A P.X.env P.X.xe) (hc : P.X.calm = true) (hi : MI P tg iter mi) (hg : MG P tg g gs) (hb : MSs P body mb)
    (hs : ∀ x, foldedSetIterable iter P.X.env x = pure x := by intro _; rfl) : MS P (.For tg iter body [] pos) (sFor mi g mb) := by
  obtain ⟨ti, pi, hti⟩ := hi.out
  obtain ⟨tb, pb, htb⟩ := hb.out
  refine MS.mk' (ps_for hp hc pi hg.pg pb hs) fun B0 B s o u z D b0 wd sl h => hti B0 B s o u z _ wd sl ?_
  unfold sFor at h
  cases e : mi u o with
  | bad => rw [e] at h; exact h
  | err c x st' => rw [e] at h; exact fun s' cv dd l w q => h B s' z cv dd b0 (l.less b0) w (sl.mono' l) q
  | ok ds st' =>
    rw [e] at h
    intro s1 J l1 w1 im
    have h := PostS.mono (l1.less b0) h
    refine ⟨fun i n z' H' => n = ds.length - i ∧ i ≤ ds.length ∧ ∃ (B' : Addr → Prop) (s' : S3) (o' : Store) (u' : Sl3), s'.H = H' ∧ (∀ a, B0 a → B' a) ∧ Le B0 s1 s' ∧ Wd P.G B' o' s' ∧ Slo P.G P.hx B0 B' s' u' z' ∧ PostS P.G P.hx P.wx B0 s' D (forL g mb (ds.drop i) u' o'),
      ⟨_, rfl, Nat.zero_le _, B, s1, st', u, rfl, b0, Le.refl _, w1, sl.mono' l1, h⟩, ?_⟩
    rintro i n z' H' ⟨rfl, hi, B', s', o', u', rfl, b0', l', w', sl', p⟩
    rcases Nat.lt_or_ge i ds.length with hlt | hge
    · right
      refine ⟨im.go s' l'.io l'.fr w'.sub i hlt, fun z2 H2 => i + 1 ≤ ds.length ∧ ∃ (B' : Addr → Prop) (s' : S3) (o' : Store) (u' : Sl3), s'.H = H2 ∧ (∀ a, B0 a → B' a) ∧ Le B0 s1 s' ∧ Wd P.G B' o' s' ∧ Slo P.G P.hx B0 B' s' u' z2 ∧ PostS P.G P.hx P.wx B0 s' D (forL g mb (ds.drop (i + 1)) u' o'),
        fun z2 H2 q => ⟨_, by omega, rfl, q.1, q.2⟩, fun x H2 y => ?_⟩
      obtain ⟨rfl, d, ed, rd⟩ := im.yld s' l'.io l'.fr w'.sub i x _ hlt y
      rw [List.drop_eq_getElem_cons hlt] at p
      have ed' : ds[i] = d := by rw [List.getElem?_eq_getElem hlt] at ed; cases ed; rfl
      rw [ed'] at p
      unfold forL at p
      cases eg : g d u' with
      | none => rw [eg] at p; exact p.elim
      | some u1 =>
        rw [eg] at p
        refine ⟨B0, B', s', o', u', d, u1, rfl, w', sl', rd, eg, fun z2 sl2 _ => ?_⟩
        refine htb B0 B' s' o' u1 z2 _ b0' w' sl2 ?_
        dsimp only at p
        cases eb : mb u1 o' with
        | nx u2 st2 => rw [eb] at p; exact fun B2 s2 z3 hb2 l2 w2 sl3 => ⟨hlt, B2, s2, st2, u2, rfl, hb2, l'.trans l2, w2, sl3, PostS.mono l2 p⟩
        | ct u2 st2 => rw [eb] at p; exact fun B2 s2 z3 hb2 l2 w2 sl3 => ⟨hlt, B2, s2, st2, u2, rfl, hb2, l'.trans l2, w2, sl3, PostS.mono l2 p⟩
        | bk u2 st2 => rw [eb] at p; exact p
        | rt w st2 => rw [eb] at p; exact p
        | err c x u2 st2 => rw [eb] at p; exact p
        | bad => rw [eb] at p; exact p
    · left
      have e0 : ds.drop i = [] := List.drop_eq_nil_of_le hge
      rw [e0] at p
      exact ⟨im.stop s' l'.io l'.fr w'.sub i hge, p B' s' z' b0' (Le.refl _) w' sl'⟩
theorem ms_while (n : Nat) {c : Expr} {body : List Stmt} {mc : TM} {mb : SM} (hp : PassesOwn (model P.X.prog P.X.w) P.X.A P.X.env P.X.xe) (hc : MT P c mc) (hb : MSs P body mb) : MS P (.While c body [] pos) (whileL mc mb n) := by
  obtain ⟨tc, pc, htc⟩ := hc.out
  obtain ⟨tb, pb, htb⟩ := hb.out
  refine MS.mk' (ps_while hp pc pb) fun B0 B s o u z D b0 wd sl h => ?_
  refine ⟨fun m z' H' => ∃ (B' : Addr → Prop) (s' : S3) (o' : Store) (u' : Sl3), s'.H = H' ∧ (∀ a, B0 a → B' a) ∧ Wd P.G B' o' s' ∧ Slo P.G P.hx B0 B' s' u' z' ∧ PostS P.G P.hx P.wx B0 s' D (whileL mc mb m u' o'), ⟨n, B, s, o, u, rfl, b0, wd, sl, h⟩, ?_⟩
  rintro m z' H' ⟨B', s', o', u', rfl, b0', w', sl', p⟩
  refine htc B0 B' s' o' u' z' _ w' sl' ?_
  cases m with
  | zero => exact p.elim
  | succ m =>
    unfold whileL at p
    cases ec : mc u' o' with
    | bad => rw [ec] at p; exact p
    | err c x st' => rw [ec] at p; exact fun s2 cv dd l w q => p B' s2 z' cv dd b0' (l.less b0') w (sl'.mono' l) q
    | ok k st' =>
      rw [ec] at p
      intro s2 k' l2 w2 r
      subst r
      cases k with
      | false => exact p B' s2 z' b0' (l2.less b0') w2 (sl'.mono' l2)
      | true =>
        have p := PostS.mono (l2.less b0') p
        rw [if_pos rfl]
        refine ⟨fun z3 H3 => ∃ (B' : Addr → Prop) (s' : S3) (o' : Store) (u' : Sl3), s'.H = H3 ∧ (∀ a, B0 a → B' a) ∧ Wd P.G B' o' s' ∧ Slo P.G P.hx B0 B' s' u' z3 ∧ PostS P.G P.hx P.wx B0 s' D (whileL mc mb m u' o'), fun z3 H3 q => ⟨m, Nat.lt_succ_self _, q⟩, ?_⟩
        refine htb B0 B' s2 st' u' z' _ b0' w2 (sl'.mono' l2) ?_
        dsimp only at p
        cases eb : mb u' st' with
        | nx u3 st3 => rw [eb] at p; exact fun B3 s3 z3 hb3 l3 w3 sl3 => ⟨B3, s3, st3, u3, rfl, hb3, w3, sl3, PostS.mono l3 p⟩
        | ct u3 st3 => rw [eb] at p; exact fun B3 s3 z3 hb3 l3 w3 sl3 => ⟨B3, s3, st3, u3, rfl, hb3, w3, sl3, PostS.mono l3 p⟩
        | bk u3 st3 => rw [eb] at p; exact p
        | rt w st3 => rw [eb] at p; exact p
        | err c x u3 st3 => rw [eb] at p; exact p
        | bad => rw [eb] at p; exact p
end
end M3


namespace M3
open PySem PySem.Spec PyProof.Rows L2

/-! ### list comprehensions -/
def wipe3 (u : Sl3) : List Nat → Sl3
  | [] => u
  | v :: vs => (wipe3 u vs).set v none
theorem Slo.wipe {G : G3} {X : Hex} {B0 B : Addr → Prop} {s : S3} {u : Sl3} {z : L2.St} (h : Slo G X B0 B s u z) : ∀ vs : List Nat, Slo G X B0 B s (wipe3 u vs) (L2.wipe z vs)
  | [] => h
  | v :: vs => (Slo.wipe h vs).del v none
/-- no exception leaves a comprehension -/
abbrev noW : WX := fun _ _ _ _ => False
abbrev P3.blk (P : P3) (s : Shared) (H : Hp) (scope : Scope) (C : Addr) (cl : List (Str × Addr)) (fp : List Addr) : P3 := ⟨P.X.blk s H scope (compEnvC scope cl C P.X.env) fp, P.G, P.hx, noW, P.hK⟩
structure MIfs (P : P3) (ifs : List Expr) (m : TM) : Prop where
  pts : PTs P.X ifs (tT P.G P.hx P.wx m)
def tYes3 : TM := fun _ => M.pure true
theorem mifs_nil {P : P3} : MIfs P [] tYes3 :=
  ⟨⟨fun pins s0 z H Q I ⟨B0, B, s, st, u, e, wd, sl, p⟩ => by subst e; exact pts_nil.run pins s0 z _ Q I (p.pure wd rfl)⟩⟩
theorem mifs_one {P : P3} {c : Expr} {m : TM} (h : MT P c m) : MIfs P [c] m := ⟨pts_one h.pt⟩
/-- turn by turn; u0: the slots without the block's own -/
def lcL (g : GM) (c : TM) (e : EM) (u0 : Sl3) : List D → List D → M (List D)
  | [], acc => M.pure acc
  | d :: ds, acc => M.bind (M.of (g d u0)) fun u1 => M.bind (M.quiet (c u1)) fun k =>
    if k = true then M.bind (M.quiet (e u1)) fun w => M.bind (M.of w.d) fun x => M.bind (M.chk (acc.length < 1000000)) fun _ => lcL g c e u0 ds (acc ++ [x])
    else lcL g c e u0 ds acc
def fLc (mi : FM) (g : GM) (c : TM) (e : EM) (own : List Nat) : FM := fun u => M.bind (mi u) fun ds => lcL g c e (wipe3 u own) ds []
section
variable {P : P3} {pos : Pos}
theorem of_quiet {α : Type} {m : M α} {f : α → M (List D)} {st : Store} {G : G3} {B : Addr → Prop} {E : XK} {s : S3} {Q : VK} (h : PostF G B E s Q (M.bind (M.quiet m) f st)) : ∃ a st', m st = .ok a st' ∧ PostF G B E s Q (f a st') := by
  unfold M.bind M.quiet at h
  cases e : m st with
  | ok a st' => rw [e] at h; exact ⟨a, st', rfl, h⟩
  | err c x st' => rw [e] at h; exact h.elim
  | bad => rw [e] at h; exact h.elim
theorem plus_le {B : Addr → Prop} {p : Addr} {s s' : S3} (l : Le (plus B p) s s') : Le B s s' := l.less fun a b => .inl b
/-- the list that is being made grows by one -/
theorem grow_wd {G : G3} {B : Addr → Prop} {st : Store} {s : S3} {p : Addr} {vs : List V} {xs : List D} {d : D} {v : V} (w : Wd G (plus B p) st s) (nb : ¬ B p) (h : s.H p = some (.lst vs)) (o : HO) :
    Wd G (plus B p) st ⟨s.io, s.F, upd s.H p o⟩ ∧ Le B s ⟨s.io, s.F, upd s.H p o⟩ := by
  have hF := (w.hid p (.inr rfl)).1
  refine ⟨⟨fun b u e => ?_, fun a b => ?_, w.dom, w.inj, fun k u e => ?_⟩, IoLe.refl _, Same.refl _, fun a b => upd_ne fun z => by subst z; exact nb b⟩
  · show upd s.H p o b = some u
    rw [upd_ne (fun z => by subst z; have e : s.F b = some u := e; rw [hF] at e; cases e)]
    exact w.sub b u e
  · by_cases q : a = p
    · subst q; exact ⟨hF, o, upd_same⟩
    · obtain ⟨h1, u, h2⟩ := w.hid a b
      exact ⟨h1, u, by show upd s.H p o a = some u; rw [upd_ne q]; exact h2⟩
  · obtain ⟨a, e1, b1, f1, o1⟩ := w.obj k u e
    have na : a ≠ p := fun z => b1 (.inr z)
    exact ⟨a, e1, b1, f1, ObjR.mono (s := s) (s' := ⟨s.io, s.F, upd s.H p o⟩) (IoLe.refl _) (Same.refl _) (upd_ne na) o1⟩
theorem Slo.more {G : G3} {X : Hex} {B0 B B' : Addr → Prop} {s : S3} {u : Sl3} {z : L2.St} (h : Slo G X B0 B s u z) (hb : ∀ a, B a → B' a) : Slo G X B0 B' s u z := by
  obtain ⟨hl, ow, h1, h2⟩ := h
  exact ⟨hl, ow, fun i w e => let ⟨v, e1, r, q⟩ := h1 i w e; ⟨v, e1, r.wider hb, q⟩, h2⟩
theorem lc_ok {tgt iter elt : Expr} {ifs : List Expr} {mi : FM} {g : GM} {gs : List Nat} {c : TM} {e : EM} {own : List Nat} {ti : TI} (hgs : ∀ i ∈ gs, i ∈ own)
    (hti : ∀ (B0 B : Addr → Prop) (s : S3) (st : Store) (u : Sl3) (z : L2.St) (R : It → Hp → Prop), Wd P.G B st s → Slo P.G P.hx B0 B s u z → Post P.G B (fun s ds J => Itm P.G s ds J) (fun c d H => P.wx c d z H) s R (mi u st) → ti z s.H R)
    {B0 B : Addr → Prop} {s : S3} {st : Store} {u : Sl3} {z : L2.St} {Q : VK} (wd : Wd P.G B st s) (sl : Slo P.G P.hx B0 B s u z) (h : PostF P.G B (fun c d H => P.wx c d z H) s Q (fLc mi g c e own u st)) :
    tLc ti (tG P.G P.hx g gs) (tT P.G P.hx noW c) (tE P.G P.hx noW e) own z s.H Q := by
  refine hti B0 B s st u z _ wd sl (PostF.bind h fun ds st1 s1 J l1 wd1 im h1 => ?_)
  intro p hp
  obtain ⟨wd2, l2⟩ := own_wd (ho := .lst []) wd1 hp
  have nb : ¬ B p := wd1.freshB hp
  refine ⟨fun i n H' => n = ds.length - i ∧ i ≤ ds.length ∧ ∃ (s' : S3) (st' : Store) (acc : List D) (vs : List V), s'.H = H' ∧ Le B s1 s' ∧ Wd P.G (plus B p) st' s' ∧ s'.H p = some (.lst vs) ∧ RepL P.G.K s'.F s'.io acc vs ∧
      PostF P.G B (fun c d H => P.wx c d z H) s' Q (lcL g c e (wipe3 u own) (ds.drop i) acc st'),
    ⟨_, rfl, Nat.zero_le _, _, st1, [], [], rfl, l2, wd2, upd_same, .nil, PostF.mono l2 h1⟩, ?_⟩
  rintro i n H' ⟨rfl, hi, s', st', acc, vs, rfl, l', w', hq, rl, pf⟩
  rcases Nat.lt_or_ge i ds.length with hlt | hge
  · right
    refine ⟨im.go s' l'.io l'.fr w'.sub i hlt, fun H2 => i + 1 ≤ ds.length ∧ ∃ (s' : S3) (st' : Store) (acc : List D) (vs : List V), s'.H = H2 ∧ Le B s1 s' ∧ Wd P.G (plus B p) st' s' ∧ s'.H p = some (.lst vs) ∧ RepL P.G.K s'.F s'.io acc vs ∧
      PostF P.G B (fun c d H => P.wx c d z H) s' Q (lcL g c e (wipe3 u own) (ds.drop (i + 1)) acc st'), fun H2 q => ⟨_, by omega, rfl, q.1, q.2⟩, fun x H2 y => ?_⟩
    obtain ⟨rfl, d, ed, rd⟩ := im.yld s' l'.io l'.fr w'.sub i x _ hlt y
    rw [List.drop_eq_getElem_cons hlt] at pf
    have ed' : ds[i] = d := by rw [List.getElem?_eq_getElem hlt] at ed; cases ed; rfl
    rw [ed'] at pf
    unfold lcL at pf
    obtain ⟨u1, eg, pf⟩ := PostF.of_of pf
    have slw : Slo P.G P.hx B0 (plus B p) s' (wipe3 u own) (L2.wipe z own) := ((sl.mono' (l1.trans l')).more fun a b => .inl b).wipe own
    refine ⟨B0, plus B p, s', st', wipe3 u own, d, u1, rfl, w', slw, rd, eg, fun z2 sl2 b2 => ⟨?_, ?_⟩⟩
    · rw [b2.wipe hgs, wipe_wipe]
    · obtain ⟨k, st3, ek, pf⟩ := of_quiet pf
      refine ⟨B0, plus B p, s', st', u1, rfl, w', sl2, ?_⟩
      rw [ek]
      intro s3 k' l3 w3 rk
      subst rk
      have hq3 : s3.H p = some (.lst vs) := (l3.hid p (.inr rfl)).trans hq
      have rl3 := rl.mono l3.fr l3.io
      have pf := PostF.mono (plus_le l3) pf
      cases k with
      | false => exact ⟨hlt, s3, st3, acc, vs, rfl, l'.trans (plus_le l3), w3, hq3, rl3, pf⟩
      | true =>
        rw [if_pos rfl] at pf
        obtain ⟨w, st4, ew, pf⟩ := of_quiet pf
        rw [if_pos rfl]
        refine ⟨B0, plus B p, s3, st3, u1, rfl, w3, sl2.mono' l3, ?_⟩
        rw [ew]
        intro s4 v4 l4 w4 r4
        obtain ⟨x4, ex, pf⟩ := PostF.of_of pf
        obtain ⟨hz, pf⟩ := PostF.of_chk pf
        have hq4 : s4.H p = some (.lst vs) := (l4.hid p (.inr rfl)).trans hq3
        have rl4 := rl3.mono l4.fr l4.io
        have rx : Rep P.G.K s4.F s4.io x4 v4 := by
          cases w with
          | val d => cases ex; exact r4
          | _ => cases ex
        obtain ⟨w5, l5⟩ := grow_wd (xs := []) (d := .non) (v := .non) w4 nb hq4 (.lst (vs ++ [v4]))
        exact ⟨vs, hq4, by rw [← rl4.length]; exact szl hz, hlt, _, st4, acc ++ [x4], vs ++ [v4], rfl, ((l'.trans (plus_le l3)).trans (plus_le l4)).trans l5, w5, upd_same, rl4.append (.cons rx .nil), PostF.mono ((plus_le l4).trans l5) pf⟩
  · left
    have e0 : ds.drop i = [] := List.drop_eq_nil_of_le hge
    rw [e0] at pf
    exact ⟨im.stop s' l'.io l'.fr w'.sub i hge, pf s' p vs (Le.refl _) w' nb hq rl⟩
where
  wipe_wipe {z : L2.St} {vs : List Nat} : L2.wipe (L2.wipe z vs) vs = L2.wipe z vs := by
    apply List.ext_getElem?
    intro i
    by_cases hi : i ∈ vs
    · by_cases hl : i < z.length
      · rw [wipe_in hi (by rw [wipe_length]; exact hl), wipe_in hi hl]
      · rw [List.getElem?_eq_none (by rw [wipe_length, wipe_length]; omega), List.getElem?_eq_none (by rw [wipe_length]; omega)]
    · rw [wipe_out hi]
theorem mf_lc {elt tg iter : Expr} {ifs : List Expr} {scope : Scope} {own : List (Str × Nat)} {mi : FM} {g : GM} {gs : List Nat} {c : TM} {m : EM} (hc : P.X.calm = true) (hN : P.X.N.Nodup) (hi : MI P tg iter mi) (ok : BlkOk P.X.N P.X.env.scope scope own)
    (hg : ∀ (s : Shared) (H : Hp) (C : Addr) (cl : List (Str × Addr)) (fp : List Addr), MG (P.blk s H scope C cl fp) tg g gs) (ht : ∀ (s : Shared) (H : Hp) (C : Addr) (cl : List (Str × Addr)) (fp : List Addr), MIfs (P.blk s H scope C cl fp) ifs c)
    (he : ∀ (s : Shared) (H : Hp) (C : Addr) (cl : List (Str × Addr)) (fp : List Addr), ME (P.blk s H scope C cl fp) elt m) (hgs : ∀ i ∈ gs, i ∈ own.map (·.2) := by decide) (hs : ∀ x, foldedSetIterable iter P.X.env x = pure x := by intro _; rfl) :
    MF P (.ListComp elt [⟨tg, iter, ifs, 0⟩] scope pos) (fLc mi g c m (own.map (·.2))) := by
  obtain ⟨ti, pi, hti⟩ := hi.out
  refine MF.mk' (pe_lc (own := own) (g := tG P.G P.hx g gs) (tt := tT P.G P.hx noW c) (te := tE P.G P.hx noW m) hc hN pi ok (fun s H C cl fp => (hg s H C cl fp).pg) (fun s H C cl fp => (ht s H C cl fp).pts) (fun s H C cl fp => (he s H C cl fp).pe) hs) fun B0 B s st u z Q wd sl h => ?_
  exact lc_ok (tgt := tg) (iter := iter) (elt := elt) (ifs := ifs) hgs hti wd sl h
/-- x = [..] on one line -/
theorem ms_setLc {i : Nat} {y : Str} {py spos : Pos} {elt tg iter : Expr} {ifs : List Expr} {scope : Scope} {own : List (Str × Nat)} {mi : FM} {g : GM} {gs : List Nat} {c : TM} {m : EM} (hc : P.X.calm = true) (hN : P.X.N.Nodup) (hi : MI P tg iter mi) (ok : BlkOk P.X.N P.X.env.scope scope own)
    (hg : ∀ (s : Shared) (H : Hp) (C : Addr) (cl : List (Str × Addr)) (fp : List Addr), MG (P.blk s H scope C cl fp) tg g gs) (ht : ∀ (s : Shared) (H : Hp) (C : Addr) (cl : List (Str × Addr)) (fp : List Addr), MIfs (P.blk s H scope C cl fp) ifs c)
    (he : ∀ (s : Shared) (H : Hp) (C : Addr) (cl : List (Str × Addr)) (fp : List Addr), ME (P.blk s H scope C cl fp) elt m)
    (hsw : swapsWith (.ListComp elt [⟨tg, iter, ifs, 0⟩] scope pos) (some (.Name y py)) spos.line P.X.env = pure true) (hy : P.X.N[i]? = some y := by rfl) (hyl : P.X.env.scope.names.lookup y = some .local := by rfl)
    (hgs : ∀ i ∈ gs, i ∈ own.map (·.2) := by decide) (hs : ∀ x, foldedSetIterable iter P.X.env x = pure x := by intro _; rfl) :
    MS P (.Assign [.Name y py] (.ListComp elt [⟨tg, iter, ifs, 0⟩] scope pos) spos) (sSet i (eF (fLc mi g c m (own.map (·.2))))) := by
  obtain ⟨ti, pi, hti⟩ := hi.out
  refine MS.mk' (ps_setLc (own := own) (g := tG P.G P.hx g gs) (tt := tT P.G P.hx noW c) (te := tE P.G P.hx noW m) hc hN hy hyl hsw pi ok (fun s H C cl fp => (hg s H C cl fp).pg) (fun s H C cl fp => (ht s H C cl fp).pts) (fun s H C cl fp => (he s H C cl fp).pe) hs) fun B0 B s o u z D b0 wd sl h => ?_
  refine lc_ok (tgt := tg) (iter := iter) (elt := elt) (ifs := ifs) hgs hti wd sl ?_
  unfold sSet eF M.bind at h
  cases e : fLc mi g c m (own.map (·.2)) u o with
  | ok xs st' =>
    rw [e] at h
    dsimp only [M.pure] at h
    exact fun s' p vs l w nb hp r => h B ⟨s'.io, upd s'.F p (.lst vs), s'.H⟩ _ b0 ((l.trans (freeze_le w)).less b0) (freeze_wd w nb hp) ((sl.mono' (l.trans (freeze_le w))).set (.lst upd_same (r.mono (freeze_le w).fr (freeze_le w).io)) i)
  | err c x st' => rw [e] at h; exact fun s' cv dd l w q => h B s' z cv dd b0 (l.less b0) w (sl.mono' l) q
  | bad => rw [e] at h; exact h
end
end M3


namespace M3
open PySem PySem.Spec PyProof.Rows L2

/-! ### a def and its mirror -/
def mfn (N : Nat) (mb : SM) : List D → M D := fun ds st => match mb (ds.map (fun d => some (.val d)) ++ List.replicate (N - ds.length) none) st with
  | .nx _ st' => .ok .non st'
  | .rt (.val d) st' => .ok d st'
  | .rt (.bor xs) st' => .ok (.lst xs) st'
  | .err c x _ st' => .err c x st'
  | _ => .bad
/-- the promise: it hands back what the mirror says -/
def spM (G : G3) (n : Nat) (m : List D → M D) : Sp := fun vs H Q E => vs.length = n ∧ ∃ (B : Addr → Prop) (s : S3) (st : Store) (ds : List D), s.H = H ∧ Wd G B st s ∧ RepL G.K s.F s.io ds vs ∧
  Post G B (fun s d v => Rep G.K s.F s.io d v) E s Q (m ds st)
theorem slo_start {G : G3} {X : Hex} {B0 B : Addr → Prop} {s : S3} {N : List Str} {ds : List D} {vs : List V} (r : RepL G.K s.F s.io ds vs) :
    Slo G X B0 B s (ds.map (fun d => some (.val d)) ++ List.replicate (N.length - ds.length) none) (L2.start N vs) := by
  have hl := r.length
  have none_ : ∀ {i : Nat} {w : M3.W}, (ds.map (fun d => some (M3.W.val d)) ++ List.replicate (N.length - ds.length) none)[i]? = some (some w) → ∃ d, ds[i]? = some d ∧ w = .val d := fun {i w} e => by
    by_cases hi : i < ds.length
    · rw [List.getElem?_append_left (by simpa using hi), List.getElem?_map] at e
      cases h : ds[i]? with
      | none => rw [h] at e; cases e
      | some d => rw [h] at e; cases e; exact ⟨d, rfl, rfl⟩
    · rw [List.getElem?_append_right (by simpa using hi), List.getElem?_replicate] at e
      split at e <;> cases e
  refine ⟨by unfold L2.start; simp [hl], fun _ => 0, fun i w e => ?_, fun i j w w' o1 o2 e1 e2 _ => ?_⟩
  · obtain ⟨d, e1, rfl⟩ := none_ e
    obtain ⟨v, e2, rv⟩ := r.get e1
    refine ⟨v, ?_, rv, fun q => by cases q⟩
    unfold L2.start
    have hi : i < vs.length := (List.getElem?_eq_some_iff.mp e2).1
    rw [List.getElem?_append_left (by simpa using hi), List.getElem?_map, e2]
    rfl
  · obtain ⟨d, _, q⟩ := none_ e1
    subst q; cases o1
section
variable {P : Program} {w : World} {K : PySem.W.Frag} {mg : Str → Option Value} {base : Heap}
theorem fn_ok {G : G3} (hK : K = G.K) {x qual : Str} {st : Stmt} {f : Addr} {fd : FuncData} {N ps : List Str} {k : Nat} {mb : SM} (F : Fun K x qual st f fd) (S : FnScope N ps (defScope st))
    (h : ∀ (cdv : Value) (A : Around) (outer : List Env) (s : Shared) (H : Hp) (E : XK), Room k (A.deeper (envOfC qual (defScope st) s.heap.objs.size f cdv)) →
      MSs ⟨cxOf (L2.CX P w) P w K mg base N qual (defScope st) f cdv A outer s H E, G, none, fun cls d _ H => E cls d H, hK⟩ (defBody st) mb) :
    FnOk P w K mg base (L2.CX P w) (k + 1) f fd ps (spM G ps.length (mfn N.length mb)) := by
  refine F.okX S (fun vs H Q E h => h.1) fun cdv A outer s0 H vs Q E hr ⟨hl, B, s, o, ds, e, wd, rl, hp⟩ => ?_
  subst e
  obtain ⟨t, pt, ht⟩ := (h cdv A outer s0 s.H E hr).out
  refine ⟨t, pt, ht B B s o _ _ _ (fun _ b => b) wd (slo_start (N := N) rl) ?_⟩
  unfold mfn at hp
  have hlen : ds.map (fun d => some (M3.W.val d)) ++ List.replicate (N.length - ds.length) none = ds.map (fun d => some (M3.W.val d)) ++ List.replicate (N.length - ds.length) none := rfl
  cases em : mb (ds.map (fun d => some (.val d)) ++ List.replicate (N.length - ds.length) none) o with
  | nx u' st' => rw [em] at hp; exact fun B' s' z' b l w sl => hp s' .non l (w.less b) .non
  | rt w st' =>
    rw [em] at hp
    cases w with
    | val d => exact fun B' s' v b l w r => hp s' v l (w.less b) r
    | bor xs =>
      rintro B' s' v b l w ⟨p, vs', rfl, bp, nb, hq, r⟩
      have w' : Wd G (plus B p) st' s' := w.less fun a q => q.elim (b a) fun z => z ▸ bp
      exact hp ⟨s'.io, upd s'.F p (.lst vs'), s'.H⟩ (.ref p) (l.trans (freeze_le w')) (freeze_wd w' nb hq) (.lst upd_same (r.mono (freeze_le w').fr (freeze_le w').io))
    | bod ks us => exact hp.elim
    | boT ks us => exact hp.elim
    | exn c x => exact hp.elim
  | bk u' st' => rw [em] at hp; exact hp.elim
  | ct u' st' => rw [em] at hp; exact hp.elim
  | err c x u' st' => rw [em] at hp; exact fun B' s' z' cv dd b l w sl q => hp s' cv dd l (w.less b) q
  | bad => rw [em] at hp; exact hp.elim
end

/-! ### calls of own defs -/
def eCall (n : Nat) (m : List D → M D) (ma : AM) : EM := fun u => M.bind (ma u) fun ws => M.bind (M.of (asDs ws)) fun ds => M.bind (M.chk (ds.length = n)) fun _ => M.bind (m ds) fun d => M.pure (.val d)
section
variable {P : P3} {pos p : Pos} {x : Str} {e : Expr} {es : List Expr} {ma : AM} {m : List D → M D} {k j n : Nat} {f : Addr} {fd : FuncData} {ps : List Str}
/-- a def of the top that may be called: where it stands, its mirror -/
structure Cal (Pg : Program) (w : World) (K : PySem.W.Frag) (mg : Str → Option Value) (base : Heap) (G : G3) (k : Nat) (x : Str) (n : Nat) (m : List D → M D) : Prop where
  ex : ∃ f fd ps, mg x = some (.ref f) ∧ PySem.W.keepIn K (.ref f) = true ∧ Binds K fd ps [] ∧ ps.length = n ∧ FnOk Pg w K mg base (L2.CX Pg w) k f fd ps (spM G n m)
theorem me_call (c : Cal P.X.prog P.X.w P.X.K P.X.mg P.X.base P.G k x n m) (hr : Room j P.X.A) (hk : k ≤ j) (tk : Takes P.X P.wx) (hg : Gl P.X x) (ha : MA P (e :: es) ma)
    (hdb : (x == ("__debug__" : Str)) = false := by decide) (he : starEach (e :: es) P.X.env = (false, eval e P.X.env) :: starEach es P.X.env := by rfl) (hpl : (backTo pos (starEach es P.X.env)).any (·.1) = false := by rfl) :
    ME P (.Call (.Name x p) (e :: es) [] pos) (eCall n m ma) := by
  obtain ⟨f, fd, ps, hm, hkp, hb, hn, F⟩ := c.ex
  obtain ⟨t, pt, ht⟩ := ha.out
  refine ME.mk' (pe_callS F (hr.mono hk) hg hm hkp hb (fun σ => passAt tk σ) pt hdb he hpl) fun B0 B s st u z Q wd sl h => ht B0 B s st u z _ wd sl (Post.bind h fun ws st1 s1 vs l1 wd1 r1 h1 => ?_)
  obtain ⟨ds, e, h1⟩ := Post.of_of h1
  obtain ⟨hl, h1⟩ := Post.of_chk h1
  have rl := asDs_ok r1 e
  refine ⟨by rw [← rl.length]; exact hl, B, s1, st1, ds, rfl, wd1, rl, ?_⟩
  unfold M.bind at h1
  cases em : m ds st1 with
  | ok d st' => rw [em] at h1; exact fun s' v l w r => h1 s' v l w r
  | err c x st' => rw [em] at h1; exact h1
  | bad => rw [em] at h1; exact h1
end

/-! ### calls of built-ins -/
def CallM (P : P3) (f : Value) (g : List W → Option W) : Prop := ∃ r, CallR P.X f r ∧ ∀ (B : Addr → Prop) (s : S3) (st : Store) (ws : List W) (w : W) (vs : List V) (Q : VK), Wd P.G B st s → RepWs P.G P.hx B s ws vs →
  g ws = some w → (∀ (s' : S3) (v : V), Le B s s' → Wd P.G B st s' → RepW P.G P.hx B s' w v → Q v s'.H) → r vs s.H Q
/-- .. that give a new list -/
def CallF (P : P3) (f : Value) (g : List W → Option (List D)) : Prop := ∃ r, CallR P.X f r ∧ ∀ (B : Addr → Prop) (s : S3) (st : Store) (ws : List W) (xs : List D) (vs : List V) (Q : VK), Wd P.G B st s → RepWs P.G P.hx B s ws vs →
  g ws = some xs → (∀ (us : List V) (p : Addr), RepL P.G.K s.F s.io xs us → s.H p = none → Q (.ref p) (upd s.H p (.lst us))) → r vs s.H Q
def eB (g : List W → Option W) (ma : AM) : EM := fun u => M.bind (ma u) fun ws => M.of (g ws)
def fB (g : List W → Option (List D)) (ma : AM) : FM := fun u => M.bind (ma u) fun ws => M.of (g ws)
section
variable {P : P3} {pos p : Pos} {x : Str} {e : Expr} {es : List Expr} {ma : AM} {id T : String} {g : List W → Option W} {gf : List W → Option (List D)}
theorem me_callB (hc : CallM P (.builtin id) g) (hg : Gl P.X x) (hm : P.X.mg x = none) (hv : bootBuiltins x = some (.builtin id)) (ha : MA P (e :: es) ma) (hn : x ≠ "__name__" := by decide) (hdb : (x == ("__debug__" : Str)) = false := by decide)
    (he : starEach (e :: es) P.X.env = (false, eval e P.X.env) :: starEach es P.X.env := by rfl) (hpl : (backTo pos (starEach es P.X.env)).any (·.1) = false := by rfl) : ME P (.Call (.Name x p) (e :: es) [] pos) (eB g ma) := by
  obtain ⟨t, pt, ht⟩ := ha.out
  obtain ⟨r, hr, hq⟩ := hc
  refine ME.mk' (pe_callB hr hg hm hv pt hn hdb he hpl) fun B0 B s st u z Q wd sl h => ht B0 B s st u z _ wd sl (Post.bind h fun ws st1 s1 vs l1 wd1 r1 h1 => ?_)
  obtain ⟨w, e, h1⟩ := of_eq h1
  exact hq B s1 st1 ws w vs Q wd1 r1 e fun s' v l w' r => h1 s' v l w' r
theorem me_callTy (hc : CallM P (.type T) g) (hg : Gl P.X x) (hm : P.X.mg x = none) (hv : bootBuiltins x = some (.type T)) (ha : MA P (e :: es) ma) (hn : x ≠ "__name__" := by decide) (hdb : (x == ("__debug__" : Str)) = false := by decide)
    (he : starEach (e :: es) P.X.env = (false, eval e P.X.env) :: starEach es P.X.env := by rfl) (hpl : (backTo pos (starEach es P.X.env)).any (·.1) = false := by rfl) : ME P (.Call (.Name x p) (e :: es) [] pos) (eB g ma) := by
  obtain ⟨t, pt, ht⟩ := ha.out
  obtain ⟨r, hr, hq⟩ := hc
  refine ME.mk' (pe_callTy hr hg hm hv pt hn hdb he hpl) fun B0 B s st u z Q wd sl h => ht B0 B s st u z _ wd sl (Post.bind h fun ws st1 s1 vs l1 wd1 r1 h1 => ?_)
  obtain ⟨w, e, h1⟩ := of_eq h1
  exact hq B s1 st1 ws w vs Q wd1 r1 e fun s' v l w' r => h1 s' v l w' r
theorem mf_callTy (hc : CallF P (.type T) gf) (hg : Gl P.X x) (hm : P.X.mg x = none) (hv : bootBuiltins x = some (.type T)) (ha : MA P (e :: es) ma) (hn : x ≠ "__name__" := by decide) (hdb : (x == ("__debug__" : Str)) = false := by decide)
    (he : starEach (e :: es) P.X.env = (false, eval e P.X.env) :: starEach es P.X.env := by rfl) (hpl : (backTo pos (starEach es P.X.env)).any (·.1) = false := by rfl) : MF P (.Call (.Name x p) (e :: es) [] pos) (fB gf ma) := by
  obtain ⟨t, pt, ht⟩ := ha.out
  obtain ⟨r, hr, hq⟩ := hc
  refine MF.mk' (pe_callTy hr hg hm hv pt hn hdb he hpl) fun B0 B s st u z Q wd sl h => ht B0 B s st u z _ wd sl (PostF.bind h fun ws st1 s1 vs l1 wd1 r1 h1 => ?_)
  cases e : gf ws with
  | none => rw [e] at h1; exact h1.elim
  | some xs => rw [e] at h1; exact hq B s1 st1 ws xs vs Q wd1 r1 e fun us p rl hp => PostF.fresh h1 wd1 rl hp
/-! len, int, tuple, list, isinstance, all, any -/
def lenF : List W → Option W
  | [.val (.str z)] => if z.length ≤ 1000000 then some (.val (.int z.length)) else none
  | [w] => (w.rd.bind D.items).map fun xs => .val (.int xs.length)
  | _ => none
theorem cm_len : CallM P (.builtin "len") lenF := by
  have hS : CallR P.X (.builtin "len") _ := call_len_str
  have hQ : CallR P.X (.builtin "len") _ := call_len_seq
  refine ⟨fun xs H Q => (∃ z, xs = [.str z] ∧ z.length ≤ sizeLine ∧ Q (.int z.length) H) ∨ ∃ p ys, xs = [.ref p] ∧ (SqL P.X.K H p ys ∨ SqT P.X.K H p ys) ∧ Q (.int ys.length) H, ?_, fun B s st ws w vs Q wd r e k => ?_⟩
  · intro pins s z H xs us Q I r h
    rcases h with h | h
    · exact hS pins s z H xs us Q I r h
    · exact hQ pins s z H xs us Q I r h
  · unfold lenF at e
    split at e
    · split at e
      · rename_i hz
        cases e
        cases r with
        | cons r rr => cases rr; cases r; exact .inl ⟨_, rfl, szL hz, k s _ (Le.refl _) wd .int⟩
      · cases e
    · rename_i w0 _
      cases r with
      | cons r rr =>
        cases rr
        cases h1 : w0.rd with
        | none => rw [h1] at e; cases e
        | some d =>
          rw [h1, Option.bind_some] at e
          cases h2 : d.items with
          | none => rw [h2] at e; cases e
          | some xs =>
            rw [h2] at e
            cases e
            obtain ⟨p, us, rfl, hq, rl⟩ := items_ok wd r h1 h2
            exact .inr ⟨p, us, rfl, hq, by rw [← rl.length]; exact k s _ (Le.refl _) wd .int⟩
    · cases e
def intCF : List W → Option W
  | [.val (.int i)] => some (.val (.int i))
  | [.val (.bl b)] => some (.val (.int (if b then 1 else 0)))
  | _ => none
theorem cm_int : CallM P (.type "int") intCF := by
  refine ⟨_, call_int1, fun B s st ws w vs Q wd r e k => ?_⟩
  unfold intCF at e
  split at e
  · cases e
    cases r with
    | cons r rr => cases rr; cases r; exact .inl ⟨_, rfl, k s _ (Le.refl _) wd .int⟩
  · cases e
    cases r with
    | cons r rr => cases rr; cases r; exact .inr ⟨_, rfl, k s _ (Le.refl _) wd .int⟩
  · cases e
/-- tuple(x) -/
def tupCF : List W → Option W
  | [.val (.ctup xs)] => some (.val (.ctup xs))
  | [w] => (w.rd.bind D.items).map fun xs => .val (.tup xs)
  | _ => none
theorem cm_tuple : CallM P (.type "tuple") tupCF := by
  refine ⟨_, call_tupleZ, fun B s st ws w vs Q wd r e k => ?_⟩
  unfold tupCF at e
  split at e
  · cases e
    cases r with
    | cons r rr =>
      cases rr
      cases r with
      | ctup hq rl => exact ⟨_, _, rfl, .inr ⟨by rw [P.hK]; exact same_sqT wd.sub hq, k s _ (Le.refl _) wd (.ctup hq rl)⟩⟩
  · rename_i w0 nc
    cases r with
    | cons r rr =>
      cases rr
      cases h1 : w0.rd with
      | none => rw [h1] at e; cases e
      | some d =>
        rw [h1, Option.bind_some] at e
        cases h2 : d.items with
        | none => rw [h2] at e; cases e
        | some xs =>
          rw [h2] at e
          cases e
          have fresh : ∀ {us : List V}, RepL P.G.K s.F s.io xs us → NewT us s.H Q := fun {us} rl => wd.newT rl fun s' v l w r => k s' v l w r
          cases w0 with
          | val d' =>
            cases h1
            cases r with
            | tup hq rl => cases h2; exact ⟨_, _, rfl, .inr ⟨(hq.mono wd.sub).sq, k s _ (Le.refl _) wd (.tup hq rl)⟩⟩
            | ctup hq rl => exact absurd rfl (nc _)
            | lst hq rl => cases h2; exact ⟨_, _, rfl, .inl ⟨.inl (.inl (wd.sub _ _ hq)), fresh rl⟩⟩
            | ro hq rl => cases h2; exact ⟨_, _, rfl, .inl ⟨by rw [P.hK]; exact same_sqL wd.sub hq, fresh rl⟩⟩
            | _ => cases h2
          | bor ys =>
            cases h1
            cases h2
            obtain ⟨p, us, rfl, _, hq, rl⟩ := r
            exact ⟨p, us, rfl, .inl ⟨.inl (.inl hq), fresh rl⟩⟩
          | bod ks us => cases h1
          | boT ks us => cases h1
          | exn c x => cases h1
  · cases e
/-- list(x) -/
def lstCF : List W → Option (List D)
  | [w] => w.rd.bind D.items
  | _ => none
theorem cf_list : CallF P (.type "list") lstCF := by
  refine ⟨_, call_list_of, fun B s st ws xs vs Q wd r e k => ?_⟩
  unfold lstCF at e
  split at e
  · rename_i w0
    cases r with
    | cons r rr =>
      cases rr
      cases h1 : w0.rd with
      | none => rw [h1] at e; cases e
      | some d =>
        rw [h1, Option.bind_some] at e
        obtain ⟨p, us, rfl, hq, rl⟩ := items_ok wd r h1 e
        exact ⟨p, us, rfl, hq, fun l hl => k us l rl hl⟩
  · cases e
/-- isinstance(x, T), T a built-in type -/
def D.tyn : D → Option String
  | .non => some "NoneType"
  | .bl _ => some "bool"
  | .int _ => some "int"
  | .str _ => some "str"
  | .tup _ => some "tuple"
  | .ctup _ => some "tuple"
  | .lst _ => some "list"
  | .dict _ _ => some "dict"
  | _ => none
def isiF : List W → Option W
  | [x, .val (.ty T)] => (x.rd.bind D.tyn).bind fun t => (kitB t T).map fun b => .val (.bl b)
  | _ => none
theorem tyn_ok {d : D} {v : V} {t : String} {F : Hp} {io : Io} (r : Rep P.G.K F io d v) (e : d.tyn = some t) : TyX P.X.K F v (.type t) := by
  rw [P.hK]
  cases r with
  | non => cases e; exact .base .non
  | bl => cases e; exact .base (.bl _)
  | int => cases e; exact .base (.int _)
  | str => cases e; exact .base (.str _)
  | tup hq rl => cases e; obtain ⟨o, hq, _⟩ := hq; exact .fTuple hq
  | dict hq _ _ => cases e; exact .fDict hq
  | ctup hq rl =>
    cases e
    rcases hq with (hq | ⟨o, hq⟩) | ⟨o, its, n, h1, h2, _⟩
    · exact .base (.tup hq)
    · exact .fTuple hq
    · exact .kTuple h1 h2
  | lst hq rl => cases e; exact .base (.lst hq)
  | _ => cases e
theorem cm_isi : CallM P (.builtin "isinstance") isiF := by
  refine ⟨_, call_isi, fun B s st ws w vs Q wd r e k => ?_⟩
  unfold isiF at e
  split at e
  · rename_i x0 T
    cases r with
    | cons r rr =>
      cases rr with
      | cons r2 rr =>
        cases rr
        cases r2
        cases h1 : x0.rd with
        | none => rw [h1] at e; cases e
        | some d =>
          rw [h1, Option.bind_some] at e
          cases h2 : d.tyn with
          | none => rw [h2] at e; cases e
          | some t =>
            rw [h2, Option.bind_some] at e
            cases h3 : kitB t T with
            | none => rw [h3] at e; cases e
            | some b =>
              rw [h3] at e
              cases e
              exact ⟨_, _, .type t, .type T, b, rfl, .ty T, tyn_ok (rd_ok wd r h1) h2, kit_ty h3, k s _ (Le.refl _) wd .bl⟩
  · cases e
end
end M3


namespace M3
open PySem PySem.Spec PyProof.Rows L2

/-! ### slices -/
abbrev PM := Sl3 → M (Option Int)
def pNone : PM := fun _ => M.pure none
def pSome (m : EM) : PM := fun u => M.bind (m u) fun w => match w with
  | .val (.int i) => M.pure (some i)
  | _ => M.bad
structure MP (P : P3) (e : Option Expr) (m : PM) : Prop where
  out : ∃ t, PO P.X e t ∧ ∀ (B0 B : Addr → Prop) (s : S3) (st : Store) (u : Sl3) (z : L2.St) (Q : Option Int → Hp → Prop), Wd P.G B st s → Slo P.G P.hx B0 B s u z →
    Post P.G B (fun _ a b => a = b) (fun c d H => P.wx c d z H) s Q (m u st) → t z s.H Q
section
variable {P : P3} {pos p2 : Pos} {e : Expr} {m : EM} {lo hi : Option Expr} {ml mh : PM}
theorem mp_none : MP P none pNone := ⟨_, po_none, fun B0 B s st u z Q wd sl h => h.pure wd rfl⟩
theorem mp_some (he : ME P e m) : MP P (some e) (pSome m) := by
  obtain ⟨t, pt, ht⟩ := he.out
  refine ⟨_, po_some pt, fun B0 B s st u z Q wd sl h => ht B0 B s st u z _ wd sl (Post.bind h fun w st1 s1 v l1 wd1 r1 h1 => ?_)⟩
  split at h1
  · cases r1; exact ⟨_, rfl, h1.pure wd1 rfl⟩
  · exact h1.elim
def cutD {α : Type} (xs : List α) (lo hi : Option Int) : List α := (xs.drop (HT.sIx xs.length 0 lo)).take (HT.sIx xs.length xs.length hi - HT.sIx xs.length 0 lo)
theorem cut_rep {K : PySem.W.Frag} {F : Hp} {io : Io} {xs : List D} {vs : List V} (r : RepL K F io xs vs) (lo hi : Option Int) : RepL K F io (cutD xs lo hi) (cutV vs lo hi) := by
  unfold cutD cutV
  rw [r.length]
  exact (r.drop _).take _
/-- a text or a tuple, cut -/
def slF (x : W) (lo hi : Option Int) : Option W := match x with
  | .val (.str z) => if z.length ≤ 1000000 then some (.val (.str (cutS z lo hi))) else none
  | .val (.tup xs) => some (.val (.tup (cutD xs lo hi)))
  | _ => none
def eSl (m : EM) (l h : PM) : EM := fun u => M.bind (m u) fun x => M.bind (l u) fun a => M.bind (h u) fun b => M.of (slF x a b)
/-- a list, cut -/
def fSl (m : EM) (l h : PM) : FM := fun u => M.bind (m u) fun x => M.bind (l u) fun a => M.bind (h u) fun b => M.of (x.ls.map fun xs => cutD xs a b)
/-- whatever it is -/
def eSlA (m : EM) (l h : PM) : EM := fun u => M.bind (m u) fun x => M.bind (l u) fun a => M.bind (h u) fun b => match x.ls with
  | some xs => M.pure (.val (.lst (cutD xs a b)))
  | none => M.of (slF x a b)
theorem cut_all {α : Type} {xs : List α} {lo hi : Option Int} (h : HT.sIx xs.length 0 lo = 0 ∧ HT.sIx xs.length xs.length hi = xs.length) : cutD xs lo hi = xs := by
  unfold cutD
  rw [h.1, h.2]
  simp
theorem me_sl (he : ME P e m) (hl : MP P lo ml) (hh : MP P hi mh) : ME P (.Subscript e (.Slice lo hi none p2) pos) (eSlA m ml mh) := by
  obtain ⟨t, pt, ht⟩ := he.out
  obtain ⟨tl, pl, htl⟩ := hl.out
  obtain ⟨th, ph, hth⟩ := hh.out
  refine ME.mk' (pe_slice (sl_str.or (sl_tupZ.or sl_list)) pt pl ph) fun B0 B s st u z Q wd sl h => ht B0 B s st u z _ wd sl (Post.bind h fun w st1 s1 v l1 wd1 r1 h1 => ?_)
  refine htl B0 B s1 st1 u z _ wd1 (sl.mono' l1) (Post.bind h1 fun a st2 s2 a' l2 wd2 ra h2 => ?_)
  subst ra
  refine hth B0 B s2 st2 u z _ wd2 (sl.mono' (l1.trans l2)) (Post.bind h2 fun b st3 s3 b' l3 wd3 rb h3 => ?_)
  subst rb
  have r3 := r1.mono (l2.trans l3)
  cases e1 : w.ls with
  | some xs =>
    rw [e1] at h3
    obtain ⟨p, vs, rfl, hp, rl⟩ := ls_ok wd3 r3 e1
    refine .inr (.inr ⟨p, vs, rfl, .inl (.inl hp), fun q hq => ?_⟩)
    obtain ⟨wd4, l4⟩ := wd3.froz hq (.lst (cutV vs a b))
    exact h3 (s3.froz q (.lst (cutV vs a b))) (.ref q) l4 wd4 (.lst upd_same ((cut_rep rl a b).mono l4.fr l4.io))
  | none =>
    rw [e1] at h3
    clear e1
    obtain ⟨w', e1, h3⟩ := of_eq h3
    unfold slF at e1
    split at e1
    · split at e1
      · rename_i hz
        cases e1
        cases r3
        exact .inl ⟨_, rfl, szL hz, h3.pure wd3 .str⟩
      · cases e1
    · rename_i xs _
      cases e1
      cases r3 with
      | tup hq rl =>
        refine .inr (.inl ⟨_, _, rfl, (hq.mono wd3.sub).sq, fun hw => ?_, fun hw => ?_⟩)
        · rw [← rl.length] at hw
          have h3 := h3
          rw [cut_all hw] at h3
          exact h3.pure wd3 (.tup hq rl)
        · exact wd3.newT (cut_rep rl a b) fun s' v l w r => h3 s' v l w r
    · cases e1

/-! ### a list of one's own grows -/
/-- x.append(e) -/
def sApp (i : Nat) (m : EM) : SM := fun u st => match u[i]? with
  | some (some (.bor xs)) => match m u st with
    | .ok (.val d) st' => if xs.length < 1000000 then .nx (u.set i (some (.bor (xs ++ [d])))) st' else .bad
    | .ok _ _ => .bad
    | .err c x st' => .err c x u st'
    | .bad => .bad
  | _ => .bad
/-- the thing at slot i is changed: it is o, of w' -/
theorem Slo.changeW {G : G3} {X : Hex} {B0 B : Addr → Prop} {s : S3} {u : Sl3} {z : L2.St} {i : Nat} {w0 : W} {st : Store} (h : Slo G X B0 B s u z) (wd : Wd G B st s) (e : u[i]? = some (some w0)) (o0 : w0.own = true) :
    ∃ p, z[i]? = some (some (.ref p)) ∧ B p ∧ ¬ B0 p ∧ RepW G X B s w0 (.ref p) ∧ ∀ (w' : W) (ho : HO), w'.own = true → RepW G X B ⟨s.io, s.F, upd s.H p ho⟩ w' (.ref p) →
      Slo G X B0 B ⟨s.io, s.F, upd s.H p ho⟩ (u.set i (some w')) z ∧ Wd G B st ⟨s.io, s.F, upd s.H p ho⟩ ∧ Le B0 s ⟨s.io, s.F, upd s.H p ho⟩ := by
  obtain ⟨hl, ow, h1, h2⟩ := h
  obtain ⟨v, e1, rw0, q⟩ := h1 i _ e
  obtain ⟨e3, nb⟩ := q o0
  subst e3
  obtain ⟨p, e3, bp⟩ := own_ref o0 rw0
  injection e3 with e3
  have hF := (wd.hid p bp).1
  refine ⟨p, by rw [← e3]; exact e1, bp, by rw [← e3]; exact nb, by rw [← e3]; exact rw0, fun w' ho o' ru => ⟨⟨by simpa using hl, ow, fun j w ej => ?_, fun j k wj wk oj ok q1 q2 q3 => ?_⟩, ⟨fun b o eb => ?_, fun a ba => ?_, wd.dom, wd.inj, fun k o ek => ?_⟩, IoLe.refl _, Same.refl _, fun a ba => ?_⟩⟩
  · rcases get_set ej with ⟨rfl, rfl⟩ | ⟨ne, ej⟩
    · exact ⟨.ref p, by rw [← e3]; exact e1, ru, fun q' => ⟨by rw [e3], nb⟩⟩
    · obtain ⟨v, ev, rv, qv⟩ := h1 j w ej
      refine ⟨v, ev, ?_, qv⟩
      have away : w.own = true → ∀ p', v = .ref p' → p' ≠ p := fun ow' p' e' z => by
        obtain ⟨e4, _⟩ := qv ow'
        rw [e'] at e4
        injection e4 with e4
        exact ne (h2 i j w0 w o0 ow' e ej (by rw [e3, ← e4, z]))
      cases w with
      | val d => exact rv
      | exn c x => exact rv
      | bor xs' =>
        obtain ⟨p', vs', rfl, b', hp', rl'⟩ := rv
        exact ⟨p', vs', rfl, b', (upd_ne (away rfl p' rfl)).trans hp', rl'⟩
      | bod ks us =>
        obtain ⟨p', vs', rfl, b', hp', rl'⟩ := rv
        exact ⟨p', vs', rfl, b', (upd_ne (away rfl p' rfl)).trans hp', rl'⟩
      | boT ks us =>
        obtain ⟨p', vs', rfl, b', hp', rl'⟩ := rv
        exact ⟨p', vs', rfl, b', (upd_ne (away rfl p' rfl)).trans hp', rl'⟩
  · have old : ∀ {j : Nat} {w1 : M3.W}, w1.own = true → (u.set i (some w'))[j]? = some (some w1) → ∃ w2 : M3.W, w2.own = true ∧ u[j]? = some (some w2) := fun {j w1} o1 q => by
      rcases get_set q with ⟨rfl, _⟩ | ⟨_, q⟩
      · exact ⟨w0, o0, e⟩
      · exact ⟨w1, o1, q⟩
    obtain ⟨a1, oa1, q1⟩ := old oj q1
    obtain ⟨a2, oa2, q2⟩ := old ok q2
    exact h2 j k a1 a2 oa1 oa2 q1 q2 q3
  · show upd s.H p _ b = some o
    rw [upd_ne (fun z => by subst z; have eb : s.F b = some o := eb; rw [hF] at eb; cases eb)]
    exact wd.sub b o eb
  · obtain ⟨a1, o, a2⟩ := wd.hid a ba
    by_cases q : a = p
    · subst q; exact ⟨a1, _, upd_same⟩
    · exact ⟨a1, o, (upd_ne q).trans a2⟩
  · obtain ⟨a, a1, a2, a3, a4⟩ := wd.obj k o ek
    have na : a ≠ p := fun z => a2 (z ▸ bp)
    exact ⟨a, a1, a2, a3, ObjR.mono (s := s) (s' := ⟨s.io, s.F, upd s.H p ho⟩) (IoLe.refl _) (Same.refl _) (upd_ne na) a4⟩
  · exact upd_ne fun z => nb (by rw [e3, ← z]; exact ba)
/-- the list at slot i is changed -/
theorem Slo.change {G : G3} {X : Hex} {B0 B : Addr → Prop} {s : S3} {u : Sl3} {z : L2.St} {i : Nat} {xs ys : List D} {st : Store} (h : Slo G X B0 B s u z) (wd : Wd G B st s) (e : u[i]? = some (some (.bor xs))) :
    ∃ p vs, z[i]? = some (some (.ref p)) ∧ B p ∧ ¬ B0 p ∧ s.H p = some (.lst vs) ∧ RepL G.K s.F s.io xs vs ∧ ∀ us, RepL G.K s.F s.io ys us →
      Slo G X B0 B ⟨s.io, s.F, upd s.H p (.lst us)⟩ (u.set i (some (.bor ys))) z ∧ Wd G B st ⟨s.io, s.F, upd s.H p (.lst us)⟩ ∧ Le B0 s ⟨s.io, s.F, upd s.H p (.lst us)⟩ := by
  obtain ⟨p, ez, bp, nb, ⟨p', vs, e', b', hp, rl⟩, ch⟩ := h.changeW wd e rfl
  cases e'
  exact ⟨p, vs, ez, bp, nb, hp, rl, fun us ru => ch (.bor ys) (.lst us) rfl ⟨p, us, rfl, bp, upd_same, ru⟩⟩
theorem ms_app (i : Nat) {x : Str} {px apos cpos : Pos} (he : ME P e m) (hN : P.X.N[i]? = some x := by rfl) (hv : Vis P.X.env.scope x := by first | exact Or.inl rfl | exact Or.inr (Or.inl rfl) | exact Or.inr (Or.inr rfl)) (hd : (x == ("__debug__" : Str)) = false := by decide)
    (hcd : (x == ("__classdict__" : Str)) = false := by decide) (hst : starEach [e] P.X.env = (false, eval e P.X.env) :: starEach [] P.X.env := by rfl)
    (hbase : attributeBase (.Name x px) "append" P.X.env (eval (.Name x px) P.X.env) = eval (.Name x px) P.X.env := by rfl)
    (hfew : ((backTo cpos (starEach [e] P.X.env)).all (fun x => !x.1) && (backToKw cpos (keywordEach [] P.X.env)).all (fun x => x.1.isSome) && decide (([e] : List Expr).length + ([] : List Keyword).length + (if ([] : List Keyword).isEmpty then 0 else 1) < 30)) = true := by rfl)
    (hline : (apos.endLine == cpos.line) = true := by rfl) (hplain : (backTo cpos (starEach [] P.X.env)).any (·.1) = false := by rfl)
    (hs : swapsWith (.Call (.Attribute (.Name x px) "append" apos) [e] [] cpos) none pos.line P.X.env = pure false := by rfl) :
    MS P (.Expr (.Call (.Attribute (.Name x px) "append" apos) [e] [] cpos) pos) (sApp i m) := by
  obtain ⟨t, pt, ht⟩ := he.out
  refine MS.mk' (ps_expr (pe_bm PySem.F.plainAttrs_list PySem.F.slot_list_append PySem.F.type_list_append mt_append (pe_var hN hv hd hcd) (pa_cons pt pa_nil hst) hbase hfew hline hst hplain) hs) fun B0 B s o u z D b0 wd sl h => ?_
  unfold sApp at h
  split at h
  · rename_i xs e1
    obtain ⟨p, vs, e2, bp, nb, hp, rl, _⟩ := sl.change (ys := []) wd e1
    refine ⟨.ref p, e2, .inl ⟨rfl, vs, .inl (.inl hp)⟩, ht B0 B s o u z _ wd sl ?_⟩
    cases em : m u o with
    | bad => rw [em] at h; exact h
    | err c x st' => rw [em] at h; exact fun s' cv dd l w q => h B s' z cv dd b0 (l.less b0) w (sl.mono' l) q
    | ok w st' =>
      rw [em] at h
      cases w with
      | bor xs => exact h.elim
      | bod ks us => exact h.elim
      | boT ks us => exact h.elim
      | exn c x => exact h.elim
      | val d =>
        dsimp only at h
        split at h
        · rename_i hz
          intro s' v l w r
          obtain ⟨p', vs', e2', bp', nb', hp', rl', ch⟩ := (sl.mono' l).change (ys := xs ++ [d]) w e1
          rw [e2] at e2'; cases e2'
          obtain ⟨sl2, w2, l2⟩ := ch (vs' ++ [v]) (rl'.append (.cons r .nil))
          exact ⟨p, vs', v, rfl, rfl, hp', by rw [← rl'.length]; exact szl hz, h B _ z b0 ((l.less b0).trans l2) w2 sl2⟩
        · exact h.elim
  · exact h.elim
end
end M3


namespace M3
open PySem PySem.Spec PyProof.Rows L2

/-! ### x in y -/
def rInT (K : PySem.W.Frag) : R2 := fun x y H Q => ∃ d ds, Dp K H x d ∧ Dp K H y (.tuple ds) ∧ SeqAt.shaped d = true ∧ SeqAt.shaped (.tuple ds) = true ∧ Q (.bl (ds.any fun z => PyData.eqv z d)) H
def rNotInT (K : PySem.W.Frag) : R2 := fun x y H Q => ∃ d ds, Dp K H x d ∧ Dp K H y (.tuple ds) ∧ SeqAt.shaped d = true ∧ SeqAt.shaped (.tuple ds) = true ∧ Q (.bl (!ds.any fun z => PyData.eqv z d)) H
section
variable {X : Cx}
theorem op_inT (hu : X.A.units + 65 < cLine) : OpR X (compareOp .In) (rInT X.K) := by
  rintro pins now σ H x y v u Q inv rx ry ⟨d, ds, dx, dy, shx, shy, q⟩
  obtain ⟨_, readsx⟩ := Dp.reads inv d x v dx rx
  obtain ⟨_, readsy⟩ := Dp.reads inv _ y u dy ry
  exact SeqAt.in_tuple_reads readsy readsx (SeqAt.canLay_of_shaped shy) (SeqAt.canLay_of_shaped shx) (room_in_shaped shx hu) ⟨V.bl _, H, inv, rfl, q⟩
theorem op_notInT (hu : X.A.units + 65 < cLine) : OpR X (compareOp .NotIn) (rNotInT X.K) := by
  rintro pins now σ H x y v u Q inv rx ry ⟨d, ds, dx, dy, shx, shy, q⟩
  obtain ⟨_, readsx⟩ := Dp.reads inv d x v dx rx
  obtain ⟨_, readsy⟩ := Dp.reads inv _ y u dy ry
  exact SeqAt.notIn_tuple_reads readsy readsx (SeqAt.canLay_of_shaped shy) (SeqAt.canLay_of_shaped shx) (room_in_shaped shx hu) ⟨V.bl _, H, inv, rfl, q⟩
theorem op_dinV (hu : X.A.units + 1 < cLine) : OpR X (compareOp .In) (fun y x H Q => ∃ a o, x = .ref a ∧ DGet H a y o ∧ Q (.bl o.isSome) H) := by
  intro pins s σ H y x u v Q I ry rx h
  obtain ⟨a, o, rfl, g, q⟩ := h
  cases rx
  exact d_in hu I g ry fun s' I' => ⟨.bl _, H, I', rfl, q⟩
theorem op_dnotInV (hu : X.A.units + 1 < cLine) : OpR X (compareOp .NotIn) (fun y x H Q => ∃ a o, x = .ref a ∧ DGet H a y o ∧ Q (.bl (!o.isSome)) H) := by
  intro pins s σ H y x u v Q I ry rx h
  obtain ⟨a, o, rfl, g, q⟩ := h
  cases rx
  exact d_notIn hu I g ry fun s' I' => ⟨.bl _, H, I', rfl, q⟩
end
/-- keys -/
def D.key : D → Option Key
  | .int i => some (.inl i)
  | .str x => some (.inr x)
  | _ => none
def D.keys : List D → Option (List Key)
  | [] => some []
  | d :: ds => match d.key, D.keys ds with
    | some k, some ks => some (k :: ks)
    | _, _ => none
/-- the value at a key, in two lists -/
def atK {κ : Type} [DecidableEq κ] : List κ → List D → κ → Option D
  | k :: ks, d :: ds, x => if k = x then some d else atK ks ds x
  | _, _, _ => none
def setK3 {κ : Type} [DecidableEq κ] : List κ → List D → κ → D → List D
  | k :: ks, d :: ds, x, y => (if k = x then y else d) :: setK3 ks ds x y
  | _, ds, _, _ => ds
def putK3 {κ : Type} [DecidableEq κ] (ks : List κ) (ds : List D) (x : κ) (y : D) : List κ × List D := if x ∈ ks then (ks, setK3 ks ds x y) else (ks ++ [x], ds ++ [y])
/-- what a dict holds at a key: none: not asked -/
def dgetF (d k : D) : Option (Option D) := match d, k with
  | .dict ks us, k => k.key.map fun x => atK ks us x
  | _, _ => none
/-- a dict's data in the heap -/
inductive DAt (K : PySem.W.Frag) (io : Io) (F H : Hp) (a : Addr) : D → Prop where
  | k {kvs : List (Key × V)} {us : List D} : Rd H a (.dK kvs) → RepL K F io us (kvs.map (·.2)) → DAt K io F H a (.dict (kvs.map (·.1)) us)
  | t {kvs : List (List Key × V)} {us : List D} : Rd H a (.dT kvs) → RepL K F io us (kvs.map (·.2)) → DAt K io F H a (.dicT (kvs.map (·.1)) us)
section
variable {K : PySem.W.Frag} {F H : Hp} {io : Io}
theorem valV_nil {κ : Type} [DecidableEq κ] (x : κ) : valV ([] : List (κ × V)) x = none := rfl
theorem atK_ok {κ : Type} [DecidableEq κ] (x : κ) : ∀ {kvs : List (κ × V)} {us : List D}, RepL K F io us (kvs.map (·.2)) → (∀ d, atK (kvs.map (·.1)) us x = some d → ∃ v, valV kvs x = some v ∧ Rep K F io d v) ∧ (atK (kvs.map (·.1)) us x = none → valV kvs x = none)
  | [], _, rl => by
    cases rl
    exact ⟨fun d h => (by cases h), fun _ => rfl⟩
  | (k, v) :: kvs, [], rl => by cases rl
  | (k, v) :: kvs, d :: us, rl => by
    obtain ⟨r, t⟩ : Rep K F io d v ∧ RepL K F io us (kvs.map (·.2)) := by
      cases rl with
      | cons r t => exact ⟨r, t⟩
    have ih := atK_ok x t
    have e1 : valV ((k, v) :: kvs) x = if k = x then some v else valV kvs x := by
      unfold valV
      by_cases h : k = x
      · simp [h]
      · simp [h]
    show (∀ d', (if k = x then some d else atK (kvs.map (·.1)) us x) = some d' → _) ∧ _
    rw [e1]
    refine ⟨fun d' h => ?_, fun h => ?_⟩
    · by_cases q : k = x
      · rw [if_pos q] at h ⊢; cases h; exact ⟨v, rfl, r⟩
      · rw [if_neg q] at h ⊢; exact ih.1 d' h
    · have h : (if k = x then some d else atK (kvs.map (·.1)) us x) = none := h
      by_cases q : k = x
      · rw [if_pos q] at h; cases h
      · rw [if_neg q] at h ⊢; exact ih.2 h
theorem key_ok {d : D} {v : V} {k : Key} (r : Rep K F io d v) (e : d.key = some k) : v = kV k := by
  unfold D.key at e
  split at e
  · cases e; cases r; rfl
  · cases e; cases r; rfl
  · cases e
theorem keys_ok : ∀ {ds : List D} {vs : List V} {ks : List Key}, RepL K F io ds vs → D.keys ds = some ks → vs = ks.map kV
  | [], _, _, .nil, e => by unfold D.keys at e; cases e; rfl
  | d :: ds, _, ks, .cons r t, e => by
    unfold D.keys at e
    split at e
    · rename_i k ks' e1 e2
      cases e
      rw [key_ok r e1, keys_ok t e2]
      rfl
    · cases e
/-- a key that is read: where -/
theorem dget_ok {a : Addr} {d k : D} {y : V} {o : Option D} (at_ : DAt K io F H a d) (hs : Same F H) (r : Rep K F io k y) (e : dgetF d k = some o) :
    ∃ ov, DGet H a y ov ∧ ov.isSome = o.isSome ∧ ∀ d', o = some d' → ∃ v, ov = some v ∧ Rep K F io d' v := by
  have fin : ∀ {κ : Type} [DecidableEq κ] {kvs : List (κ × V)} {us : List D} {x : κ}, RepL K F io us (kvs.map (·.2)) → o = atK (kvs.map (·.1)) us x →
      (valV kvs x).isSome = o.isSome ∧ ∀ d', o = some d' → ∃ v, valV kvs x = some v ∧ Rep K F io d' v := fun {κ _ kvs us x} rl eo => by
    obtain ⟨h1, h2⟩ := atK_ok x rl
    cases q : atK (kvs.map (·.1)) us x with
    | none => rw [q] at eo; subst eo; rw [h2 q]; exact ⟨rfl, fun d' z => by cases z⟩
    | some d' =>
      rw [q] at eo
      subst eo
      obtain ⟨v, hv, rv⟩ := h1 d' q
      rw [hv]
      exact ⟨rfl, fun d2 z => by cases z; exact ⟨v, rfl, rv⟩⟩
  cases at_ with
  | @k kvs us ha rl =>
    have e : (k.key.map fun x => atK (kvs.map (·.1)) us x) = some o := e
    cases hk : k.key with
    | none => rw [hk] at e; cases e
    | some x =>
      rw [hk] at e
      cases e
      obtain rfl := key_ok r hk
      exact ⟨_, .inl ⟨kvs, x, ha, rfl, rfl⟩, fin rl rfl⟩
  | @t kvs us ha rl => cases e
end
def W.dic : W → Option D
  | .val (.dict ks us) => some (.dict ks us)
  | .val (.dicT ks us) => some (.dicT ks us)
  | .bod ks us => some (.dict ks us)
  | .boT ks us => some (.dicT ks us)
  | _ => none
theorem dic_ok {G : G3} {X : Hex} {B : Addr → Prop} {s : S3} {st : Store} {w : W} {v : V} {d : D} (wd : Wd G B st s) (r : RepW G X B s w v) (e : w.dic = some d) : ∃ a, v = .ref a ∧ DAt G.K s.io s.F s.H a d := by
  unfold W.dic at e
  split at e
  · cases e; cases r with | dict h q rl => subst q; exact ⟨_, rfl, .k (.inr ⟨_, wd.sub _ _ h⟩) rl⟩
  · cases e; cases r with | dicT h q rl => subst q; exact ⟨_, rfl, .t (.inr ⟨_, wd.sub _ _ h⟩) rl⟩
  · cases e; obtain ⟨p, kvs, rfl, _, h, q, rl⟩ := r; subst q; exact ⟨_, rfl, .k (.inl h) rl⟩
  · cases e; obtain ⟨p, kvs, rfl, _, h, q, rl⟩ := r; subst q; exact ⟨_, rfl, .t (.inl h) rl⟩
  · cases e
/-- in: a sign in a text, an item of a list or tuple, a key of a dict -/
def inF (neg : Bool) (x y : W) : Option W := match x, y with
  | .val (.str a), .val (.str b) => match a.cps.toList with
    | [c] => some (.val (.bl (if neg then !decide (c ∈ b.cps.toList) else decide (c ∈ b.cps.toList))))
    | _ => none
  | x, y => match y.dic with
    | some d => match x with
      | .val k => (dgetF d k).map fun o => .val (.bl (if neg then !o.isSome else o.isSome))
      | _ => none
    | none => match x.rd, y.rd with
      | some a, some b => match a.py, b.py with
        | some p, some (.list ps) => if SeqAt.shaped p = true ∧ SeqAt.shaped (.list ps) = true then some (.val (.bl (if neg then !ps.any fun z => PyData.eqv z p else ps.any fun z => PyData.eqv z p))) else none
        | some p, some (.tuple ps) => if SeqAt.shaped p = true ∧ SeqAt.shaped (.tuple ps) = true then some (.val (.bl (if neg then !ps.any fun z => PyData.eqv z p else ps.any fun z => PyData.eqv z p))) else none
        | _, _ => none
      | _, _ => none
section
variable {P : P3}
theorem in_ok {op : CmpOp} (neg : Bool) {R1 R2' R3 R4 : R2} (h1 : OpR P.X (compareOp op) R1) (h2 : OpR P.X (compareOp op) R2') (h3 : OpR P.X (compareOp op) R3) (h4 : OpR P.X (compareOp op) R4)
    (g1 : ∀ (c : Nat) (z : Str) H Q, Q (.bl (if neg then !decide (c ∈ z.cps.toList) else decide (c ∈ z.cps.toList))) H → R1 (.str ⟨#[c]⟩) (.str z) H Q)
    (g2 : ∀ a o y H Q, DGet H a y o → Q (.bl (if neg then !o.isSome else o.isSome)) H → R2' y (.ref a) H Q)
    (g3 : ∀ d ds x y H Q, Dp P.X.K H x d → Dp P.X.K H y (.list ds) → SeqAt.shaped d = true → SeqAt.shaped (.list ds) = true → Q (.bl (if neg then !ds.any fun z => PyData.eqv z d else ds.any fun z => PyData.eqv z d)) H → R3 x y H Q)
    (g4 : ∀ d ds x y H Q, Dp P.X.K H x d → Dp P.X.K H y (.tuple ds) → SeqAt.shaped d = true → SeqAt.shaped (.tuple ds) = true → Q (.bl (if neg then !ds.any fun z => PyData.eqv z d else ds.any fun z => PyData.eqv z d)) H → R4 x y H Q) :
    OpM P (compareOp op) (inF neg) := by
  refine ⟨_, h1.or (h2.or (h3.or h4)), fun B s st w1 w2 w v1 v2 Q wd r1 r2 e k => ?_⟩
  unfold inF at e
  split at e
  · rename_i a b
    split at e
    · rename_i c hc
      have ea : a = ⟨#[c]⟩ := by
        obtain ⟨cs⟩ := a
        have : cs = #[c] := by
          have := congrArg List.toArray hc
          simpa using this
        rw [this]
      subst ea
      cases e; cases r1; cases r2
      exact .inl (g1 _ _ _ _ (k s _ (Le.refl _) wd .bl))
    · cases e
  · split at e
    · rename_i d hd
      split at e
      · rename_i kd _
        obtain ⟨a, rfl, at_⟩ := dic_ok wd r2 hd
        cases hg : dgetF d kd with
        | none => rw [hg] at e; cases e
        | some o =>
          rw [hg] at e
          cases e
          obtain ⟨ov, g, h, _⟩ := dget_ok at_ wd.sub r1 hg
          exact .inr (.inl (g2 _ _ _ _ _ g (by rw [h]; exact k s _ (Le.refl _) wd .bl)))
      · cases e
    · split at e
      · rename_i a b ea eb
        split at e
        · rename_i p ps ep eps
          split at e
          · rename_i hs
            cases e
            exact .inr (.inr (.inl (g3 p ps _ _ _ _ (by rw [P.hK]; exact py_ok (rd_ok wd r1 ea) ep) (by rw [P.hK]; exact py_ok (rd_ok wd r2 eb) eps) hs.1 hs.2 (k s _ (Le.refl _) wd .bl))))
          · cases e
        · rename_i p ps ep eps
          split at e
          · rename_i hs
            cases e
            exact .inr (.inr (.inr (g4 p ps _ _ _ _ (by rw [P.hK]; exact py_ok (rd_ok wd r1 ea) ep) (by rw [P.hK]; exact py_ok (rd_ok wd r2 eb) eps) hs.1 hs.2 (k s _ (Le.refl _) wd .bl))))
          · cases e
        · cases e
      · cases e
theorem om_in (hu : P.X.A.units + 65 < cLine) : OpM P (compareOp .In) (inF false) :=
  in_ok false op_in_sign (op_dinV (Nat.lt_of_le_of_lt (by omega) hu)) (op_inD hu) (op_inT hu) (fun c z H Q h => ⟨c, z, rfl, rfl, h⟩) (fun a o y H Q g h => ⟨a, o, rfl, g, h⟩) (fun d ds x y H Q a b c e h => ⟨d, ds, a, b, c, e, h⟩) (fun d ds x y H Q a b c e h => ⟨d, ds, a, b, c, e, h⟩)
theorem om_notin (hu : P.X.A.units + 65 < cLine) : OpM P (compareOp .NotIn) (inF true) :=
  in_ok true op_notIn_sign (op_dnotInV (Nat.lt_of_le_of_lt (by omega) hu)) (op_notInD hu) (op_notInT hu) (fun c z H Q h => ⟨c, z, rfl, rfl, h⟩) (fun a o y H Q g h => ⟨a, o, rfl, g, h⟩) (fun d ds x y H Q a b c e h => ⟨d, ds, a, b, c, e, h⟩) (fun d ds x y H Q a b c e h => ⟨d, ds, a, b, c, e, h⟩)
end

/-! ### all, any, min, max -/
def D.bls : List D → Option (List Bool)
  | [] => some []
  | .bl b :: ds => (D.bls ds).map (b :: ·)
  | _ :: _ => none
theorem bls_ok {K : PySem.W.Frag} {F : Hp} {io : Io} : ∀ {ds : List D} {vs : List V} {bs : List Bool}, RepL K F io ds vs → D.bls ds = some bs → vs = bs.map V.bl
  | [], _, _, .nil, e => by unfold D.bls at e; cases e; rfl
  | d :: ds, _, bs, .cons r t, e => by
    cases d with
    | bl b =>
      unfold D.bls at e
      cases h : D.bls ds with
      | none => rw [h] at e; cases e
      | some bs' =>
        rw [h] at e
        cases e
        cases r
        rw [bls_ok t h]
        rfl
    | _ => unfold D.bls at e; cases e
def allF : List W → Option W
  | [w] => w.ls.bind fun xs => (D.bls xs).map fun bs => .val (.bl (bs.all id))
  | _ => none
def anyF : List W → Option W
  | [w] => w.ls.bind fun xs => (D.bls xs).map fun bs => .val (.bl (bs.any id))
  | _ => none
def minF : List W → Option W
  | [.val (.int i), .val (.int j)] => some (.val (.int (if j < i then j else i)))
  | _ => none
def maxF : List W → Option W
  | [.val (.int i), .val (.int j)] => some (.val (.int (if j > i then j else i)))
  | _ => none
section
variable {P : P3}
theorem cm_all (hc : P.X.calm = true) : CallM P (.builtin "all") allF := by
  refine ⟨_, cr_all hc, fun B s st ws w vs Q wd r e k => ?_⟩
  unfold allF at e
  split at e
  · rename_i w0
    cases r with
    | cons r rr =>
      cases rr
      cases h1 : w0.ls with
      | none => rw [h1] at e; cases e
      | some xs =>
        rw [h1, Option.bind_some] at e
        cases h2 : D.bls xs with
        | none => rw [h2] at e; cases e
        | some bs =>
          rw [h2] at e
          cases e
          obtain ⟨p, us, rfl, hp, rl⟩ := ls_ok wd r h1
          obtain rfl := bls_ok rl h2
          exact ⟨p, bs, rfl, .inl (.inl hp), k s _ (Le.refl _) wd .bl⟩
  · cases e
theorem cm_any (hc : P.X.calm = true) : CallM P (.builtin "any") anyF := by
  refine ⟨_, cr_any hc, fun B s st ws w vs Q wd r e k => ?_⟩
  unfold anyF at e
  split at e
  · rename_i w0
    cases r with
    | cons r rr =>
      cases rr
      cases h1 : w0.ls with
      | none => rw [h1] at e; cases e
      | some xs =>
        rw [h1, Option.bind_some] at e
        cases h2 : D.bls xs with
        | none => rw [h2] at e; cases e
        | some bs =>
          rw [h2] at e
          cases e
          obtain ⟨p, us, rfl, hp, rl⟩ := ls_ok wd r h1
          obtain rfl := bls_ok rl h2
          exact ⟨p, bs, rfl, .inl (.inl hp), k s _ (Le.refl _) wd .bl⟩
  · cases e
theorem cm_min (hc : P.X.calm = true) : CallM P (.builtin "min") minF := by
  refine ⟨_, call_min2 hc, fun B s st ws w vs Q wd r e k => ?_⟩
  unfold minF at e
  split at e
  · cases e
    cases r with
    | cons r rr =>
      cases rr with
      | cons r2 rr =>
        cases rr; cases r; cases r2
        exact ⟨_, _, rfl, k s _ (Le.refl _) wd .int⟩
  · cases e
theorem cm_max (hc : P.X.calm = true) : CallM P (.builtin "max") maxF := by
  refine ⟨_, call_max2 hc, fun B s st ws w vs Q wd r e k => ?_⟩
  unfold maxF at e
  split at e
  · cases e
    cases r with
    | cons r rr =>
      cases rr with
      | cons r2 rr =>
        cases rr; cases r; cases r2
        exact ⟨_, _, rfl, k s _ (Le.refl _) wd .int⟩
  · cases e
end

/-! ### - x -/
def eNeg (a : EM) : EM := fun u => M.bind (a u) fun w => match w with
  | .val (.int i) => M.pure (.val (.int (-i)))
  | _ => M.bad
section
variable {P : P3} {pos : Pos} {a : Expr} {ma : EM}
theorem me_neg (ha : ME P a ma) : ME P (.UnaryOp .USub a pos) (eNeg ma) := by
  obtain ⟨ta, pa, ha⟩ := ha.out
  refine ME.mk' (pe_un un_neg pa) fun B0 B s st u z Q wd sl hp => ha B0 B s st u z _ wd sl (Post.bind hp fun w st1 s1 v l1 wd1 r1 h1 => ?_)
  split at h1
  · cases r1
    exact ⟨_, rfl, h1.pure wd1 .int⟩
  · exact h1.elim
end

/-! ### a chain as a test -/
section
variable {P : P3} {pos : Pos} {a b c : Expr} {ma mb mc : EM}
theorem mt_chain {op op' : CmpOp} {g g' : W → W → Option W} (h : OpM P (compareOp op) g) (h' : OpM P (compareOp op') g') (ha : ME P a ma) (hb : ME P b mb) (hc : ME P c mc)
    (hm : lastMarks [op, op'] [b, c] = false := by with_unfolding_all rfl) : MT P (.Compare a [op, op'] [b, c] pos) (tOf (eChain g g' ma mb mc)) := by
  obtain ⟨ta, pa, ha⟩ := ha.out
  obtain ⟨tb, pb, hb⟩ := hb.out
  obtain ⟨tc, pc, hc⟩ := hc.out
  obtain ⟨r, hr, hq⟩ := h
  obtain ⟨r', hr', hq'⟩ := h'
  refine MT.mk' (pt_chain hr hr' pa pb pc hm) fun B0 B s st u z Q wd sl hp => ?_
  have hp : Post P.G B (fun _ a b => a = b) (fun c d H => P.wx c d z H) s Q (M.bind (ma u) (fun x => M.bind (mb u) fun y => M.bind (M.of (g x y)) fun k => M.bind (M.of k.bool) fun k => M.bind (if k = true then M.bind (mc u) fun w => M.of (g' y w) else M.pure (.val (.bl false))) fun w => M.of w.bool) st) := by
    refine cast (congrArg _ ?_) hp
    unfold tOf eChain M.bind
    cases ma u st with
    | ok x st1 =>
      dsimp only
      cases mb u st1 with
      | ok y st2 =>
        dsimp only
        cases g x y with
        | none => rfl
        | some k =>
          dsimp only [M.of, M.pure]
          cases hk : k.bool with
          | none => simp [M.of, M.bad]
          | some k =>
            cases k <;> simp [M.of, M.pure, M.bad]
      | err c x st2 => rfl
      | bad => rfl
    | err c x st1 => rfl
    | bad => rfl
  refine ha B0 B s st u z _ wd sl (Post.bind hp fun w1 st1 s1 v1 l1 wd1 r1 h1 => ?_)
  refine hb B0 B s1 st1 u z _ wd1 (sl.mono l1) (Post.bind h1 fun w2 st2 s2 v2 l2 wd2 r2 h2 => ?_)
  obtain ⟨w, e, h2⟩ := Post.of_of h2
  refine hq B s2 st2 w1 w2 w v1 v2 _ wd2 (r1.mono l2) r2 e fun s3 v l3 wd3 r3 => ?_
  obtain ⟨k, e2, h3⟩ := Post.of_of h2
  refine ⟨k, bool_ok r3 e2, ?_⟩
  cases k with
  | true =>
    rw [if_pos rfl] at h3 ⊢
    have h3 : Post P.G B (fun _ a b => a = b) (fun c d H => P.wx c d z H) s2 Q (M.bind (mc u) (fun w => M.bind (M.of (g' w2 w)) fun w => M.of w.bool) st2) := by
      refine cast (congrArg _ ?_) h3
      unfold M.bind
      cases mc u st2 <;> rfl
    refine hc B0 B s3 st2 u z _ wd3 (sl.mono ((l1.trans l2).trans l3)) (Post.bind (Post.mono l3 h3) fun w4 st4 s4 v4 l4 wd4 r4 h4 => ?_)
    obtain ⟨w5, e5, h4⟩ := Post.of_of h4
    obtain ⟨k5, e6, h4⟩ := of_eq h4
    exact hq' B s4 st4 w2 w4 w5 v2 v4 _ wd4 ((r2.mono l3).mono l4) r4 e5 fun s5 v5 l5 wd5 r5 => ⟨k5, bool_ok r5 e6, h4 s5 k5 l5 wd5 rfl⟩
  | false =>
    rw [if_neg Bool.false_ne_true] at h3 ⊢
    exact ⟨false, rfl, (Post.mono l3 h3).pure wd3 rfl⟩
end
end M3


namespace M3
open PySem PySem.Spec PyProof.Rows L2

/-! ### methods of texts -/
def MtM3 (P : P3) (id : String) (g : Str → W → Option W) : Prop := ∃ r, MtR P.X id r ∧ ∀ (B : Addr → Prop) (s : S3) (st : Store) (x : Str) (w1 w : W) (v1 : V) (Q : VK), Wd P.G B st s → RepW P.G P.hx B s w1 v1 →
  g x w1 = some w → (∀ (s' : S3) (v : V), Le B s s' → Wd P.G B st s' → RepW P.G P.hx B s' w v → Q v s'.H) → r (.str x) [v1] s.H Q
def W.str? : W → Option Str
  | .val (.str x) => some x
  | _ => none
def eM1 (g : Str → W → Option W) (a b : EM) : EM := fun u => M.bind (a u) fun x => M.bind (M.of x.str?) fun z => M.bind (b u) fun y => M.of (g z y)
section
variable {P : P3} {pos apos : Pos} {o e : Expr} {mo me : EM}
theorem me_m1 {id : String} {name : Str} {g : Str → W → Option W} (slot : Slot "str" name id) (ty : typeOf (.builtin id) = pure (.type "method_descriptor")) (rule : MtM3 P id g) (ho : ME P o mo) (he : ME P e me)
    (hs : starEach [e] P.X.env = [(false, eval e P.X.env)] := by rfl) (hbase : attributeBase o name P.X.env (eval o P.X.env) = eval o P.X.env := by rfl) (hline : (apos.endLine == pos.line) = true := by rfl) :
    ME P (.Call (.Attribute o name apos) [e] [] pos) (eM1 g mo me) := by
  obtain ⟨to, po, hto⟩ := ho.out
  obtain ⟨te, pe, hte⟩ := he.out
  obtain ⟨r, hr, hq⟩ := rule
  refine ME.mk' (pe_m1 slot ty hr po pe hs hbase hline) fun B0 B s st u z Q wd sl h => hto B0 B s st u z _ wd sl (Post.bind h fun w st1 s1 v l1 wd1 r1 h1 => ?_)
  obtain ⟨x, ex, h1⟩ := Post.of_of h1
  obtain ⟨rfl⟩ : w = .val (.str x) := by
    unfold W.str? at ex
    split at ex
    · cases ex; rfl
    · cases ex
  cases r1
  refine ⟨⟨_, rfl⟩, hte B0 B s1 st1 u z _ wd1 (sl.mono' l1) (Post.bind h1 fun w2 st2 s2 v2 l2 wd2 r2 h2 => ?_)⟩
  obtain ⟨w3, e3, h2⟩ := of_eq h2
  exact hq B s2 st2 x w2 w3 v2 Q wd2 r2 e3 fun s' v l w' r => h2 s' v l w' r
end
/-- texts of a list -/
def D.strs : List D → Option (List Str)
  | [] => some []
  | .str x :: ds => (D.strs ds).map (x :: ·)
  | _ :: _ => none
theorem strs_ok {K : PySem.W.Frag} {F : Hp} {io : Io} : ∀ {ds : List D} {vs : List V} {xs : List Str}, RepL K F io ds vs → D.strs ds = some xs → vs = xs.map V.str
  | [], _, _, .nil, e => by unfold D.strs at e; cases e; rfl
  | d :: ds, _, xs, .cons r t, e => by
    cases d with
    | str x =>
      unfold D.strs at e
      cases h : D.strs ds with
      | none => rw [h] at e; cases e
      | some ys =>
        rw [h] at e
        cases e
        cases r
        rw [strs_ok t h]
        rfl
    | _ => unfold D.strs at e; cases e
theorem rep_strs {K : PySem.W.Frag} {F : Hp} {io : Io} : ∀ xs : List Str, RepL K F io (xs.map D.str) (xs.map V.str)
  | [] => .nil
  | _ :: xs => .cons .str (rep_strs xs)
def startsF (x : Str) : W → Option W
  | .val (.str y) => some (.val (.bl (Txt.startswith x y)))
  | _ => none
def splitF (x : Str) : W → Option W
  | .val (.str y) => if y.length ≠ 0 ∧ x.length ≤ 900000 then some (.val (.lst ((Txt.split x y).map .str))) else none
  | _ => none
def joinF (x : Str) (w : W) : Option W := (w.rd.bind D.items).bind fun xs => (D.strs xs).bind fun ys => if (ys.map (·.length)).sum + ys.length * x.length ≤ 1000000 then some (.val (.str (Txt.join x ys))) else none
section
variable {P : P3}
theorem mt_starts3 : MtM3 P "str.startswith" startsF := by
  refine ⟨_, mt_startswith, fun B s st x w1 w v1 Q wd r1 e k => ?_⟩
  unfold startsF at e
  split at e
  · cases e; cases r1; exact ⟨_, _, rfl, rfl, k s _ (Le.refl _) wd .bl⟩
  · cases e
theorem mt_split3 : MtM3 P "str.split" splitF := by
  refine ⟨_, mt_split, fun B s st x w1 w v1 Q wd r1 e k => ?_⟩
  unfold splitF at e
  split at e
  · rename_i y
    split at e
    · rename_i hz
      cases e; cases r1
      refine ⟨_, _, rfl, rfl, ?_, szL (by omega), fun p hp => ?_⟩
      · simpa using hz.1
      · obtain ⟨wd2, l2⟩ := wd.froz hp (.lst ((Txt.split x y).map V.str))
        exact k _ _ l2 wd2 (.lst upd_same (rep_strs _))
    · cases e
  · cases e
theorem mt_join3 : MtM3 P "str.join" joinF := by
  refine ⟨_, mt_join, fun B s st x w1 w v1 Q wd r1 e k => ?_⟩
  unfold joinF at e
  cases h1 : w1.rd with
  | none => rw [h1] at e; cases e
  | some d =>
    rw [h1, Option.bind_some] at e
    cases h2 : d.items with
    | none => rw [h2] at e; cases e
    | some xs =>
      rw [h2, Option.bind_some] at e
      cases h3 : D.strs xs with
      | none => rw [h3] at e; cases e
      | some ys =>
        rw [h3, Option.bind_some] at e
        split at e
        · rename_i hz
          cases e
          obtain ⟨p, us, rfl, hq, rl⟩ := items_ok wd r1 h1 h2
          obtain rfl := strs_ok rl h3
          exact ⟨x, p, ys, rfl, rfl, hq, by omega, k s _ (Le.refl _) wd .str⟩
        · cases e
end

/-! ### count of a tuple -/
def rCountT (K : PySem.W.Frag) : V → List V → Hp → VK → Prop := fun x xs H Q => ∃ (y : V) (d : PyData) (ds : List PyData), xs = [y] ∧ Dp K H x (.tuple ds) ∧ Dp K H y d ∧ SeqAt.shaped (.tuple ds) = true ∧ SeqAt.shaped d = true ∧
  Q (.int ((ds.countP fun z => PyData.eqv z d : Nat) : Int)) H
section
variable {X : Cx}
theorem mt_countT (hu : X.A.units + 65 < cLine) : MtR X "tuple.count" (rCountT X.K) := by
  rintro pins now σ H x _ v us Q inv rx args ⟨y, d, ds, rfl, dx, dy, shx, shy, q⟩
  obtain ⟨uy, rfl, ry⟩ := args.one
  obtain ⟨_, readsy⟩ := Dp.reads inv d y uy dy ry
  have lay := SeqAt.canLay_of_shaped shx
  cases dx with
  | @tup p xs _ at_ parts =>
    obtain rfl : v = .ref p := rx
    obtain ⟨its, vals, ⟨ob, there, isT, n, body⟩, -⟩ := inv.tuple at_
    obtain ⟨ocls, odict, odata, oslots⟩ := ob
    dsimp only at isT body
    subst isT body
    obtain ⟨as, readsx⟩ := Dp.readsAll inv ds xs its parts vals
    have many : (its.toArray.toList.countP fun u => PyData.eqv (SeqAt.readOf now.heap u) d) = ds.countP fun z => PyData.eqv z d := by
      conv => rhs; rw [← SeqAt.readsAll_map ds its as lay readsx, List.countP_map]
      rfl
    have meets := SeqAt.tuple_countAt p its.toArray n odict oslots uy fun u => PyData.eqv (SeqAt.readOf now.heap u) d
    refine call_meets PySem.F.slot_tuple_count ⟨_, there, rfl⟩ PySem.F.entry_tuple_count (PySem.F.args_tuple_count_2 _ _) meets ⟨there, ?_, V.int _, H, inv.tok _, ⟨_, rfl⟩, many.symm ▸ q⟩
    exact SeqAt.items_eqAt (vs := its.toArray) (xs := ds) (as := as) readsx readsy lay (SeqAt.canLay_of_shaped shy) (room_in_shaped shy hu)
/-- o.m(x), o a tuple, m a method of tuples -/
theorem pe_bmT {id : String} {r : V → List V → Hp → VK → Prop} {m : Str} {o x : Expr} {to : TE} {tx : TA} {at1 at2 : Pos} (slot : Slot "tuple" m id) (ty : typeOf (.builtin id) = pure (.type "method_descriptor")) (rule : MtR X id r) (ho : PE X o to) (ha : PA X [x] tx)
    (few : ((backTo at2 (starEach [x] X.env)).all (fun q => !q.1) && (backToKw at2 (keywordEach [] X.env)).all (fun q => q.1.isSome) && decide (([x] : List Expr).length + ([] : List Keyword).length + (if ([] : List Keyword).isEmpty then 0 else 1) < 30)) = true := by rfl)
    (base : attributeBase o m X.env (eval o X.env) = eval o X.env := by rfl) (one : starEach [x] X.env = (false, eval x X.env) :: starEach [] X.env := by rfl) (line : (at1.endLine == at2.line) = true := by rfl) :
    PE X (.Call (.Attribute o m at1) [x] [] at2) (fun σ H Q => to σ H fun x H1 => (∃ p xs, x = .ref p ∧ FTup H1 p xs) ∧ tx σ H1 fun xs H2 => r x xs H2 Q) :=
  ⟨fun pins now σ H Q inv wish => wpAny_Call_method_late base few line rfl <| thn (ho.run pins now σ H _ inv wish) fun v later got => by
    obtain ⟨_, H1, J, rx, ⟨p, xs, rfl, ob, at_, bare⟩, rest⟩ := got
    have rx' := rx
    obtain rfl : v = .ref p := rx
    obtain ⟨there, -, -, -, ob', there', isT, -⟩ := (show ObjOk X.prog X.w H1 later.heap p (.frz ob (.tup xs)) from J.hok p _ at_)
    obtain rfl : ob = ob' := Option.some.inj (there.symm.trans there')
    refine ⟨"tuple", id, PySem.F.plainAttrs_tuple, slot, ty, ⟨ob, there, isT⟩, fun a ea => ⟨ob, by cases ea; exact there, bare⟩, ?_⟩
    have args := ha.run at2 pins later σ H1 _ J rest
    rw [one] at args ⊢
    refine Calls.callWith_builtin rfl (Calls.evalArgs_plain ?_)
    exact thn args fun us last ⟨vs, H2, J2, rs, q⟩ => rule pins last σ H2 (.ref p) vs _ us Q J2 rx' rs q⟩
end
end M3


namespace M3
open PySem PySem.Spec PyProof.Rows L2

theorem units65 {k : Nat} {A : Around} (r : Room k A) : A.units + 65 < cLine := by have := r.un; omega
def clsB : Stmt → List Stmt
  | .ClassDef (body := inside) .. => inside
  | _ => []

/-! ### x = [..], x a list of one's own -/
section
variable {P : P3} {pos : Pos}
theorem ms_ownLc {i : Nat} {y : Str} {py spos : Pos} {elt tg iter : Expr} {ifs : List Expr} {scope : Scope} {own : List (Str × Nat)} {mi : FM} {g : GM} {gs : List Nat} {c : TM} {m : EM} (hc : P.X.calm = true) (hN : P.X.N.Nodup) (hi : MI P tg iter mi) (ok : BlkOk P.X.N P.X.env.scope scope own)
    (hg : ∀ (s : Shared) (H : Hp) (C : Addr) (cl : List (Str × Addr)) (fp : List Addr), MG (P.blk s H scope C cl fp) tg g gs) (ht : ∀ (s : Shared) (H : Hp) (C : Addr) (cl : List (Str × Addr)) (fp : List Addr), MIfs (P.blk s H scope C cl fp) ifs c)
    (he : ∀ (s : Shared) (H : Hp) (C : Addr) (cl : List (Str × Addr)) (fp : List Addr), ME (P.blk s H scope C cl fp) elt m)
    (hsw : swapsWith (.ListComp elt [⟨tg, iter, ifs, 0⟩] scope pos) (some (.Name y py)) spos.line P.X.env = pure true) (hy : P.X.N[i]? = some y := by rfl) (hyl : P.X.env.scope.names.lookup y = some .local := by rfl)
    (hgs : ∀ i ∈ gs, i ∈ own.map (·.2) := by decide) (hs : ∀ x, foldedSetIterable iter P.X.env x = pure x := by intro _; rfl) :
    MS P (.Assign [.Name y py] (.ListComp elt [⟨tg, iter, ifs, 0⟩] scope pos) spos) (sOwn i (fLc mi g c m (own.map (·.2)))) := by
  obtain ⟨ti, pi, hti⟩ := hi.out
  refine MS.mk' (ps_setLc (own := own) (g := tG P.G P.hx g gs) (tt := tT P.G P.hx noW c) (te := tE P.G P.hx noW m) hc hN hy hyl hsw pi ok (fun s H C cl fp => (hg s H C cl fp).pg) (fun s H C cl fp => (ht s H C cl fp).pts) (fun s H C cl fp => (he s H C cl fp).pe) hs) fun B0 B s o u z D b0 wd sl h => ?_
  refine lc_ok (tgt := tg) (iter := iter) (elt := elt) (ifs := ifs) hgs hti wd sl ?_
  unfold sOwn at h
  cases e : fLc mi g c m (own.map (·.2)) u o with
  | ok xs st' =>
    rw [e] at h
    exact fun s' p vs l w nb hp r => h (plus B p) s' _ (fun a q => .inl (b0 a q)) (l.less b0) w ((sl.mono' l).own nb (fun q => nb (b0 p q)) hp r i)
  | err c x st' => rw [e] at h; exact fun s' cv dd l w q => h B s' z cv dd b0 (l.less b0) w (sl.mono' l) q
  | bad => rw [e] at h; exact h

/-! ### a list of one's own is let go -/
def sFrz (i : Nat) : SM := fun u st => match u[i]? with
  | some (some (.bor xs)) => .nx (u.set i (some (.val (.lst xs)))) st
  | _ => .bad
theorem Slo.frz {G : G3} {X : Hex} {B0 B : Addr → Prop} {s : S3} {u : Sl3} {z : L2.St} {i : Nat} {xs : List D} {st : Store} (h : Slo G X B0 B s u z) (b0 : ∀ a, B0 a → B a) (wd : Wd G B st s) (e : u[i]? = some (some (.bor xs))) :
    ∃ (B' : Addr → Prop) (s' : S3), s'.H = s.H ∧ (∀ a, B0 a → B' a) ∧ Le B0 s s' ∧ Wd G B' st s' ∧ Slo G X B0 B' s' (u.set i (some (.val (.lst xs)))) z := by
  obtain ⟨hl, ow, h1, h2⟩ := h
  obtain ⟨v, e1, ⟨p, vs, rfl, bp, hp, rl⟩, q⟩ := h1 i _ e
  obtain ⟨e3, nb⟩ := q rfl
  injection e3 with e3
  subst e3
  have wd' : Wd G (plus (fun a => B a ∧ a ≠ ow i) (ow i)) st s := wd.less fun a z => z.elim (fun z => z.1) fun z => z ▸ bp
  have nB : ¬ (fun a => B a ∧ a ≠ ow i) (ow i) := fun z => z.2 rfl
  have le : Le B0 s ⟨s.io, upd s.F (ow i) (.lst vs), s.H⟩ := ⟨IoLe.refl _, same_upd (wd.hid (ow i) bp).1, fun _ _ => rfl⟩
  refine ⟨fun a => B a ∧ a ≠ ow i, ⟨s.io, upd s.F (ow i) (.lst vs), s.H⟩, rfl, fun a q => ⟨b0 a q, fun z => nb (z ▸ q)⟩, le, freeze_wd wd' nB hp, by simpa using hl, ow, fun j w ej => ?_, fun j k w w' o1 o2 q1 q2 q3 => ?_⟩
  · rcases get_set ej with ⟨rfl, rfl⟩ | ⟨ne, ej⟩
    · exact ⟨.ref (ow i), e1, Rep.lst upd_same (rl.mono le.fr le.io), fun q' => by cases q'⟩
    · obtain ⟨v, ev, rv, qv⟩ := h1 j w ej
      refine ⟨v, ev, ?_, qv⟩
      have away : w.own = true → ∀ p', v = .ref p' → p' ≠ ow i := fun ow' p' e' z => by
        obtain ⟨e4, _⟩ := qv ow'
        rw [e'] at e4
        injection e4 with e4
        exact ne (h2 i j (.bor xs) w rfl ow' e ej (by rw [← e4, z]))
      cases w with
      | val d => exact Rep.mono le.fr le.io rv
      | exn c x => exact rv
      | bor xs' =>
        obtain ⟨p', vs', rfl, b', hp', rl'⟩ := rv
        exact ⟨p', vs', rfl, ⟨b', away rfl p' rfl⟩, hp', rl'.mono le.fr le.io⟩
      | bod ks us =>
        obtain ⟨p', vs', rfl, b', hp', e', rl'⟩ := rv
        exact ⟨p', vs', rfl, ⟨b', away rfl p' rfl⟩, hp', e', rl'.mono le.fr le.io⟩
      | boT ks us =>
        obtain ⟨p', vs', rfl, b', hp', e', rl'⟩ := rv
        exact ⟨p', vs', rfl, ⟨b', away rfl p' rfl⟩, hp', e', rl'.mono le.fr le.io⟩
  · rcases get_set q1 with ⟨_, z⟩ | ⟨_, q1⟩
    · subst z; cases o1
    · rcases get_set q2 with ⟨_, z⟩ | ⟨_, q2⟩
      · subst z; cases o2
      · exact h2 j k w w' o1 o2 q1 q2 q3
theorem frz_post {G : G3} {hx : Hex} {wx : WX} {B0 B : Addr → Prop} {s : S3} {D : Ends} {m : SM} {u : Sl3} {o : Store} {z : L2.St} {i : Nat} (b0 : ∀ a, B0 a → B a) (wd : Wd G B o s) (sl : Slo G hx B0 B s u z) (h : PostS G hx wx B0 s D (sSeq (sFrz i) m u o)) :
    ∃ (B' : Addr → Prop) (s' : S3) (u' : Sl3), s'.H = s.H ∧ (∀ a, B0 a → B' a) ∧ Wd G B' o s' ∧ Slo G hx B0 B' s' u' z ∧ PostS G hx wx B0 s' D (m u' o) := by
  unfold sSeq sFrz at h
  cases eu : u[i]? with
  | none => rw [eu] at h; exact h.elim
  | some ow =>
    rw [eu] at h
    cases ow with
    | none => exact h.elim
    | some w =>
      cases w with
      | bor xs =>
        obtain ⟨B', s', eH, b', le, wd', sl'⟩ := sl.frz b0 wd eu
        exact ⟨B', s', _, eH, b', wd', sl', PostS.mono le h⟩
      | _ => exact h.elim
theorem ms_frz {st : Stmt} {m : SM} (i : Nat) (h : MS P st m) : MS P st (sSeq (sFrz i) m) := by
  obtain ⟨t, pt, ht⟩ := h.out
  refine MS.mk' pt fun B0 B s o u z D b0 wd sl h => ?_
  obtain ⟨B', s', u', eH, b', wd', sl', hp⟩ := frz_post b0 wd sl h
  rw [← eH]
  exact ht B0 B' s' o u' z D b' wd' sl' hp

/-! ### (x, y) = e -/
def sAsg (m : EM) (g : GM) : SM := fun u st => match m u st with
  | .ok (.val d) st' => match g d u with
    | some u' => .nx u' st'
    | none => .bad
  | .ok _ _ => .bad
  | .err c x st' => .err c x u st'
  | .bad => .bad
theorem ms_asg {tg e : Expr} {m : EM} {g : GM} {gs : List Nat} (he : ME P e m) (hg : MG P tg g gs) (hs : swapsWithSole [tg] e pos.line P.X.env = pure false := by rfl) (hw : swappedStores [tg] e P.X.env = pure none := by rfl)
    (h1 : (assignEach [tg] P.X.env).map (·.2) = [assign tg P.X.env] := by rfl) : MS P (.Assign [tg] e pos) (sAsg m g) := by
  obtain ⟨t, pt, ht⟩ := he.out
  refine MS.mk' (ps_asg pt hg.pg hs hw h1) fun B0 B s o u z D b0 wd sl h => ht B0 B s o u z _ wd sl ?_
  unfold sAsg at h
  cases e : m u o with
  | bad => rw [e] at h; exact h
  | err c x st' => rw [e] at h; exact fun s' cv dd l w q => h B s' z cv dd b0 (l.less b0) w (sl.mono' l) q
  | ok w st' =>
    rw [e] at h
    cases w with
    | val d =>
      dsimp only at h
      intro s' v l w r
      cases eg : g d u with
      | none => rw [eg] at h; exact h.elim
      | some u' =>
        rw [eg] at h
        exact ⟨B0, B, s', st', u, d, u', rfl, w, sl.mono' l, r, eg, fun z' sl' _ => h B s' z' b0 (l.less b0) w sl'⟩
    | _ => exact h.elim

/-! ### x[i] = e, x.pop(), x a list of one's own -/
/-- how the model takes o[i] = v apart -/
abbrev SubParts (X : Cx) (o i : Expr) (at1 : Pos) : Prop := ∀ v, assign (.Subscript o i at1) X.env v =
  (do let ov ← holding [v] (eval o X.env); let iv ← holding [v, ov] (eval i X.env); standAt at1; holding [v, ov, iv] (setItem ov iv v); release [v, ov, iv] [])
def sSetI (i : Nat) (mi me : EM) : SM := fun u st => match u[i]? with
  | some (some (.bor xs)) => match me u st with
    | .ok (.val d) st1 => match mi u st1 with
      | .ok (.val (.int j)) st2 => match ixN xs.length j with
        | some k => .nx (u.set i (some (.bor (xs.set k d)))) st2
        | none => .bad
      | .err c x st2 => .err c x u st2
      | _ => .bad
    | .err c x st1 => .err c x u st1
    | _ => .bad
  | _ => .bad
theorem ms_setI (i : Nat) {x : Str} {px ipos : Pos} {ei e : Expr} {mi me : EM} (hi : ME P ei mi) (he : ME P e me) (hN : P.X.N[i]? = some x := by rfl) (hv : Vis P.X.env.scope x := by first | exact Or.inl rfl | exact Or.inr (Or.inl rfl) | exact Or.inr (Or.inr rfl)) (hd : (x == ("__debug__" : Str)) = false := by decide)
    (hcd : (x == ("__classdict__" : Str)) = false := by decide)
    (ha : SubParts P.X (.Name x px) ei ipos := by intro _; rfl)
    (hs : swapsWithSole [.Subscript (.Name x px) ei ipos] e pos.line P.X.env = pure false := by rfl) (hw : swappedStores [.Subscript (.Name x px) ei ipos] e P.X.env = pure none := by rfl)
    (h1 : (assignEach [.Subscript (.Name x px) ei ipos] P.X.env).map (·.2) = [assign (.Subscript (.Name x px) ei ipos) P.X.env] := by rfl) :
    MS P (.Assign [.Subscript (.Name x px) ei ipos] e pos) (sSetI i mi me) := by
  obtain ⟨t, pt, ht⟩ := he.out
  obtain ⟨ti, pi, hti⟩ := hi.out
  refine MS.mk' (ps_asg pt (pg_sub (pe_var hN hv hd hcd) pi set_list ha) hs hw h1) fun B0 B s o u z D b0 wd sl h => ht B0 B s o u z _ wd sl ?_
  unfold sSetI at h
  split at h
  · rename_i xs eu
    obtain ⟨p, vs, e2, bp, nb, hp, rl, _⟩ := sl.change (ys := []) wd eu
    cases e : me u o with
    | bad => rw [e] at h; exact h
    | err c x st' => rw [e] at h; exact fun s' cv dd l w q => h B s' z cv dd b0 (l.less b0) w (sl.mono' l) q
    | ok w st1 =>
      rw [e] at h
      cases w with
      | val d =>
        dsimp only at h
        intro s1 v l1 wd1 r1
        refine ⟨.ref p, e2, hti B0 B s1 st1 u z _ wd1 (sl.mono' l1) ?_⟩
        cases e3 : mi u st1 with
        | bad => rw [e3] at h; exact h
        | err c x st' => rw [e3] at h; exact fun s' cv dd l w q => h B s' z cv dd b0 ((l1.trans l).less b0) w (sl.mono' (l1.trans l)) q
        | ok w2 st2 =>
          rw [e3] at h
          split at h
          · rename_i j st3 e4
            cases e4
            split at h
            · rename_i k ek
              intro s2 v2 l2 wd2 r2
              cases r2
              obtain ⟨p', vs', e2', bp', nb', hp', rl', ch⟩ := (sl.mono' (l1.trans l2)).change (ys := xs.set k d) wd2 eu
              rw [e2] at e2'; cases e2'
              obtain ⟨sl3, w3, l3⟩ := ch (vs'.set k v) (RepL.set (Rep.mono l2.fr l2.io r1) k rl')
              exact ⟨p, vs', j, k, rfl, rfl, hp', by rw [← rl'.length]; exact ek, h B _ z b0 (((l1.trans l2).less b0).trans l3) w3 sl3⟩
            · exact h.elim
          · rename_i e4; cases e4
          · exact h.elim
      | _ => exact h.elim
  · exact h.elim
/-- x.pop() -/
def sPop (i : Nat) : SM := fun u st => match u[i]? with
  | some (some (.bor xs)) => if xs.isEmpty = true then .bad else .nx (u.set i (some (.bor xs.dropLast))) st
  | _ => .bad
theorem dropLast_rep {K : PySem.W.Frag} {F : Hp} {io : Io} {xs : List D} {vs : List V} (r : RepL K F io xs vs) : RepL K F io xs.dropLast vs.dropLast := by
  rw [List.dropLast_eq_take, List.dropLast_eq_take, r.length]
  exact r.take _
theorem ms_pop (i : Nat) {x : Str} {px apos cpos : Pos} (hN : P.X.N[i]? = some x := by rfl) (hv : Vis P.X.env.scope x := by first | exact Or.inl rfl | exact Or.inr (Or.inl rfl) | exact Or.inr (Or.inr rfl)) (hd : (x == ("__debug__" : Str)) = false := by decide)
    (hcd : (x == ("__classdict__" : Str)) = false := by decide)
    (hbase : attributeBase (.Name x px) "pop" P.X.env (eval (.Name x px) P.X.env) = eval (.Name x px) P.X.env := by rfl) (hline : (apos.endLine == cpos.line) = true := by rfl)
    (hs : swapsWith (.Call (.Attribute (.Name x px) "pop" apos) [] [] cpos) none pos.line P.X.env = pure false := by rfl) :
    MS P (.Expr (.Call (.Attribute (.Name x px) "pop" apos) [] [] cpos) pos) (sPop i) := by
  refine MS.mk' (ps_expr (pe_bm0 PySem.F.plainAttrs_list PySem.F.slot_list_pop PySem.F.type_list_pop mt_pop (pe_var hN hv hd hcd) hbase hline) hs) fun B0 B s o u z D b0 wd sl h => ?_
  unfold sPop at h
  split at h
  · rename_i xs e1
    split at h
    · exact h.elim
    · rename_i hne
      obtain ⟨p, vs, e2, bp, nb, hp, rl, ch⟩ := sl.change (ys := xs.dropLast) wd e1
      refine ⟨.ref p, e2, .inl ⟨rfl, vs, .inl (.inl hp)⟩, ?_⟩
      have hl : vs.length - 1 < vs.length := by
        have : xs ≠ [] := fun z => hne (by rw [z]; rfl)
        have := List.length_pos_iff.mpr this
        rw [rl.length] at this
        omega
      obtain ⟨sl2, w2, l2⟩ := ch vs.dropLast (dropLast_rep rl)
      exact ⟨p, vs, vs[vs.length - 1], rfl, rfl, hp, List.getElem?_eq_getElem hl, h B _ z b0 l2 w2 sl2⟩
  · exact h.elim

/-! ### t.count(x), t a tuple -/
def W.tup? : W → Option (List D)
  | .val (.tup xs) => some xs
  | _ => none
def cntF (xs : List D) (w : W) : Option W := w.rd.bind fun d => match D.pys xs, d.py with
  | some ps, some p => if SeqAt.shaped p = true ∧ SeqAt.shaped (.tuple ps) = true then some (.val (.int ((ps.countP fun z => PyData.eqv z p : Nat) : Int))) else none
  | _, _ => none
def eCnt (a b : EM) : EM := fun u => M.bind (a u) fun x => M.bind (M.of x.tup?) fun xs => M.bind (b u) fun y => M.of (cntF xs y)
theorem me_cnt {o e : Expr} {apos cpos : Pos} {mo me : EM} (hu : P.X.A.units + 65 < cLine) (ho : ME P o mo) (he : ME P e me)
    (hbase : attributeBase o "count" P.X.env (eval o P.X.env) = eval o P.X.env := by rfl) (hline : (apos.endLine == cpos.line) = true := by rfl) (hs : starEach [e] P.X.env = (false, eval e P.X.env) :: starEach [] P.X.env := by rfl)
    (hfew : ((backTo cpos (starEach [e] P.X.env)).all (fun q => !q.1) && (backToKw cpos (keywordEach [] P.X.env)).all (fun q => q.1.isSome) && decide (([e] : List Expr).length + ([] : List Keyword).length + (if ([] : List Keyword).isEmpty then 0 else 1) < 30)) = true := by rfl) :
    ME P (.Call (.Attribute o "count" apos) [e] [] cpos) (eCnt mo me) := by
  obtain ⟨to, po, hto⟩ := ho.out
  obtain ⟨te, pe, hte⟩ := he.out
  refine ME.mk' (pe_bmT PySem.F.slot_tuple_count PySem.F.type_tuple_count (mt_countT hu) po (pa_cons pe pa_nil hs) hfew hbase hs hline) fun B0 B s st u z Q wd sl h => hto B0 B s st u z _ wd sl (Post.bind h fun w st1 s1 v l1 wd1 r1 h1 => ?_)
  obtain ⟨xs, ex, h1⟩ := Post.of_of h1
  obtain rfl : w = .val (.tup xs) := by
    unfold W.tup? at ex
    split at ex
    · cases ex; rfl
    · cases ex
  cases r1 with
  | tup hq rl =>
    refine ⟨⟨_, _, rfl, hq.mono wd1.sub⟩, hte B0 B s1 st1 u z _ wd1 (sl.mono' l1) (Post.bind h1 fun w2 st2 s2 v2 l2 wd2 r2 h2 => ?_)⟩
    obtain ⟨w3, e3, h2⟩ := of_eq h2
    unfold cntF at e3
    cases h1 : w2.rd with
    | none => rw [h1] at e3; cases e3
    | some d =>
      rw [h1, Option.bind_some] at e3
      split at e3
      · rename_i ps p' eps ep
        split at e3
        · rename_i hsh
          cases e3
          refine ⟨v2, p', ps, rfl, ?_, ?_, hsh.2, hsh.1, h2.pure wd2 .int⟩
          · rw [P.hK]; exact .tup ((hq.mono l2.fr).mono wd2.sub).sq (pys_ok (rl.mono (l2.fr.trans wd2.sub) l2.io) eps)
          · rw [P.hK]; exact py_ok (rd_ok wd2 r2 h1) ep
        · cases e3
      · cases e3
end

/-! ### C.m(..), m a staticmethod of the own class C -/
/-- what may be called: at f, by its mirror -/
structure CalF (Pg : Program) (w : World) (K : PySem.W.Frag) (mg : Str → Option Value) (base : Heap) (G : G3) (k : Nat) (f : Addr) (n : Nat) (m : List D → M D) : Prop where
  ex : ∃ fd ps, PySem.W.keepIn K (.ref f) = true ∧ Binds K fd ps [] ∧ ps.length = n ∧ FnOk Pg w K mg base (L2.CX Pg w) k f fd ps (spM G n m)
structure Sm (K : PySem.W.Frag) (C : Addr) (m : Str) (f : Addr) : Prop where
  rd : ClX.CRead K C (.type "type")
  ex : ∃ p rest, PySem.W.findCls K (.ref C) (.type "type") m = some (.get (.builtin "staticmethod.__get__") (.ref p) .none (.ref C)) ∧ PySem.W.recIn K p "staticmethod" = some (.ref f :: rest)
  hv : PySem.W.handedIn (.ref f) = true
/-- how the model takes o.m(..) apart -/
abbrev MethParts (X : Cx) (o : Expr) (m : Str) (at1 at2 : Pos) (es : List Expr) (pl : Sem Bool) : Prop := eval (.Call (.Attribute o m at1) es [] at2) X.env =
  (do let ov ← eval o X.env; standAt at1.atName; let (f, first) ← holding [ov] (getMethod ov m pl); callWith at2 f first (backTo at2 (starEach es X.env)) (backToKw at2 (keywordEach [] X.env)))
section
variable {X : Cx} {CX : CXT} {k : Nat} {C f : Addr} {fd : FuncData} {ps : List Str} {sp : Sp} {E : L2.St → XK} {o e : Expr} {es : List Expr} {m : Str} {pos apos : Pos} {ta : TE} {t : TA} {pl : Sem Bool}
theorem pe_smeth (he : PE X o ta) (c : Sm X.K C m f) (F : FnOk X.prog X.w X.K X.mg X.base CX k f fd ps sp) (hr : Room k X.A) (hk : PySem.W.keepIn X.K (.ref f) = true) (hb : Binds X.K fd ps []) (hx : ∀ σ, PassesAt CX X σ (E σ)) (ha : PA X (e :: es) t)
    (one : starEach (e :: es) X.env = (false, eval e X.env) :: starEach es X.env := by rfl) (plain : (backTo pos (starEach es X.env)).any (·.1) = false := by rfl) (parts : MethParts X o m apos pos (e :: es) pl := by rfl) :
    PE X (.Call (.Attribute o m apos) (e :: es) [] pos) (fun σ H Q => ta σ H fun x H1 => x = .ref C ∧ t σ H1 fun vs H2 => sp vs H2 Q (E σ)) :=
  ⟨fun pins now σ H Q inv wish => PySem.W.methodCall_KW (pl := pl) (thn (he.run pins now σ H _ inv wish) fun v later got => by
    obtain ⟨_, H1, J, rx, rfl, rest⟩ := got
    obtain rfl : v = .ref C := rx
    obtain ⟨p, more, at_, rec_⟩ := c.ex
    have J' := J.tok (later.toks + 1)
    have args := ha.run pos pins _ σ H1 _ J' rest
    refine PySem.W.method_cls J.kIn c.rd.ga (PySem.W.cls_bind J.kIn c.rd.rd at_ (wpAny_call (PySem.W.sm_get (s := { later with toks := later.toks + 1 }) J.kIn rec_ (PySem.W.handed_on c.hv ?_))))
    exact PySem.W.callWith_K (h₀ := X.base) J.ok.mod.kin hk (thn args fun us last ⟨vs, H2, J2, rs, q⟩ => ⟨J2.kIn, run_fnS F hr hb (hx σ) J2 rs q⟩) one plain) parts⟩
end
section
variable {P : P3} {pos p apos : Pos} {x m : Str} {e : Expr} {es : List Expr} {ma : AM} {mf : List D → M D} {k j n : Nat} {C f : Addr}
/-- a staticmethod of the class x that may be called -/
structure CalS (Pg : Program) (w : World) (K : PySem.W.Frag) (mg : Str → Option Value) (base : Heap) (G : G3) (k : Nat) (x m : Str) (n : Nat) (mf : List D → M D) : Prop where
  ex : ∃ C f, mg x = some (.ref C) ∧ Sm K C m f ∧ CalF Pg w K mg base G k f n mf
theorem me_gstr {z : Str} (hg : Gl P.X x) (h : ∃ t, P.X.mg x = some (.str z t)) (hd : (x == ("__debug__" : Str)) = false := by decide) : ME P (.Name x pos) (eC (.str z)) :=
  let ⟨_, h⟩ := h
  me_glob (v := .str z) hg h ⟨_, rfl⟩ (fun _ _ => .str) hd
theorem me_gint {z : Int} (hg : Gl P.X x) (h : ∃ t, P.X.mg x = some (.int z t)) (hd : (x == ("__debug__" : Str)) = false := by decide) : ME P (.Name x pos) (eC (.int z)) :=
  let ⟨_, h⟩ := h
  me_glob (v := .int z) hg h ⟨_, rfl⟩ (fun _ _ => .int) hd
theorem me_smeth (c : CalS P.X.prog P.X.w P.X.K P.X.mg P.X.base P.G k x m n mf) (hr : Room j P.X.A) (hk : k ≤ j) (tk : Takes P.X P.wx) (hg : Gl P.X x) (ha : MA P (e :: es) ma)
    (hdb : (x == ("__debug__" : Str)) = false := by decide) (he : starEach (e :: es) P.X.env = (false, eval e P.X.env) :: starEach es P.X.env := by rfl) (hpl : (backTo pos (starEach es P.X.env)).any (·.1) = false := by rfl)
    {pl : Sem Bool} (hT : MethParts P.X (.Name x p) m apos pos (e :: es) pl := by rfl) :
    ME P (.Call (.Attribute (.Name x p) m apos) (e :: es) [] pos) (eCall n mf ma) := by
  obtain ⟨C, f, hm, sm, c⟩ := c.ex
  obtain ⟨fd, ps, hkp, hb, hn, F⟩ := c.ex
  obtain ⟨t, pt, ht⟩ := ha.out
  refine ME.mk' (pe_smeth (pe_glob (v := .ref C) hg hm rfl hdb) sm F (hr.mono hk) hkp hb (fun σ => passAt tk σ) pt he hpl hT) fun B0 B s st u z Q wd sl h => ⟨rfl, ht B0 B s st u z _ wd sl (Post.bind h fun ws st1 s1 vs l1 wd1 r1 h1 => ?_)⟩
  obtain ⟨ds, e, h1⟩ := Post.of_of h1
  obtain ⟨hl, h1⟩ := Post.of_chk h1
  have rl := asDs_ok r1 e
  refine ⟨by rw [← rl.length]; exact hl, B, s1, st1, ds, rfl, wd1, rl, ?_⟩
  unfold M.bind at h1
  cases em : mf ds st1 with
  | ok d st' => rw [em] at h1; exact fun s' v l w r => h1 s' v l w r
  | err c x st' => rw [em] at h1; exact h1
  | bad => rw [em] at h1; exact h1
end
end M3


namespace M3
open PySem PySem.W PySem.Calls PyProof.Rows

theorem weight_mem {n : Int} : ∀ {ns : List Int}, n ∈ ns → (if n == 0 then 0 else n.natAbs.log2 + 1) ≤ WData.weightAll (ns.map WData.int)
  | m :: ns, h => by
    rw [List.map_cons, WData.weightAll, WData.weight]
    rcases List.mem_cons.mp h with e | h
    · rw [← e]; omega
    · have := weight_mem h; omega
theorem bits_of {ns : List Int} (h : WData.layableAll [WData.list (ns.map WData.int)] = true) : ∀ n ∈ ns, n.natAbs.log2 ≤ 1048576 := by
  intro n hn
  have h1 : (WData.list (ns.map WData.int)).layable = true := by simpa [WData.layableAll] using h
  have h2 := (layableW_iff.mp h1).2.2
  rw [WData.weight] at h2
  have h3 := weight_mem hn
  by_cases z : n = 0
  · subst z; decide
  · rw [if_neg (by simpa using z)] at h3; omega
/-- the end: the law's mirror says True at every script -/
theorem walk3 {l : OpenLaw} {n k : Nat} {q : Program} {loose : List Str} {XP : (Str → Option Value) → Heap → Prop} {YP : World → Heap → Prop} {d : DefRec} {K : Params → Frag} {x : Str} {m : List D → M D}
    (hn : l.most = some n) (hn2 : n ≤ sizeLine) (hdf : d.params.defaults = []) (hr : L2.Room k callerA) (hY : ∀ (w : World) (h : Heap), YP w h → (K w.params).In h)
    (F : ∀ (w : World) (mg : Str → Option Value) (fa : Addr) (h : Heap), (K w.params).In h → h.Ns mainGlobals mg → mg d.name = some (.ref fa) → ∃ (G : G3) (fd : FuncData), G.K = K w.params ∧ (∀ (s : Shared) (u : Value), BindsTo s fd ⟨[u], []⟩ [(x, u)]) ∧
        ∀ base : Heap, (K w.params).In base → base.Ns mainGlobals mg → L2.FnOk l.prog w (K w.params) mg base (L2.CX l.prog w) k fa fd [x] (spM G 1 m))
    (hm : ∀ ns : List Int, ns.length ≤ n → (∀ i ∈ ns, i.natAbs.log2 ≤ 1048576) → ∃ st, m [.ro (ns.map .int)] [] = .ok (.bl true) st) : WalkO q loose XP YP l.row.toRowW d [] (fun f vs => PySem.call f vs) := by
  intro w s₀ s₁ mg mb Gr Y fa o pm cd doc dV kV ho hd hcd hD hmg hg args vals as hpre hlay hrd hwl hlo
  cases Dflts.none hD hdf
  cases Dflts.noKw hD
  obtain ⟨a, vs, ns, rfl, rfl, hobj, hints, hlen⟩ := Att.script_of hn hpre hwl
  have KX := hY w _ Y
  obtain ⟨G, fd, hK, hb, hF⟩ := F w mg fa _ KX Gr.T.g hmg
  obtain ⟨st, hst⟩ := hm ns hlen (bits_of hlay)
  refine enter_call (codeAny_mono (L2.law_call (CX := L2.CX l.prog w) KX Gr.T.g Gr.T.b Gr.T.builtins Gr.T.nolimit hg hobj hints (Nat.le_trans hlen hn2) hr hF hb (fun H hO hS => ?_) fun H e s' hq => ?_) fun r s' hq => ?_)
  · refine ⟨rfl, fun _ => False, ⟨fun _ => none, H, H⟩, [], [.ro (ns.map .int)], rfl, ⟨fun _ _ e => e, fun _ z => z.elim, (fun _ _ z => nomatch z), (fun _ _ _ z => nomatch z), (fun _ _ z => nomatch z)⟩, .cons (.ro (by rw [hK]; exact hS) ?_) .nil, ?_⟩
    · clear hst hobj hints hlen hS hlay hrd hwl hpre
      induction ns with
      | nil => exact .nil
      | cons i ns ih => exact .cons .int ih
    · rw [hst]
      intro s2 v l2 w2 r2
      cases r2
      rfl
  · obtain ⟨_, _, _, _, _, _, _, _, _, _, _, _, z⟩ := hq
    exact z
  · obtain ⟨rfl, h2, h3, h4⟩ := hq
    exact ⟨.inl ⟨.bool true, .bool true, [], rfl, fun _ => rfl, .bool true, Att.post_true l _, fun _ => ⟨List.Pairwise.nil, fun _ hm => (nomatch hm)⟩⟩, h2, h3, h4⟩
end M3


/-! a mirror is run by rewriting: what is left to be done stands in named continuations -/
namespace M3
open PySem L2

def run {α : Type} (r : Res α) (k : Res α → Prop) : Prop := k r
def srun (r : SRes) (k : SRes → Prop) : Prop := k r
theorem of_run {α : Type} {r x : Res α} (h : run r (fun y => y = x)) : r = x := h
theorem run_mono {α : Type} {r : Res α} {k k' : Res α → Prop} (h : run r k) (i : ∀ r, k r → k' r) : run r k' := i _ h
theorem srun_mono {r : SRes} {k k' : SRes → Prop} (h : srun r k) (i : ∀ r, k r → k' r) : srun r k' := i _ h
section
variable {α β γ : Type} {k : Res α → Prop} {kb : Res β → Prop} {ks : SRes → Prop} {st : Store} {u : Sl3}
@[simp] theorem run_ok (a : α) : run (.ok a st) k = k (.ok a st) := rfl
@[simp] theorem run_err (c x) : run (.err c x st : Res α) k = k (.err c x st) := rfl
@[simp] theorem run_bad : run (.bad : Res α) k = k .bad := rfl
@[simp] theorem srun_nx : srun (.nx u st) ks = ks (.nx u st) := rfl
@[simp] theorem srun_rt (w) : srun (.rt w st) ks = ks (.rt w st) := rfl
@[simp] theorem srun_bk : srun (.bk u st) ks = ks (.bk u st) := rfl
@[simp] theorem srun_ct : srun (.ct u st) ks = ks (.ct u st) := rfl
@[simp] theorem srun_err (c x) : srun (.err c x u st) ks = ks (.err c x u st) := rfl
@[simp] theorem srun_bad : srun .bad ks = ks .bad := rfl
/-! the monad -/
def kBind (f : α → M β) (k : Res β → Prop) : Res α → Prop
  | .ok a st => run (f a st) k
  | .err c x st => k (.err c x st)
  | .bad => k .bad
@[simp] theorem kBind_ok (f : α → M β) (a) : kBind f kb (.ok a st) = run (f a st) kb := rfl
@[simp] theorem kBind_err (f : α → M β) (c x) : kBind f kb (.err c x st) = kb (.err c x st) := rfl
@[simp] theorem kBind_bad (f : α → M β) : kBind f kb .bad = kb .bad := rfl
@[simp] theorem run_bind (m : M α) (f : α → M β) : run (M.bind m f st) kb = run (m st) (kBind f kb) := by
  unfold run M.bind kBind
  cases m st <;> rfl
@[simp] theorem run_pure (a : α) : run (M.pure a st) k = k (.ok a st) := rfl
@[simp] theorem run_Mbad : run (M.bad st) k = k .bad := rfl
@[simp] theorem run_of_some (a : α) : run (M.of (some a) st) k = k (.ok a st) := rfl
@[simp] theorem run_of_none : run (M.of (none : Option α) st) k = k .bad := rfl
@[simp] theorem run_of_ite (p : Prop) [Decidable p] (a b : Option α) : run (M.of (if p then a else b) st) k = if p then run (M.of a st) k else run (M.of b st) k := by split <;> rfl
@[simp] theorem run_chk (p : Prop) [Decidable p] {k : Res Unit → Prop} : run (M.chk p st) k = if p then k (.ok () st) else k .bad := by unfold run M.chk; split <;> rfl
def kQuiet (k : Res α → Prop) : Res α → Prop
  | .ok a st => k (.ok a st)
  | _ => k .bad
@[simp] theorem kQuiet_ok (a) : kQuiet k (.ok a st) = k (.ok a st) := rfl
@[simp] theorem kQuiet_err (c x) : kQuiet k (.err c x st) = k .bad := rfl
@[simp] theorem kQuiet_bad : kQuiet k (.bad : Res α) = k .bad := rfl
@[simp] theorem run_quiet (m : M α) : run (M.quiet m st) k = run (m st) (kQuiet k) := by unfold run M.quiet kQuiet; cases m st <;> rfl
end
section
variable {k : Res W → Prop} {ka : Res (List W) → Prop} {kt : Res Bool → Prop} {kf : Res (List D) → Prop} {kd : Res D → Prop} {ki : Res (Option Int) → Prop} {ks : SRes → Prop} {st : Store} {u : Sl3} {a b c m : EM} {ma ms : AM} {fm : FM} {t t' : TM} {g g' : W → W → Option W}
/-! expressions -/
def kVar (st : Store) (k : Res W → Prop) : Option (Option W) → Prop
  | some (some w) => k (.ok w st)
  | _ => k .bad
@[simp] theorem kVar_some (w) : kVar st k (some (some w)) = k (.ok w st) := rfl
@[simp] theorem kVar_none : kVar st k (some none) = k .bad := rfl
@[simp] theorem kVar_out : kVar st k none = k .bad := rfl
@[simp] theorem run_eVar (i : Nat) : run (eVar i u st) k = kVar st k u[i]? := by
  unfold run eVar kVar
  cases u[i]? with
  | none => rfl
  | some o => cases o <;> rfl
@[simp] theorem run_eC (d : D) : run (eC d u st) k = k (.ok (.val d) st) := rfl
@[simp] theorem run_aNil : run (aNil u st) ka = ka (.ok [] st) := rfl
@[simp] theorem run_aCons : run (aCons m ms u st) ka = run (m u st) (kBind (fun w => M.bind (ms u) fun ws => M.pure (w :: ws)) ka) := run_bind _ _
@[simp] theorem run_eTup : run (eTup ma u st) k = run (ma u st) (kBind (fun ws => M.bind (M.of (asDs ws)) fun ds => M.bind (M.chk (ds.length ≤ 1000000)) fun _ => M.pure (.val (.tup ds))) k) := run_bind _ _
@[simp] theorem run_fLst : run (fLst ma u st) kf = run (ma u st) (kBind (fun ws => M.bind (M.of (asDs ws)) fun ds => M.bind (M.chk (ds.length ≤ 1000000)) fun _ => M.pure ds) kf) := run_bind _ _
@[simp] theorem run_eF : run (eF fm u st) k = run (fm u st) (kBind (fun xs => M.pure (.val (.lst xs))) k) := run_bind _ _
@[simp] theorem run_eBin : run (eBin g a b u st) k = run (a u st) (kBind (fun x => M.bind (b u) fun y => M.of (g x y)) k) := run_bind _ _
@[simp] theorem run_tOf : run (tOf m u st) kt = run (m u st) (kBind (fun w => M.of w.bool) kt) := run_bind _ _
@[simp] theorem run_tTru : run (tTru m u st) kt = run (m u st) (kBind (fun w => M.of w.tru) kt) := run_bind _ _
def kAnd (b : EM) (u : Sl3) (k : Res W → Prop) (w : W) (st : Store) : Bool → Prop
  | true => run (b u st) k
  | false => k (.ok w st)
def kOr (b : EM) (u : Sl3) (k : Res W → Prop) (w : W) (st : Store) : Bool → Prop
  | true => k (.ok w st)
  | false => run (b u st) k
def kTruW (f : W → Store → Bool → Prop) (kbad : Prop) (kerr : String → D → Store → Prop) : Res W → Prop
  | .ok w st => match w.tru with
    | some c => f w st c
    | none => kbad
  | .err c x st => kerr c x st
  | .bad => kbad
@[simp] theorem run_eAnd : run (eAnd a b u st) k = run (a u st) (kBind (fun w => M.bind (M.of w.tru) fun c => if c = true then b u else M.pure w) k) := run_bind _ _
@[simp] theorem run_eOr : run (eOr a b u st) k = run (a u st) (kBind (fun w => M.bind (M.of w.tru) fun c => if c = true then M.pure w else b u) k) := run_bind _ _
@[simp] theorem run_eNot : run (eNot a u st) k = run (a u st) (kBind (fun w => M.bind (M.of w.tru) fun c => M.pure (.val (.bl (!c)))) k) := run_bind _ _
@[simp] theorem run_tAnd3 : run (tAnd3 t t' u st) kt = run (t u st) (kBind (fun c => if c = true then t' u else M.pure false) kt) := run_bind _ _
@[simp] theorem run_tOr3 : run (tOr3 t t' u st) kt = run (t u st) (kBind (fun c => if c = true then M.pure true else t' u) kt) := run_bind _ _
@[simp] theorem run_tNot3 : run (tNot3 t u st) kt = run (t u st) (kBind (fun c => M.pure (!c)) kt) := run_bind _ _
@[simp] theorem run_ite {α : Type} {k : Res α → Prop} (p : Prop) [Decidable p] (x y : M α) : run ((if p then x else y) st) k = if p then run (x st) k else run (y st) k := by split <;> rfl
@[simp] theorem run_eChain : run (eChain g g' a b c u st) k = run (a u st) (kBind (fun x => M.bind (b u) fun y => M.bind (M.of (g x y)) fun q => M.bind (M.of q.bool) fun q => if q = true then M.bind (c u) fun w => M.of (g' y w) else M.pure (.val (.bl false))) k) := run_bind _ _
@[simp] theorem run_eIf : run (eIf t a b u st) k = run (t u st) (kBind (fun c => if c = true then a u else b u) k) := run_bind _ _
@[simp] theorem run_pNone : run (pNone u st) ki = ki (.ok none st) := rfl
@[simp] theorem run_pSome (i : Int) (h : m u st = .ok (.val (.int i)) st) : run (pSome m u st) ki = ki (.ok (some i) st) := by unfold run pSome M.bind; rw [h]; rfl
def kPart (k : Res (Option Int) → Prop) : Res W → Prop
  | .ok (.val (.int i)) st => k (.ok (some i) st)
  | .ok _ _ => k .bad
  | .err c x st => k (.err c x st)
  | .bad => k .bad
@[simp] theorem kPart_ok (i : Int) : kPart ki (.ok (.val (.int i)) st) = ki (.ok (some i) st) := rfl
@[simp] theorem run_pSome' : run (pSome m u st) ki = run (m u st) (kPart ki) := by
  unfold run pSome M.bind kPart
  cases m u st with
  | ok w st' =>
    cases w with
    | val d => cases d <;> rfl
    | _ => rfl
  | _ => rfl
/-- what a slice gives -/
def slA (x : W) (a b : Option Int) : Option W := match x.ls with
  | some xs => some (.val (.lst (cutD xs a b)))
  | none => slF x a b
@[simp] theorem slA_lst (xs a b) : slA (.val (.lst xs)) a b = some (.val (.lst (cutD xs a b))) := rfl
@[simp] theorem slA_bor (xs a b) : slA (.bor xs) a b = some (.val (.lst (cutD xs a b))) := rfl
@[simp] theorem slA_tup (xs a b) : slA (.val (.tup xs)) a b = some (.val (.tup (cutD xs a b))) := rfl
@[simp] theorem slA_str (z a b) : slA (.val (.str z)) a b = if z.length ≤ 1000000 then some (.val (.str (cutS z a b))) else none := rfl
@[simp] theorem run_eSlA {l h : Sl3 → M (Option Int)} : run (eSlA m l h u st) k = run (m u st) (kBind (fun x => M.bind (l u) fun a => M.bind (h u) fun b => M.of (slA x a b)) k) := by
  have e : eSlA m l h u = M.bind (m u) fun x => M.bind (l u) fun a => M.bind (h u) fun b => M.of (slA x a b) := by
    unfold eSlA slA
    congr 1
    funext x
    cases x.ls <;> rfl
  rw [e]; exact run_bind _ _
@[simp] theorem run_eB (g : List W → Option W) : run (eB g ma u st) k = run (ma u st) (kBind (fun ws => M.of (g ws)) k) := run_bind _ _
@[simp] theorem run_fB (g : List W → Option (List D)) : run (fB g ma u st) kf = run (ma u st) (kBind (fun ws => M.of (g ws)) kf) := run_bind _ _
@[simp] theorem run_eCall (n : Nat) (f : List D → M D) : run (eCall n f ma u st) k = run (ma u st) (kBind (fun ws => M.bind (M.of (asDs ws)) fun ds => M.bind (M.chk (ds.length = n)) fun _ => M.bind (f ds) fun d => M.pure (.val d)) k) := run_bind _ _
/-- what a for walks -/
def kSeqs (k : Res (List D) → Prop) : Res W → Prop
  | .ok (.val d) st => run (M.of d.walk st) k
  | .ok _ _ => k .bad
  | .err c x st => k (.err c x st)
  | .bad => k .bad
@[simp] theorem kSeqs_ok (d : D) : kSeqs kf (.ok (.val d) st) = run (M.of d.walk st) kf := rfl
@[simp] theorem run_iSeq : run (iSeq m u st) kf = run (m u st) (kSeqs kf) := by
  unfold run iSeq M.bind kSeqs
  cases m u st with
  | ok w st' => cases w <;> rfl
  | _ => rfl
@[simp] theorem rng1_int (j : Int) : rng1 [.val (.int j)] = if -1000000 ≤ j ∧ j ≤ 1000000 then some (rangeD 0 j.toNat) else none := rfl
@[simp] theorem rng2_int (i j : Int) : rng2 [.val (.int i), .val (.int j)] = if -1000000 ≤ i ∧ i ≤ 1000000 ∧ -1000000 ≤ j ∧ j ≤ 1000000 then some (rangeD i (j - i).toNat) else none := rfl
@[simp] theorem run_iRange1 : run (iRange1 ma u st) kf = run (ma u st) (kBind (fun ws => M.of (rng1 ws)) kf) := run_bind _ _
@[simp] theorem run_iRange2 : run (iRange2 ma u st) kf = run (ma u st) (kBind (fun ws => M.of (rng2 ws)) kf) := run_bind _ _
@[simp] theorem run_fLc {gm : GM} {own : List Nat} : run (fLc fm gm t m own u st) kf = run (fm u st) (kBind (fun ds => lcL gm t m (wipe3 u own) ds []) kf) := run_bind _ _
@[simp] theorem lcL_nil {gm : GM} {u0 : Sl3} (acc) : lcL gm t m u0 [] acc = M.pure acc := rfl
@[simp] theorem lcL_cons {gm : GM} {u0 : Sl3} (d ds acc) : run (lcL gm t m u0 (d :: ds) acc st) kf = run (M.of (gm d u0) st) (kBind (fun u1 => M.bind (M.quiet (t u1)) fun k =>
    if k = true then M.bind (M.quiet (m u1)) fun w => M.bind (M.of w.d) fun x => M.bind (M.chk (acc.length < 1000000)) fun _ => lcL gm t m u0 ds (acc ++ [x])
    else lcL gm t m u0 ds acc) kf) := run_bind _ _
@[simp] theorem run_tYes3 : run (tYes3 u st) kt = kt (.ok true st) := rfl
@[simp] theorem gName3_eq (i d) : gName3 i d u = some (u.set i (some (.val d))) := rfl
@[simp] theorem gNil3_eq : gNil3 [] u = some u := rfl
@[simp] theorem gCons3_eq (g gs d ds) : gCons3 g gs (d :: ds) u = (g d u).bind (gs ds) := rfl
@[simp] theorem gTup3_eq (n gs ds) : gTup3 n gs (.tup ds) u = if ds.length = n then gs ds u else none := rfl
/-! statements -/
def kSeq (b : SM) (k : SRes → Prop) : SRes → Prop
  | .nx u st => srun (b u st) k
  | r => k r
@[simp] theorem kSeq_nx (s : SM) : kSeq s ks (.nx u st) = srun (s u st) ks := rfl
@[simp] theorem kSeq_rt (s : SM) (w) : kSeq s ks (.rt w st) = ks (.rt w st) := rfl
@[simp] theorem kSeq_bk (s : SM) : kSeq s ks (.bk u st) = ks (.bk u st) := rfl
@[simp] theorem kSeq_ct (s : SM) : kSeq s ks (.ct u st) = ks (.ct u st) := rfl
@[simp] theorem kSeq_err (s : SM) (c x) : kSeq s ks (.err c x u st) = ks (.err c x u st) := rfl
@[simp] theorem kSeq_bad (s : SM) : kSeq s ks .bad = ks .bad := rfl
@[simp] theorem run_sSeq (s s' : SM) : srun (sSeq s s' u st) ks = srun (s u st) (kSeq s' ks) := by unfold srun sSeq kSeq; cases s u st <;> rfl
@[simp] theorem run_sNext : srun (sNext u st) ks = ks (.nx u st) := rfl
@[simp] theorem run_sBreak : srun (sBreak u st) ks = ks (.bk u st) := rfl
@[simp] theorem run_sCont : srun (sCont u st) ks = ks (.ct u st) := rfl
@[simp] theorem run_sRetN : srun (sRetN u st) ks = ks (.rt (.val .non) st) := rfl
/-- an expression's end within a statement -/
def kSet (i : Nat) (u : Sl3) (k : SRes → Prop) : Res W → Prop
  | .ok (.val d) st => k (.nx (u.set i (some (.val d))) st)
  | .ok _ _ => k .bad
  | .err c x st => k (.err c x u st)
  | .bad => k .bad
def kRetV (u : Sl3) (k : SRes → Prop) : Res W → Prop
  | .ok (.val d) st => k (.rt (.val d) st)
  | .ok _ _ => k .bad
  | .err c x st => k (.err c x u st)
  | .bad => k .bad
def kDrop (u : Sl3) (k : SRes → Prop) : Res W → Prop
  | .ok _ st => k (.nx u st)
  | .err c x st => k (.err c x u st)
  | .bad => k .bad
def kOwnS (i : Nat) (u : Sl3) (k : SRes → Prop) : Res (List D) → Prop
  | .ok xs st => k (.nx (u.set i (some (.bor xs))) st)
  | .err c x st => k (.err c x u st)
  | .bad => k .bad
def kFor (gm : GM) (s : SM) (u : Sl3) (k : SRes → Prop) : Res (List D) → Prop
  | .ok ds st => srun (forL gm s ds u st) k
  | .err c x st => k (.err c x u st)
  | .bad => k .bad
def kIf (s s' : SM) (u : Sl3) (k : SRes → Prop) : Res Bool → Prop
  | .ok c st => if c = true then srun (s u st) k else srun (s' u st) k
  | .err c x st => k (.err c x u st)
  | .bad => k .bad
@[simp] theorem kSet_ok (i d) : kSet i u ks (.ok (.val d) st) = ks (.nx (u.set i (some (.val d))) st) := rfl
@[simp] theorem kSet_err (i c x) : kSet i u ks (.err c x st) = ks (.err c x u st) := rfl
@[simp] theorem kSet_bad (i) : kSet i u ks .bad = ks .bad := rfl
@[simp] theorem kRetV_ok (d) : kRetV u ks (.ok (.val d) st) = ks (.rt (.val d) st) := rfl
@[simp] theorem kRetV_err (c x) : kRetV u ks (.err c x st) = ks (.err c x u st) := rfl
@[simp] theorem kRetV_bad : kRetV u ks .bad = ks .bad := rfl
@[simp] theorem kDrop_ok (w) : kDrop u ks (.ok w st) = ks (.nx u st) := rfl
@[simp] theorem kDrop_err (c x) : kDrop u ks (.err c x st) = ks (.err c x u st) := rfl
@[simp] theorem kOwnS_ok (i xs) : kOwnS i u ks (.ok xs st) = ks (.nx (u.set i (some (.bor xs))) st) := rfl
@[simp] theorem kFor_ok (gm s ds) : kFor gm s u ks (.ok ds st) = srun (forL gm s ds u st) ks := rfl
@[simp] theorem kFor_err (gm s c x) : kFor gm s u ks (.err c x st) = ks (.err c x u st) := rfl
@[simp] theorem kIf_ok (s s' c) : kIf s s' u ks (.ok c st) = if c = true then srun (s u st) ks else srun (s' u st) ks := rfl
@[simp] theorem kIf_err (s s' c x) : kIf s s' u ks (.err c x st) = ks (.err c x u st) := rfl
@[simp] theorem run_sSet (i : Nat) : srun (sSet i m u st) ks = run (m u st) (kSet i u ks) := by
  unfold srun sSet run kSet
  cases m u st with
  | ok w st' => cases w <;> rfl
  | _ => rfl
@[simp] theorem run_sRetV : srun (sRetV m u st) ks = run (m u st) (kRetV u ks) := by
  unfold srun sRetV run kRetV
  cases m u st with
  | ok w st' => cases w <;> rfl
  | _ => rfl
@[simp] theorem run_sDrop : srun (sDrop m u st) ks = run (m u st) (kDrop u ks) := by unfold srun sDrop run kDrop; cases m u st <;> rfl
@[simp] theorem run_sOwn (i : Nat) : srun (sOwn i fm u st) ks = run (fm u st) (kOwnS i u ks) := by unfold srun sOwn run kOwnS; cases fm u st <;> rfl
@[simp] theorem run_sIf (s s' : SM) : srun (sIf t s s' u st) ks = run (t u st) (kIf s s' u ks) := by
  unfold srun sIf run kIf
  cases t u st with
  | ok c st' => cases c <;> rfl
  | _ => rfl
/-- a slot that holds a list of one's own -/
def kRetOwn (st : Store) (k : SRes → Prop) : Option (Option W) → Prop
  | some (some (.bor xs)) => k (.rt (.bor xs) st)
  | _ => k .bad
@[simp] theorem kRetOwn_bor (xs) : kRetOwn st ks (some (some (.bor xs))) = ks (.rt (.bor xs) st) := rfl
@[simp] theorem run_sRetO (i : Nat) : srun (sRetO i u st) ks = kRetOwn st ks u[i]? := by
  unfold srun sRetO kRetOwn
  cases u[i]? with
  | none => rfl
  | some o =>
    cases o with
    | none => rfl
    | some w => cases w <;> rfl
def kApp (i : Nat) (u : Sl3) (xs : List D) (k : SRes → Prop) : Res W → Prop
  | .ok (.val d) st => if xs.length < 1000000 then k (.nx (u.set i (some (.bor (xs ++ [d])))) st) else k .bad
  | .ok _ _ => k .bad
  | .err c x st => k (.err c x u st)
  | .bad => k .bad
def kAppTo (i : Nat) (m : EM) (u : Sl3) (st : Store) (k : SRes → Prop) : Option (Option W) → Prop
  | some (some (.bor xs)) => run (m u st) (kApp i u xs k)
  | _ => k .bad
@[simp] theorem kApp_ok (i xs d) : kApp i u xs ks (.ok (.val d) st) = if xs.length < 1000000 then ks (.nx (u.set i (some (.bor (xs ++ [d])))) st) else ks .bad := rfl
@[simp] theorem kAppTo_bor (i xs) : kAppTo i m u st ks (some (some (.bor xs))) = run (m u st) (kApp i u xs ks) := rfl
@[simp] theorem run_sApp (i : Nat) : srun (sApp i m u st) ks = kAppTo i m u st ks u[i]? := by
  unfold srun sApp kAppTo run kApp
  cases u[i]? with
  | none => rfl
  | some o =>
    cases o with
    | none => rfl
    | some w =>
      cases w with
      | bor xs =>
        dsimp only
        cases m u st with
        | ok w st' =>
          cases w with
          | val d => dsimp only; split <;> rfl
          | _ => rfl
        | _ => rfl
      | _ => rfl
@[simp] theorem run_sFor {gm : GM} (s : SM) : srun (sFor fm gm s u st) ks = run (fm u st) (kFor gm s u ks) := by unfold srun sFor run kFor; cases fm u st <;> rfl
@[simp] theorem run_forL_nil {gm : GM} (s : SM) : srun (forL gm s [] u st) ks = ks (.nx u st) := rfl
@[simp] theorem wipe3_nil : wipe3 u [] = u := rfl
@[simp] theorem wipe3_cons (v vs) : wipe3 u (v :: vs) = (wipe3 u vs).set v none := rfl
/-- behind a turn -/
def kTurn (f : Sl3 → Store → Prop) (k : SRes → Prop) : SRes → Prop
  | .nx u st => f u st
  | .ct u st => f u st
  | .bk u st => k (.nx u st)
  | r => k r
@[simp] theorem kTurn_nx (f) : kTurn f ks (.nx u st) = f u st := rfl
@[simp] theorem kTurn_ct (f) : kTurn f ks (.ct u st) = f u st := rfl
@[simp] theorem kTurn_bk (f) : kTurn f ks (.bk u st) = ks (.nx u st) := rfl
@[simp] theorem kTurn_rt (f w) : kTurn f ks (.rt w st) = ks (.rt w st) := rfl
@[simp] theorem kTurn_err (f c x) : kTurn f ks (.err c x u st) = ks (.err c x u st) := rfl
@[simp] theorem kTurn_bad (f) : kTurn f ks .bad = ks .bad := rfl
theorem run_forL_cons {gm : GM} (s : SM) {d : D} {ds : List D} {u1 : Sl3} (h : gm d u = some u1) : srun (forL gm s (d :: ds) u st) ks = srun (s u1 st) (kTurn (fun u st => srun (forL gm s ds u st) ks) ks) := by
  unfold srun
  rw [forL, h]
  dsimp only
  unfold kTurn
  cases s u1 st <;> rfl
/-- a loop by what holds between its turns -/
theorem forL_run {gm : GM} {s : SM} {ds : List D} (I : Nat → Sl3 → Store → Prop) (h0 : I 0 u st) (turn : ∀ i d u st, ds[i]? = some d → I i u st → ∃ u1, gm d u = some u1 ∧ srun (s u1 st) (kTurn (I (i + 1)) ks)) (fin : ∀ u st, I ds.length u st → ks (.nx u st)) : srun (forL gm s ds u st) ks := by
  have all : ∀ (n i : Nat) (u : Sl3) (st : Store), i + n = ds.length → I i u st → srun (forL gm s (ds.drop i) u st) ks := by
    intro n
    induction n with
    | zero =>
      intro i u st hi hI
      rw [List.drop_eq_nil_of_le (by omega)]
      have : i = ds.length := by omega
      subst this
      exact fin u st hI
    | succ n ih =>
      intro i u st hi hI
      have hl : i < ds.length := by omega
      rw [List.drop_eq_getElem_cons hl]
      obtain ⟨u1, e, t⟩ := turn i ds[i] u st (List.getElem?_eq_getElem hl) hI
      rw [run_forL_cons s e]
      refine srun_mono t fun r hr => ?_
      cases r with
      | nx u' st' => exact ih (i + 1) u' st' (by omega) hr
      | ct u' st' => exact ih (i + 1) u' st' (by omega) hr
      | _ => exact hr
  have := all ds.length 0 u st (by omega) h0
  simpa using this
/-- a while by what holds and a number that falls -/
theorem whileL_run {t : TM} {s : SM} (I : Nat → Sl3 → Store → Prop) (n m : Nat) (hn : m < n) (h0 : I m u st) (turn : ∀ m u st, I m u st → run (t u st) (fun r => match r with
    | .ok true st1 => srun (s u st1) (kTurn (fun u st => ∃ m', m' < m ∧ I m' u st) ks)
    | .ok false st1 => ks (.nx u st1)
    | .err c x st1 => ks (.err c x u st1)
    | .bad => ks .bad)) : srun (whileL t s n u st) ks := by
  induction n generalizing m u st with
  | zero => omega
  | succ n ih =>
    have q := turn m u st h0
    unfold run at q
    unfold srun
    rw [whileL]
    cases e : t u st with
    | ok c st1 =>
      rw [e] at q
      cases c with
      | true =>
        dsimp only at q ⊢
        unfold srun at q
        cases e2 : s u st1 with
        | nx u' st' => rw [e2] at q; obtain ⟨m', hm, hI⟩ := q; exact ih m' (by omega) hI
        | ct u' st' => rw [e2] at q; obtain ⟨m', hm, hI⟩ := q; exact ih m' (by omega) hI
        | bk u' st' => rw [e2] at q; exact q
        | rt w st' => rw [e2] at q; exact q
        | err c x u' st' => rw [e2] at q; exact q
        | bad => rw [e2] at q; exact q
      | false => exact q
    | err c x st1 => rw [e] at q; exact q
    | bad => rw [e] at q; exact q
/-- a comprehension whose turns leave the store alone -/
theorem lcL_eq {gm : GM} {u0 : Sl3} (p : D → Bool) (f : D → D) : ∀ (ds acc : List D), (∀ d ∈ ds, ∃ u1, gm d u0 = some u1 ∧ t u1 st = .ok (p d) st ∧ (p d = true → m u1 st = .ok (.val (f d)) st)) → acc.length + ds.length ≤ 1000000 →
    lcL gm t m u0 ds acc st = .ok (acc ++ (ds.filter p).map f) st
  | [], acc, _, _ => by simp [lcL, M.pure]
  | d :: ds, acc, h, hz => by
    obtain ⟨u1, e1, e2, e3⟩ := h d List.mem_cons_self
    have ih := fun acc => lcL_eq p f ds acc fun d hd => h d (List.mem_cons_of_mem _ hd)
    simp only [List.length_cons] at hz
    apply of_run
    rw [lcL_cons, e1]
    simp only [run_of_some, kBind_ok, run_bind, run_quiet, e2, run_ok, kQuiet_ok, run_ite]
    cases hp : p d with
    | false =>
      rw [if_neg Bool.false_ne_true, ih acc (by omega)]
      simp [hp]
    | true =>
      rw [if_pos rfl, e3 hp]
      simp only [run_ok, kQuiet_ok, kBind_ok, run_bind, W.d, run_of_some, run_chk]
      rw [if_pos (by omega), ih _ (by simp; omega)]
      simp [hp]
/-! a def -/
def kRet (k : Res D → Prop) : SRes → Prop
  | .nx _ st => k (.ok .non st)
  | .rt (.val d) st => k (.ok d st)
  | .rt (.bor xs) st => k (.ok (.lst xs) st)
  | .err c x _ st => k (.err c x st)
  | _ => k .bad
@[simp] theorem kRet_nx : kRet kd (.nx u st) = kd (.ok .non st) := rfl
@[simp] theorem kRet_rt (d) : kRet kd (.rt (.val d) st) = kd (.ok d st) := rfl
@[simp] theorem kRet_bor (xs) : kRet kd (.rt (.bor xs) st) = kd (.ok (.lst xs) st) := rfl
@[simp] theorem kRet_err (c x) : kRet kd (.err c x u st) = kd (.err c x st) := rfl
@[simp] theorem kRet_bad : kRet kd .bad = kd .bad := rfl
theorem run_mfn (N : Nat) (mb : SM) (ds : List D) : run (mfn N mb ds st) kd = srun (mb (ds.map (fun d => some (.val d)) ++ List.replicate (N - ds.length) none) st) (kRet kd) := by
  unfold run mfn srun kRet
  cases mb (ds.map (fun d => some (.val d)) ++ List.replicate (N - ds.length) none) st with
  | rt w st' => cases w <;> rfl
  | _ => rfl
end
/-! values -/
@[simp] theorem asDs_nil : asDs [] = some [] := rfl
@[simp] theorem asDs_cons (d : D) (ws : List W) : asDs (.val d :: ws) = (asDs ws).map (d :: ·) := rfl
@[simp] theorem W_d_val (d : D) : (W.val d).d = some d := rfl
@[simp] theorem W_bool_bl (b : Bool) : (W.val (.bl b)).bool = some b := rfl
@[simp] theorem W_rd_val (d : D) : (W.val d).rd = some d := rfl
@[simp] theorem W_rd_bor (xs : List D) : (W.bor xs).rd = some (.lst xs) := rfl
@[simp] theorem W_ls_lst (xs : List D) : (W.val (.lst xs)).ls = some xs := rfl
@[simp] theorem W_ls_bor (xs : List D) : (W.bor xs).ls = some xs := rfl
@[simp] theorem walk_tup (xs : List D) : (D.tup xs).walk = some xs := rfl
@[simp] theorem walk_ctup (xs : List D) : (D.ctup xs).walk = some xs := rfl
@[simp] theorem walk_lst (xs : List D) : (D.lst xs).walk = some xs := rfl
@[simp] theorem walk_ro (xs : List D) : (D.ro xs).walk = some xs := rfl
@[simp] theorem walk_str (x : Str) : (D.str x).walk = some (x.cps.toList.map fun c => .str ⟨#[c]⟩) := rfl
@[simp] theorem items_ctup (xs : List D) : (D.ctup xs).items = some xs := rfl
@[simp] theorem items_tup (xs : List D) : (D.tup xs).items = some xs := rfl
@[simp] theorem items_lst (xs : List D) : (D.lst xs).items = some xs := rfl
@[simp] theorem items_ro (xs : List D) : (D.ro xs).items = some xs := rfl
@[simp] theorem tru_non : (W.val .non).tru = some false := rfl
@[simp] theorem tru_bl (b : Bool) : (W.val (.bl b)).tru = some b := rfl
@[simp] theorem tru_int (i : Int) : (W.val (.int i)).tru = some (i != 0) := rfl
@[simp] theorem tru_tup (xs : List D) : (W.val (.tup xs)).tru = some (!xs.isEmpty) := rfl
@[simp] theorem tru_lst (xs : List D) : (W.val (.lst xs)).tru = some (!xs.isEmpty) := rfl
@[simp] theorem tru_bor (xs : List D) : (W.bor xs).tru = some (!xs.isEmpty) := rfl
@[simp] theorem addF_int (i j : Int) : addF (.val (.int i)) (.val (.int j)) = some (.val (.int (i + j))) := rfl
@[simp] theorem addF_str (x y : Str) : addF (.val (.str x)) (.val (.str y)) = if x.length + y.length ≤ 1000000 then some (.val (.str (x ++ y))) else none := rfl
@[simp] theorem addF_tup (xs ys : List D) : addF (.val (.tup xs)) (.val (.tup ys)) = if xs.length + ys.length ≤ 1000000 then some (.val (.tup (xs ++ ys))) else none := rfl
@[simp] theorem addF_lst (xs ys : List D) : addF (.val (.lst xs)) (.val (.lst ys)) = if xs.length + ys.length ≤ 1000000 then some (.val (.lst (xs ++ ys))) else none := rfl
@[simp] theorem addF_bl (xs ys : List D) : addF (.bor xs) (.val (.lst ys)) = if xs.length + ys.length ≤ 1000000 then some (.val (.lst (xs ++ ys))) else none := rfl
@[simp] theorem addF_lb (xs ys : List D) : addF (.val (.lst xs)) (.bor ys) = if xs.length + ys.length ≤ 1000000 then some (.val (.lst (xs ++ ys))) else none := rfl
@[simp] theorem addF_bb (xs ys : List D) : addF (.bor xs) (.bor ys) = if xs.length + ys.length ≤ 1000000 then some (.val (.lst (xs ++ ys))) else none := rfl
@[simp] theorem subF_int (i j : Int) : subF (.val (.int i)) (.val (.int j)) = some (.val (.int (i - j))) := rfl
@[simp] theorem modF_int (i j : Int) : modF (.val (.int i)) (.val (.int j)) = if 0 < j then some (.val (.int (i % j))) else none := by simp [modF, intF]
@[simp] theorem divF_int (i j : Int) : divF (.val (.int i)) (.val (.int j)) = if 0 < j ∧ j < 1073741824 then some (.val (.int (i / j))) else none := by simp [divF, intF]
@[simp] theorem powF_int (i j : Int) : powF (.val (.int i)) (.val (.int j)) = if 0 ≤ j ∧ j ≤ 1000 ∧ i.natAbs < 1000000 then some (.val (.int (i ^ j.toNat))) else none := by simp [powF, intF]
@[simp] theorem mulF_int (i j : Int) : mulF (.val (.int i)) (.val (.int j)) = if mulC i j = true then some (.val (.int (i * j))) else none := rfl
@[simp] theorem mulF_str (x : Str) (j : Int) : mulF (.val (.str x)) (.val (.int j)) = if MulS x j = true then some (.val (.str (Txt.mul x j))) else none := rfl
@[simp] theorem ltF_int (i j : Int) : ltF (.val (.int i)) (.val (.int j)) = some (.val (.bl (decide (i < j)))) := rfl
@[simp] theorem leF_int (i j : Int) : leF (.val (.int i)) (.val (.int j)) = some (.val (.bl (decide (i ≤ j)))) := rfl
@[simp] theorem gtF_int (i j : Int) : gtF (.val (.int i)) (.val (.int j)) = some (.val (.bl (decide (j < i)))) := rfl
@[simp] theorem geF_int (i j : Int) : geF (.val (.int i)) (.val (.int j)) = some (.val (.bl (decide (j ≤ i)))) := rfl
@[simp] theorem isNF_non (b : Bool) : isNF b (.val .non) (.val .non) = some (.val (.bl (!b))) := by cases b <;> rfl
@[simp] theorem isNF_int (b : Bool) (i) : isNF b (.val (.int i)) (.val .non) = some (.val (.bl b)) := rfl
@[simp] theorem isNF_str (b : Bool) (i) : isNF b (.val (.str i)) (.val .non) = some (.val (.bl b)) := rfl
@[simp] theorem isNF_tup (b : Bool) (i) : isNF b (.val (.tup i)) (.val .non) = some (.val (.bl b)) := rfl
@[simp] theorem isNF_lst (b : Bool) (i) : isNF b (.val (.lst i)) (.val .non) = some (.val (.bl b)) := rfl
@[simp] theorem lenF_str (z : Str) : lenF [.val (.str z)] = if z.length ≤ 1000000 then some (.val (.int z.length)) else none := rfl
@[simp] theorem lenF_tup (xs : List D) : lenF [.val (.tup xs)] = some (.val (.int xs.length)) := rfl
@[simp] theorem lenF_lst (xs : List D) : lenF [.val (.lst xs)] = some (.val (.int xs.length)) := rfl
@[simp] theorem lenF_ro (xs : List D) : lenF [.val (.ro xs)] = some (.val (.int xs.length)) := rfl
@[simp] theorem lenF_bor (xs : List D) : lenF [.bor xs] = some (.val (.int xs.length)) := rfl
@[simp] theorem intCF_int (i : Int) : intCF [.val (.int i)] = some (.val (.int i)) := rfl
@[simp] theorem intCF_bl (b : Bool) : intCF [.val (.bl b)] = some (.val (.int (if b then 1 else 0))) := rfl
@[simp] theorem tupCF_lst (xs : List D) : tupCF [.val (.lst xs)] = some (.val (.tup xs)) := rfl
@[simp] theorem tupCF_tup (xs : List D) : tupCF [.val (.tup xs)] = some (.val (.tup xs)) := rfl
@[simp] theorem tupCF_bor (xs : List D) : tupCF [.bor xs] = some (.val (.tup xs)) := rfl
@[simp] theorem lstCF_lst (xs : List D) : lstCF [.val (.lst xs)] = some xs := rfl
@[simp] theorem lstCF_tup (xs : List D) : lstCF [.val (.tup xs)] = some xs := rfl
@[simp] theorem lstCF_bor (xs : List D) : lstCF [.bor xs] = some xs := rfl
@[simp] theorem ixF_lst (xs : List D) (i : Int) : ixF (.val (.lst xs)) (.val (.int i)) = (atI xs i).map .val := rfl
@[simp] theorem ixF_tup (xs : List D) (i : Int) : ixF (.val (.tup xs)) (.val (.int i)) = (atI xs i).map .val := rfl
@[simp] theorem ixF_ro (xs : List D) (i : Int) : ixF (.val (.ro xs)) (.val (.int i)) = (atI xs i).map .val := rfl
@[simp] theorem ixF_bor (xs : List D) (i : Int) : ixF (.bor xs) (.val (.int i)) = (atI xs i).map .val := rfl
@[simp] theorem ixF_str (z : Str) (i : Int) : ixF (.val (.str z)) (.val (.int i)) = if z.length ≤ 1000000 then (atI z.cps.toList i).map fun c => .val (.str ⟨#[c]⟩) else none := rfl
theorem atN {α : Type} (xs : List α) (i : Nat) : atI xs (i : Int) = xs[i]? := by
  unfold atI ixN
  rw [if_pos (by omega)]
  by_cases h : i < xs.length
  · rw [if_pos (by omega)]; simp
  · rw [if_neg (by omega)]; simp [List.getElem?_eq_none (by omega : xs.length ≤ i)]
theorem atI_int {α : Type} (xs : List α) {i : Int} (h : 0 ≤ i) : atI xs i = xs[i.toNat]? := by
  have := atN xs i.toNat
  rwa [Int.toNat_of_nonneg h] at this
theorem atI_last {α : Type} (xs : List α) : atI xs (-1) = xs.getLast? := by
  unfold atI ixN
  rw [if_neg (by omega)]
  rw [List.getLast?_eq_getElem?]
  by_cases h : xs = []
  · subst h; rfl
  · have : 0 < xs.length := List.length_pos_iff.mpr h
    rw [if_pos (by omega)]
    simp only [Option.bind_some]
    congr 1
    omega
end M3


namespace M3
open PySem L2
section
variable {α β γ : Type} {k : Res α → Prop} {kw : Res W → Prop} {ks : SRes → Prop} {st : Store} {u : Sl3} {m a b : EM} {g : GM}
@[simp] theorem run_eM1 (g : Str → W → Option W) : run (eM1 g a b u st) kw = run (a u st) (kBind (fun x => M.bind (M.of x.str?) fun z => M.bind (b u) fun y => M.of (g z y)) kw) := run_bind _ _
@[simp] theorem run_eCnt : run (eCnt a b u st) kw = run (a u st) (kBind (fun x => M.bind (M.of x.tup?) fun xs => M.bind (b u) fun y => M.of (cntF xs y)) kw) := run_bind _ _
def kNeg (k : Res W → Prop) : Res W → Prop
  | .ok (.val (.int i)) st => k (.ok (.val (.int (-i))) st)
  | .ok _ _ => k .bad
  | .err c x st => k (.err c x st)
  | .bad => k .bad
@[simp] theorem kNeg_ok (i) : kNeg kw (.ok (.val (.int i)) st) = kw (.ok (.val (.int (-i))) st) := rfl
@[simp] theorem run_eNeg : run (eNeg a u st) kw = run (a u st) (kNeg kw) := by
  unfold run eNeg M.bind kNeg
  cases a u st with
  | ok w st' => cases w with
    | val d => cases d <;> rfl
    | _ => rfl
  | _ => rfl
@[simp] theorem str?_str (x : Str) : (W.val (.str x)).str? = some x := rfl
@[simp] theorem tup?_tup (xs : List D) : (W.val (.tup xs)).tup? = some xs := rfl
@[simp] theorem startsF_str (x y : Str) : startsF x (.val (.str y)) = some (.val (.bl (Txt.startswith x y))) := rfl
@[simp] theorem splitF_str (x y : Str) : splitF x (.val (.str y)) = if y.length ≠ 0 ∧ x.length ≤ 900000 then some (.val (.lst ((Txt.split x y).map .str))) else none := rfl
theorem strs_map : ∀ xs : List Str, D.strs (xs.map .str) = some xs
  | [] => rfl
  | x :: xs => by rw [List.map_cons, D.strs, strs_map xs]; rfl
@[simp] theorem joinF_strs (x : Str) (xs : List Str) : joinF x (.val (.lst (xs.map .str))) = if (xs.map (·.length)).sum + xs.length * x.length ≤ 1000000 then some (.val (.str (Txt.join x xs))) else none := by
  show (D.strs (xs.map .str)).bind _ = _
  rw [strs_map]; rfl
theorem bls_map : ∀ xs : List Bool, D.bls (xs.map .bl) = some xs
  | [] => rfl
  | x :: xs => by rw [List.map_cons, D.bls, bls_map xs]; rfl
@[simp] theorem allF_bls (xs : List Bool) : allF [.val (.lst (xs.map .bl))] = some (.val (.bl (xs.all id))) := by
  show (D.bls (xs.map .bl)).map _ = _
  rw [bls_map]; rfl
@[simp] theorem anyF_bls (xs : List Bool) : anyF [.val (.lst (xs.map .bl))] = some (.val (.bl (xs.any id))) := by
  show (D.bls (xs.map .bl)).map _ = _
  rw [bls_map]; rfl
theorem bls_mapF {α : Type} (f : α → Bool) (xs : List α) : (xs.map fun x => D.bl (f x)) = (xs.map f).map .bl := by rw [List.map_map]; rfl
@[simp] theorem allF_mapF {α : Type} (f : α → Bool) (xs : List α) : allF [.val (.lst (xs.map fun x => D.bl (f x)))] = some (.val (.bl (xs.all f))) := by
  rw [bls_mapF, allF_bls, List.all_map]; rfl
@[simp] theorem anyF_mapF {α : Type} (f : α → Bool) (xs : List α) : anyF [.val (.lst (xs.map fun x => D.bl (f x)))] = some (.val (.bl (xs.any f))) := by
  rw [bls_mapF, anyF_bls, List.any_map]; rfl
@[simp] theorem inF_sign (neg : Bool) (c : Nat) (b : Str) : inF neg (.val (.str ⟨#[c]⟩)) (.val (.str b)) = some (.val (.bl (if neg then !decide (c ∈ b.cps.toList) else decide (c ∈ b.cps.toList)))) := rfl
/-! statements -/
@[simp] theorem srun_sFrz (i : Nat) (xs : List D) (h : u[i]? = some (some (.bor xs))) : srun (sFrz i u st) ks = ks (.nx (u.set i (some (.val (.lst xs)))) st) := by
  unfold srun sFrz; rw [h]
def kAsg (g : GM) (u : Sl3) (ks : SRes → Prop) : Res W → Prop
  | .ok (.val d) st => (match g d u with
    | some u' => ks (.nx u' st)
    | none => ks .bad)
  | .ok _ _ => ks .bad
  | .err c x st => ks (.err c x u st)
  | .bad => ks .bad
def kAsg2 (st : Store) (ks : SRes → Prop) : Option Sl3 → Prop
  | some u' => ks (.nx u' st)
  | none => ks .bad
@[simp] theorem kAsg2_some (u') : kAsg2 st ks (some u') = ks (.nx u' st) := rfl
@[simp] theorem kAsg_ok (d : D) : kAsg g u ks (.ok (.val d) st) = kAsg2 st ks (g d u) := by unfold kAsg kAsg2; rfl
@[simp] theorem srun_sAsg : srun (sAsg m g u st) ks = run (m u st) (kAsg g u ks) := by
  unfold srun sAsg run kAsg
  cases m u st with
  | ok w st' => cases w with
    | val d => dsimp only; cases g d u <;> rfl
    | _ => rfl
  | _ => rfl
@[simp] theorem srun_sPop (i : Nat) (xs : List D) (h : u[i]? = some (some (.bor xs))) : srun (sPop i u st) ks = if xs.isEmpty = true then ks .bad else ks (.nx (u.set i (some (.bor xs.dropLast))) st) := by
  unfold srun sPop; rw [h]; dsimp only; split <;> rfl
end
end M3


namespace My
open PySem L2 M3
def mb_w_digits : SM := (sSeq (sOwn 3 (fLst aNil))
  (sSeq (sSet 4 (eBin subF (eVar 0) (eBin powF (eC (.int 10)) (eC (.int 18)))))
  (sSeq (sFor (iRange1 (aCons (eVar 2) aNil)) (gName3 5) (sIf (tOf (eBin geF (eVar 0) (eBin powF (eC (.int 10)) (eC (.int 18))))) (sSeq (sApp 3 (eBin modF (eB intCF (aCons (eVar 4) aNil)) (eC (.int 5040))))
  (sSet 4 (eBin divF (eVar 4) (eC (.int 5040))))) (sSeq (sSet 6 (eBin modF (eB intCF (aCons (eBin addF (eBin addF (eBin mulF (eVar 0) (eC (.int 48271))) (eBin mulF (eBin addF (eVar 1) (eVar 5)) (eC (.int 69621)))) (eC (.int 7))) aNil)) (eC (.int 2147483647))))
  (sApp 3 (eBin modF (eBin modF (eB intCF (aCons (eBin addF (eBin addF (eBin mulF (eVar 6) (eVar 6)) (eBin mulF (eC (.int 40692)) (eVar 1))) (eVar 5)) aNil)) (eC (.int 1000003))) (eC (.int 5040)))))))
  (sRetO 3))))
def mf_w_digits : List D → M D := mfn 7 mb_w_digits
def mb_w_cell_at : SM := (sSeq (sIf (tOf (eBin ltF (eVar 1) (eB lenF (aCons (eVar 0) aNil)))) (sRetV (eBin ixF (eVar 0) (eVar 1))) sNext)
  (sSeq (sIf (tOf (eBin gtF (eB lenF (aCons (eVar 0) aNil)) (eC (.int 0)))) (sRetV (eBin addF (eBin modF (eB intCF (aCons (eBin ixF (eVar 0) (eBin modF (eVar 1) (eB lenF (aCons (eVar 0) aNil)))) aNil)) (eC (.int 1000003))) (eBin mulF (eC (.int 1009)) (eVar 1)))) sNext)
  (sRetV (eVar 1))))
def mf_w_cell_at : List D → M D := mfn 2 mb_w_cell_at
def mb_w_drawn : SM := (sSeq (sSet 1 (eC (.str "abcdefghijklmnopqrstuvwxyz")))
  (sSeq (sSet 2 (eC (.str " !\"#$&'()*+,-./0123456789:;<=>?@")))
  (sSeq (sSet 2 (eBin addF (eVar 2) (eC (.str "ABCDEFGHIJKLMNOPQRSTUVWXYZ[\\]^_`{|}~"))))
  (sSeq (sSet 3 (eBin modF (eB intCF (aCons (eBin ixF (eVar 0) (eC (.int 0))) aNil)) (eC (.int 11))))
  (sSeq (sSet 4 (eM1 joinF (eC (.str "")) (eF (fLc (iSeq (eSlA (eVar 0) (pSome (eC (.int 1))) (pSome (eBin addF (eC (.int 1)) (eVar 3))))) (gName3 6) tYes3 (eBin ixF (eVar 1) (eBin modF (eB intCF (aCons (eVar 6) aNil)) (eC (.int 26)))) [6]))))
  (sSeq (sIf (tAnd3 (tOf (eBin gtF (eVar 3) (eC (.int 0)))) (tOf (eBin gtF (eBin modF (eB intCF (aCons (eBin ixF (eVar 0) (eC (.int 11))) aNil)) (eC (.int 3))) (eC (.int 0))))) (sSeq (sSet 5 (eBin modF (eBin divF (eB intCF (aCons (eBin ixF (eVar 0) (eC (.int 11))) aNil)) (eC (.int 3))) (eVar 3)))
  (sSet 4 (eBin addF (eBin addF (eSlA (eVar 4) pNone (pSome (eVar 5))) (eBin ixF (eVar 2) (eBin modF (eB intCF (aCons (eBin ixF (eVar 0) (eC (.int 12))) aNil)) (eB lenF (aCons (eVar 2) aNil))))) (eSlA (eVar 4) (pSome (eBin addF (eVar 5) (eC (.int 1)))) pNone)))) sNext)
  (sRetV (eVar 4))))))))
def mf_w_drawn : List D → M D := mfn 7 mb_w_drawn
def mb_is_word : SM := (sSeq (sIf (tNot3 (tTru (eB isiF (aCons (eVar 0) (aCons (eC (.ty "str")) aNil))))) (sRetV (eC (.bl false))) sNext)
  (sRetV (eAnd (eChain leF leF (eC (.int 1)) (eB lenF (aCons (eVar 0) aNil)) (eC (.int 8))) (eB allF (aCons (eF (fLc (iSeq (eVar 0)) (gName3 1) tYes3 (eBin (inF false) (eVar 1) (eC (.str "abcdefghijklmnopqrstuvwxyz"))) [1])) aNil)))))
def mf_is_word : List D → M D := mfn 2 mb_is_word
def mb_Book_is_name : SM := (sRetV (eCall 1 mf_is_word (aCons (eVar 0) aNil)))
def mf_Book_is_name : List D → M D := mfn 1 mb_Book_is_name
def mb_law : SM := (sSeq (sSet 1 (eC (.str "abcdefghijklmnopqrstuvwxyz")))
  (sSeq (sOwn 2 (fLc (iSeq (eVar 1)) (gName3 9) tYes3 (eVar 9) [9]))
  (sSeq (sFor (iRange1 (aCons (eC (.int 3)) aNil)) (gName3 3) (sSeq (sSet 5 (eCall 3 mf_w_digits (aCons (eCall 2 mf_w_cell_at (aCons (eVar 0) (aCons (eVar 3) aNil))) (aCons (eBin mulF (eC (.int 20)) (eVar 3)) (aCons (eC (.int 13)) aNil)))))
  (sSeq (sApp 2 (eCall 1 mf_w_drawn (aCons (eVar 5) aNil)))
  (sSeq (sSet 6 (eBin modF (eBin divF (eB intCF (aCons (eBin ixF (eVar 5) (eC (.int 0))) aNil)) (eC (.int 11))) (eC (.int 18))))
  (sSeq (sApp 2 (eSlA (eVar 1) (pSome (eVar 6)) (pSome (eBin addF (eVar 6) (eC (.int 8))))))
  (sApp 2 (eSlA (eVar 1) (pSome (eVar 6)) (pSome (eBin addF (eVar 6) (eC (.int 9)))))))))))
  (sSeq (sSeq (sFrz 2) (sFor (iSeq (eVar 2)) (gName3 4) (sSeq (sSet 7 (eCall 1 mf_Book_is_name (aCons (eVar 4) aNil)))
  (sSeq (sSet 8 (eAnd (eChain ltF ltF (eC (.int 0)) (eB lenF (aCons (eVar 4) aNil)) (eC (.int 9))) (eB allF (aCons (eF (fLc (iSeq (eVar 4)) (gName3 9) tYes3 (eBin (inF false) (eVar 9) (eVar 1)) [9])) aNil))))
  (sIf (tOr3 (tNot3 (tTru (eB isiF (aCons (eVar 7) (aCons (eC (.ty "bool")) aNil))))) (tOf (eBin (eqF true) (eVar 7) (eVar 8)))) (sRetV (eC (.bl false))) sNext)))))
  (sRetV (eC (.bl true)))))))
def mf_law : List D → M D := mfn 10 mb_law

theorem log2_le {n k : Nat} (h : n < 2 ^ k) : n.log2 ≤ k := by
  by_cases z : n = 0
  · subst z; simp
  · exact Nat.le_of_lt ((Nat.log2_lt z).mpr h)
theorem two20 : (2 : Nat) ^ 31 ≤ 2 ^ 1048576 := Nat.pow_le_pow_right (by decide) (by decide)
set_option maxHeartbeats 4000000 in
theorem cell_at_spec (ns : List Int) (k : Nat) (hk : k < 1000000) (hb : ∀ i ∈ ns, i.natAbs.log2 ≤ 1048576) (hl : ns.length ≤ 63) (st : Store) :
    ∃ c : Int, mf_w_cell_at [.ro (ns.map .int), .int k] st = .ok (.int c) st ∧ c.natAbs.log2 ≤ 1048576 := by
  have hs : sizeLine = 16777216 := sizeLine_eq
  by_cases h1 : k < ns.length
  · refine ⟨ns[k], of_run ?_, hb _ (List.getElem_mem h1)⟩
    rw [mf_w_cell_at, run_mfn]
    simp [mb_w_cell_at, atN, h1]
  · by_cases h2 : 0 < ns.length
    · have h3 : k % ns.length < ns.length := Nat.mod_lt _ h2
      have hat : atI (ns.map D.int) ((k : Int) % (ns.length : Int)) = some (.int ns[k % ns.length]) := by
        have e3 : ((k : Int) % (ns.length : Int)) = ((k % ns.length : Nat) : Int) := by omega
        rw [e3, atN]; simp [h3]
      refine ⟨ns[k % ns.length] % 1000003 + 1009 * k, of_run ?_, ?_⟩
      · rw [mf_w_cell_at, run_mfn]
        have hm : mulC 1009 k = true := by
          unfold mulC
          have := log2_le (n := (k : Int).natAbs) (k := 20) (by omega)
          have e : Nat.log2 (Int.natAbs 1009) = 9 := by decide
          exact decide_eq_true (by omega)
        simp [mb_w_cell_at, h1, h2, hat, hm]
      · refine log2_le (Nat.lt_of_lt_of_le ?_ two20)
        have := Int.emod_nonneg ns[k % ns.length] (b := 1000003) (by decide)
        have := Int.emod_lt_of_pos ns[k % ns.length] (b := 1000003) (by decide)
        omega
    · refine ⟨k, of_run ?_, log2_le (Nat.lt_of_lt_of_le (m := 2 ^ 31) (by omega) two20)⟩
      rw [mf_w_cell_at, run_mfn]
      simp [mb_w_cell_at, h1, h2]

/-- the draws: as many as asked for, each below 5040 -/
def Draws (n : Nat) (ds : List Int) : Prop := ds.length = n ∧ ∀ d ∈ ds, 0 ≤ d ∧ d < 5040
theorem range_get {n i : Nat} {d : D} (h : (rangeD 0 n)[i]? = some d) : d = .int i ∧ i < n := by
  unfold rangeD at h
  rw [List.getElem?_map] at h
  by_cases hi : i < n
  · rw [List.getElem?_range hi] at h
    simp at h
    exact ⟨h.symm, hi⟩
  · rw [List.getElem?_eq_none (by simpa using hi)] at h; cases h
theorem rangeD_length (lo : Int) (n : Nat) : (rangeD lo n).length = n := by simp [rangeD]
theorem mulC_of {i j : Int} {a b : Nat} (ha : i.natAbs.log2 ≤ a) (hb : j.natAbs.log2 ≤ b) (h : a + b < 100000000) : mulC i j = true := decide_eq_true (by omega)
set_option maxHeartbeats 4000000 in
theorem digits_spec (c : Int) (salt many : Nat) (hc : c.natAbs.log2 ≤ 1048576) (hs : salt < 1000000) (hm : many ≤ 1000) (st : Store) :
    ∃ ds : List Int, mf_w_digits [.int c, .int salt, .int many] st = .ok (.lst (ds.map .int)) st ∧ Draws many ds := by
  have hz : sizeLine = 16777216 := sizeLine_eq
  suffices h : M3.run (mf_w_digits [.int c, .int salt, .int many] st) (fun r => ∃ ds : List Int, r = .ok (.lst (ds.map .int)) st ∧ Draws many ds) by
    obtain ⟨ds, e, h⟩ := h
    exact ⟨ds, e, h⟩
  rw [mf_w_digits, run_mfn]
  have hr : -1000000 ≤ (many : Int) ∧ (many : Int) ≤ 1000000 := by omega
  simp [mb_w_digits, hr]
  refine forL_run (fun i u st' => st' = st ∧ ∃ (ds : List Int) (rest : Int) (x y : Option W), Draws i ds ∧ u = [some (.val (.int c)), some (.val (.int salt)), some (.val (.int many)), some (.bor (ds.map .int)), some (.val (.int rest)), x, y]) ?_ ?_ ?_
  · exact ⟨rfl, [], _, none, none, ⟨rfl, by simp⟩, rfl⟩
  · rintro i d u st' hd ⟨rfl, ds, rest, x, y, hD, rfl⟩
    obtain ⟨rfl, hi⟩ := range_get hd
    refine ⟨_, rfl, ?_⟩
    have hlen : ds.length < 1000000 := by rw [hD.1]; omega
    by_cases hb : (1000000000000000000 : Int) ≤ c
    · simp [hb, hlen]
      refine ⟨ds ++ [rest % 5040], ⟨by simp [hD.1], fun e he => ?_⟩, by simp⟩
      rcases List.mem_append.mp he with q | q
      · exact hD.2 e q
      · rw [List.mem_singleton.mp q]; omega
    · have m1 : mulC c 48271 = true := mulC_of hc (b := 16) (by decide) (by omega)
      have m2 : mulC ((salt : Int) + (i : Int)) 69621 = true := mulC_of (a := 40) (log2_le (by omega)) (b := 17) (by decide) (by omega)
      generalize hq : (c * 48271 + ((salt : Int) + (i : Int)) * 69621 + 7) % 2147483647 = q
      have q0 : 0 ≤ q ∧ q < 2147483647 := by omega
      have m3 : mulC q q = true := mulC_of (a := 40) (log2_le (by omega)) (b := 40) (log2_le (by omega)) (by omega)
      have m4 : mulC 40692 (salt : Int) = true := mulC_of (a := 16) (by decide) (b := 40) (log2_le (by omega)) (by omega)
      simp [hb, hlen, m1, m2, hq, m3, m4]

      refine ⟨ds ++ [(q * q + 40692 * (salt : Int) + (i : Int)) % 1000003 % 5040], ⟨by simp [hD.1], fun e he => ?_⟩, by simp⟩
      rcases List.mem_append.mp he with h | h
      · exact hD.2 e h
      · rw [List.mem_singleton.mp h]; omega
  · rintro u st' ⟨rfl, ds, rest, x, y, hD, rfl⟩
    rw [rangeD_length] at hD
    simp
    exact ⟨ds, rfl, hD⟩

/-! texts by their signs -/
def S (l : List Nat) : Str := ⟨l.toArray⟩
@[simp] theorem S_length (l : List Nat) : (S l).length = l.length := by show l.toArray.size = _; simp
@[simp] theorem S_list (l : List Nat) : (S l).cps.toList = l := by simp [S]
theorem S_app (a b : List Nat) : S a ++ S b = S (a ++ b) := by
  show (⟨a.toArray ++ b.toArray⟩ : Str) = ⟨(a ++ b).toArray⟩
  simp
theorem S_inj {a b : List Nat} (h : S a = S b) : a = b := by have := congrArg (fun z : Str => z.cps.toList) h; simpa using this
theorem S_eta (z : Str) : S z.cps.toList = z := by cases z; simp [S]
theorem S_cut (l : List Nat) (lo hi : Option Int) : cutS (S l) lo hi = S (cutD l lo hi) := by
  unfold cutS cutD
  rw [S_list, S_length]
  rfl
theorem cut_to {α : Type} (xs : List α) {i : Int} (h : 0 ≤ i) : cutD xs none (some i) = xs.take i.toNat := by
  obtain ⟨n, rfl⟩ := Int.eq_ofNat_of_zero_le h
  unfold cutD
  rw [HT.sIx_none, HT.sIx_nat]
  simp [List.take_eq_take_iff]
theorem cut_from {α : Type} (xs : List α) {i : Int} (h : 0 ≤ i) : cutD xs (some i) none = xs.drop i.toNat := by
  obtain ⟨n, rfl⟩ := Int.eq_ofNat_of_zero_le h
  unfold cutD
  rw [HT.sIx_none, HT.sIx_nat]
  simp only [Int.toNat_natCast]
  by_cases q : n ≤ xs.length
  · rw [Nat.min_eq_left q]; exact List.take_of_length_le (by simp)
  · rw [Nat.min_eq_right (by omega), List.drop_eq_nil_of_le (Nat.le_refl _), List.drop_eq_nil_of_le (by omega)]; simp
theorem cut_mid {α : Type} (xs : List α) {i j : Int} (h : 0 ≤ i) (h' : 0 ≤ j) : cutD xs (some i) (some j) = (xs.drop i.toNat).take (j.toNat - i.toNat) := by
  obtain ⟨n, rfl⟩ := Int.eq_ofNat_of_zero_le h
  obtain ⟨m, rfl⟩ := Int.eq_ofNat_of_zero_le h'
  unfold cutD
  rw [HT.sIx_nat, HT.sIx_nat]
  simp only [Int.toNat_natCast]
  by_cases q : n ≤ xs.length
  · rw [Nat.min_eq_left q]
    rw [List.take_eq_take_iff]
    simp only [List.length_drop]
    omega
  · rw [Nat.min_eq_right (a := n) (by omega), List.drop_eq_nil_of_le (Nat.le_refl _), List.drop_eq_nil_of_le (by omega)]; simp
theorem mul_one_sign (c n : Nat) : Txt.mul (S [c]) (n : Int) = S (List.replicate n c) := by
  unfold Txt.mul
  by_cases h0 : (n : Int) < 1
  · rw [if_pos h0]
    have : n = 0 := by omega
    subst this; rfl
  · rw [if_neg h0]
    by_cases h1 : n = 1
    · subst h1; rfl
    · rw [if_neg (by simp only [S_length, Bool.or_eq_true, beq_iff_eq, List.length_cons, List.length_nil]; omega)]
      unfold S
      congr 1
      have all : ∀ (n : Nat) (acc : List Nat), List.foldl (fun x1 x2 => x1 ++ x2) acc.toArray (List.replicate n [c].toArray) = (acc ++ List.replicate n c).toArray := by
        intro n
        induction n with
        | zero => intro acc; simp
        | succ n ih =>
          intro acc
          rw [List.replicate_succ, List.foldl_cons]
          have : acc.toArray ++ [c].toArray = (acc ++ [c]).toArray := by simp
          rw [this, ih, List.replicate_succ]
          simp
      have := all n []
      simpa using this
/-- a name: 1 to 8 small letters -/
def IsNm (w : Str) : Prop := 1 ≤ w.length ∧ w.length ≤ 8 ∧ ∀ c ∈ w.cps.toList, 97 ≤ c ∧ c ≤ 122
def letters : List Nat := (List.range 26).map (97 + ·)
theorem letters_eq : ("abcdefghijklmnopqrstuvwxyz" : Str) = S letters := by decide +kernel
theorem letters_get {n : Nat} (h : n < 26) : letters[n]? = some (97 + n) := by unfold letters; simp [h]
/-- the words that a draw spells -/
def wordL (d k : Nat) : List Nat :=
  ((List.replicate (d % 8) (97 + d / 64 % 26)).take (d / 8 % 8) ++ [97 + (d + 5 * k) % 26] ++ ((List.replicate (d % 8) (97 + d / 64 % 26)).drop (d / 8 % 8) ++ (List.replicate (d % 8) (97 + d / 64 % 26)).take (k * (d / 3 % 3)))).take 8
def word (d k : Nat) : Str := S (wordL d k)
theorem wordL_nm (d k : Nat) : 1 ≤ (wordL d k).length ∧ (wordL d k).length ≤ 8 ∧ ∀ c ∈ wordL d k, 97 ≤ c ∧ c ≤ 122 := by
  unfold wordL
  refine ⟨by simp; omega, by simp; omega, fun c hc => ?_⟩
  have h := List.mem_of_mem_take hc
  have rep : ∀ c ∈ List.replicate (d % 8) (97 + d / 64 % 26), 97 ≤ c ∧ c ≤ 122 := fun c hc => by rw [List.eq_of_mem_replicate hc]; omega
  rcases List.mem_append.mp h with h | h
  · rcases List.mem_append.mp h with h | h
    · exact rep c (List.mem_of_mem_take h)
    · rw [List.mem_singleton.mp h]; omega
  · rcases List.mem_append.mp h with h | h
    · exact rep c (List.mem_of_mem_drop h)
    · exact rep c (List.mem_of_mem_take h)
theorem word_nm (d k : Nat) : IsNm (word d k) := by
  have := wordL_nm d k
  exact ⟨by rw [word, S_length]; exact this.1, by rw [word, S_length]; exact this.2.1, by rw [word, S_list]; exact this.2.2⟩
theorem wordL_at (d k : Nat) : (wordL d k)[min (d / 8 % 8) (d % 8)]? = some (97 + (d + 5 * k) % 26) := by
  unfold wordL
  rw [List.getElem?_take_of_lt (by omega), List.append_assoc, List.getElem?_append_right (by simp), List.getElem?_append_left (by simp)]
  simp
theorem word_inj {d j k : Nat} (hj : j < 26) (hk : k < 26) (h : word d j = word d k) : j = k := by
  have e := S_inj h
  have a := wordL_at d j
  rw [e, wordL_at] at a
  simp at a
  omega
def words (d n : Nat) : List Str := (List.range n).map (word d)
theorem words_nodup (d : Nat) {n : Nat} (h : n ≤ 26) : (words d n).Nodup := by
  unfold words
  rw [List.nodup_iff_pairwise_ne, List.pairwise_map]
  refine List.Pairwise.imp_of_mem ?_ (List.nodup_iff_pairwise_ne.mp List.nodup_range)
  intro a b ha hb hab e
  exact hab (word_inj (by have := List.mem_range.mp ha; omega) (by have := List.mem_range.mp hb; omega) e)
theorem words_length (d n : Nat) : (words d n).length = n := by simp [words]
theorem words_nm {d n : Nat} {w : Str} (h : w ∈ words d n) : IsNm w := by
  unfold words at h
  obtain ⟨k, _, rfl⟩ := List.mem_map.mp h
  exact word_nm d k
theorem lcL_range {gm : GM} {m : EM} {u0 : Sl3} {st : Store} {n : Nat} (f : Nat → D) (h : ∀ i, i < n → ∃ u1, gm (.int i) u0 = some u1 ∧ m u1 st = .ok (.val (f i)) st) (hn : n ≤ 1000000) :
    lcL gm tYes3 m u0 (rangeD 0 n) [] st = .ok ((List.range n).map f) st := by
  have := lcL_eq (st := st) (t := tYes3) (m := m) (gm := gm) (u0 := u0) (fun _ => true) (fun d => match d with | .int i => f i.toNat | _ => .non) (rangeD 0 n) [] (fun d hd => ?_) (by simp [rangeD_length]; exact hn)
  · rw [this]
    have e : (rangeD 0 n).filter (fun _ => true) = rangeD 0 n := List.filter_eq_self.mpr fun _ _ => rfl
    rw [e, rangeD, List.map_map, List.nil_append]
    congr 1
    apply List.map_congr_left
    intro a _
    simp
  · unfold rangeD at hd
    obtain ⟨i, hi, rfl⟩ := List.mem_map.mp hd
    obtain ⟨u1, e1, e2⟩ := h i (List.mem_range.mp hi)
    exact ⟨u1, by simpa using e1, rfl, fun _ => by simpa using e2⟩
theorem lcR_run {gm : GM} {m : EM} {u0 : Sl3} {st : Store} {n : Nat} {k : Res (List D) → Prop} (f : Nat → D) (hn : n ≤ 1000000) (h : ∀ i, i < n → ∃ u1, gm (.int i) u0 = some u1 ∧ M3.run (m u1 st) (fun r => r = .ok (.val (f i)) st)) (hk : k (.ok ((List.range n).map f) st)) :
    M3.run (lcL gm tYes3 m u0 (rangeD 0 n) [] st) k := by
  rw [lcL_range f h hn]; exact hk
theorem lc_run {gm : GM} {t : TM} {m : EM} {u0 : Sl3} {st : Store} {ds : List D} {k : Res (List D) → Prop} (p : D → Bool) (f : D → D) (hn : ds.length ≤ 1000000)
    (h : ∀ d ∈ ds, ∃ u1, gm d u0 = some u1 ∧ M3.run (t u1 st) (fun r => r = .ok (p d) st) ∧ (p d = true → M3.run (m u1 st) (fun r => r = .ok (.val (f d)) st))) (hk : k (.ok ((ds.filter p).map f) st)) :
    M3.run (lcL gm t m u0 ds [] st) k := by
  rw [lcL_eq p f ds [] h (by simpa using hn)]; exact hk

theorem pys_strs : ∀ ws : List Str, D.pys (ws.map .str) = some (ws.map .str)
  | [] => rfl
  | w :: ws => by
    rw [List.map_cons, D.pys, pys_strs ws]
    rfl
theorem okN {w : Str} (h : IsNm w) : PyData.strOk w = true := by
  unfold PyData.strOk
  rw [Array.all_eq_true_iff_forall_mem]
  intro c hc
  have := h.2.2 c (by simpa using hc)
  exact decide_eq_true (by omega)
theorem canLay_strs : ∀ {ws : List Str}, (∀ w ∈ ws, PyData.strOk w = true) → PyData.canLayAll0 (ws.map .str) = true
  | [], _ => rfl
  | w :: ws, h => by
    rw [List.map_cons, PyData.canLayAll0, PyData.canLay0, h w List.mem_cons_self, canLay_strs fun x hx => h x (List.mem_cons_of_mem _ hx)]
    rfl
theorem depth_strs : ∀ ws : List Str, PyData.depthAll (ws.map .str) = 0
  | [] => rfl
  | w :: ws => by rw [List.map_cons, PyData.depthAll, PyData.depth, depth_strs ws]; rfl
theorem eqv_strs : ∀ xs ys : List Str, PyData.eqvAll (xs.map .str) (ys.map .str) = decide (xs = ys)
  | [], [] => by simp [PyData.eqvAll]
  | [], y :: ys => by simp [PyData.eqvAll]
  | x :: xs, [] => by simp [PyData.eqvAll]
  | x :: xs, y :: ys => by
    rw [List.map_cons, List.map_cons, PyData.eqvAll, PyData.eqv, eqv_strs xs ys]
    by_cases h : x = y <;> by_cases h2 : xs = ys <;> simp [h, h2]
/-- == of two texts -/
theorem eqF_str (neg : Bool) {x y : Str} (hx : PyData.strOk x = true) (hy : PyData.strOk y = true) : eqF neg (.val (.str x)) (.val (.str y)) = some (.val (.bl (if neg then !decide (x = y) else decide (x = y)))) := by
  have s : ∀ {z : Str}, PyData.strOk z = true → SeqAt.shaped (.str z) = true := fun {z} h => by
    unfold SeqAt.shaped
    rw [PyData.canLay0, h, PyData.depth]; rfl
  unfold eqF
  simp only [W_rd_val, D.eqv?, D.py, s hx, s hy, and_self, if_true, Option.map_some, PyData.eqv]
  congr 4
  all_goals (by_cases h : x = y <;> simp [h])
theorem eqF_lst (neg : Bool) {xs ys : List Str} (hx : ∀ w ∈ xs, PyData.strOk w = true) (hy : ∀ w ∈ ys, PyData.strOk w = true) : eqF neg (.val (.lst (xs.map .str))) (.val (.lst (ys.map .str))) = some (.val (.bl (if neg then !decide (xs = ys) else decide (xs = ys)))) := by
  have s : ∀ {zs : List Str}, (∀ w ∈ zs, PyData.strOk w = true) → SeqAt.shaped (.list (zs.map .str)) = true := fun {zs} h => by
    unfold SeqAt.shaped
    rw [PyData.canLay0, canLay_strs h, PyData.depth, depth_strs]; rfl
  unfold eqF
  simp only [W_rd_val, D.eqv?, D.py, pys_strs, Option.map_some, s hx, s hy, and_self, if_true, PyData.eqv, eqv_strs]
def tupS (ws : List Str) : D := .tup (ws.map .str)
theorem lc_strs {gm : GM} {t : TM} {m : EM} {u0 : Sl3} {st : Store} {ws : List Str} {k : Res (List D) → Prop} (p : Str → Bool) (f : Str → D) (hn : ws.length ≤ 1000000)
    (h : ∀ w ∈ ws, ∃ u1, gm (.str w) u0 = some u1 ∧ M3.run (t u1 st) (fun r => r = .ok (p w) st) ∧ (p w = true → M3.run (m u1 st) (fun r => r = .ok (.val (f w)) st))) (hk : k (.ok ((ws.filter p).map f) st)) :
    M3.run (lcL gm t m u0 (ws.map .str) [] st) k := by
  have e := lcL_eq (gm := gm) (t := t) (m := m) (u0 := u0) (st := st) (fun d => match d with | .str x => p x | _ => false) (fun d => match d with | .str x => f x | _ => .non) (ws.map .str) [] (fun d hd => by
    obtain ⟨w, hw, rfl⟩ := List.mem_map.mp hd
    exact h w hw) (by simpa using hn)
  rw [e]
  have e2 : ((ws.map D.str).filter fun d => match d with | .str x => p x | _ => false) = (ws.filter p).map D.str := by
    clear e hk h hn
    induction ws with
    | nil => rfl
    | cons w ws ih =>
      simp only [List.map_cons, List.filter_cons, ih]
      cases p w <;> simp
  rw [e2, List.map_map]
  exact hk
theorem get_map {α β : Type} {f : α → β} {l : List α} {i : Nat} {b : β} (h : (l.map f)[i]? = some b) : ∃ a, l[i]? = some a ∧ b = f a := by
  rw [List.getElem?_map] at h
  cases e : l[i]? with
  | none => rw [e] at h; cases h
  | some a => rw [e] at h; exact ⟨a, rfl, by cases h; rfl⟩
theorem kit_tuple : kitB "tuple" "tuple" = some true := by decide +kernel
@[simp] theorem isiF_tup (xs : List D) : isiF [.val (.tup xs), .val (.ty "tuple")] = some (.val (.bl true)) := by
  unfold isiF
  simp [D.tyn, kit_tuple]

theorem lcL_mapE {α : Type} {gm : GM} {t : TM} {m : EM} {u0 : Sl3} {st : Store} (f : α → D) (p : α → Bool) (g : α → D) : ∀ (xs : List α) (acc : List D),
    (∀ x ∈ xs, ∃ u1, gm (f x) u0 = some u1 ∧ t u1 st = .ok (p x) st ∧ (p x = true → m u1 st = .ok (.val (g x)) st)) → acc.length + xs.length ≤ 1000000 →
    lcL gm t m u0 (xs.map f) acc st = .ok (acc ++ (xs.filter p).map g) st
  | [], acc, _, _ => by simp [lcL, M.pure]
  | x :: xs, acc, h, hz => by
    obtain ⟨u1, e1, e2, e3⟩ := h x List.mem_cons_self
    have ih := fun acc => lcL_mapE f p g xs acc fun d hd => h d (List.mem_cons_of_mem _ hd)
    simp only [List.length_cons] at hz
    apply of_run
    rw [List.map_cons, lcL_cons, e1]
    simp only [run_of_some, kBind_ok, run_bind, run_quiet, e2, run_ok, kQuiet_ok, run_ite]
    cases hp : p x with
    | false =>
      rw [if_neg Bool.false_ne_true, ih acc (by omega)]
      simp [hp]
    | true =>
      rw [if_pos rfl, e3 hp]
      simp only [run_ok, kQuiet_ok, kBind_ok, run_bind, W.d, run_of_some, run_chk]
      rw [if_pos (by omega), ih _ (by simp; omega)]
      simp [hp]
theorem lcM_run {α : Type} {gm : GM} {t : TM} {m : EM} {u0 : Sl3} {st : Store} {xs : List α} {k : Res (List D) → Prop} (f : α → D) (p : α → Bool) (g : α → D) (hn : xs.length ≤ 1000000)
    (h : ∀ x ∈ xs, ∃ u1, gm (f x) u0 = some u1 ∧ M3.run (t u1 st) (fun r => r = .ok (p x) st) ∧ (p x = true → M3.run (m u1 st) (fun r => r = .ok (.val (g x)) st))) (hk : k (.ok ((xs.filter p).map g) st)) :
    M3.run (lcL gm t m u0 (xs.map f) [] st) k := by
  rw [lcL_mapE f p g xs [] h (by simpa using hn)]; exact hk
/-- without a condition -/
theorem lcA_run {α : Type} {gm : GM} {m : EM} {u0 : Sl3} {st : Store} {xs : List α} {k : Res (List D) → Prop} (f : α → D) (g : α → D) (hn : xs.length ≤ 1000000)
    (h : ∀ x ∈ xs, ∃ u1, gm (f x) u0 = some u1 ∧ M3.run (m u1 st) (fun r => r = .ok (.val (g x)) st)) (hk : k (.ok (xs.map g) st)) :
    M3.run (lcL gm tYes3 m u0 (xs.map f) [] st) k :=
  lcM_run f (fun _ => true) g hn (fun x hx => let ⟨u1, e, r⟩ := h x hx; ⟨u1, e, rfl, fun _ => r⟩) (by rw [List.filter_eq_self.mpr (fun _ _ => rfl)]; exact hk)
theorem kit_str : kitB "str" "str" = some true := by decide +kernel
theorem kit_bool : kitB "bool" "bool" = some true := by decide +kernel
@[simp] theorem isiF_str (x : Str) : isiF [.val (.str x), .val (.ty "str")] = some (.val (.bl true)) := by
  unfold isiF
  simp [D.tyn, kit_str]
@[simp] theorem isiF_bool (x : Bool) : isiF [.val (.bl x), .val (.ty "bool")] = some (.val (.bl true)) := by
  unfold isiF
  simp [D.tyn, kit_bool]
@[simp] theorem eqF_bl (neg a b : Bool) : eqF neg (.val (.bl a)) (.val (.bl b)) = some (.val (.bl (if neg then !decide (a = b) else decide (a = b)))) := by
  cases neg <;> cases a <;> cases b <;> rfl
def wordB (x : Str) : Bool := decide (1 ≤ x.length ∧ x.length ≤ 8) && x.cps.toList.all fun c => decide (c ∈ letters)
theorem size_len (x : Str) : x.cps.toList.length = x.length := by show x.cps.toList.length = x.cps.size; simp
set_option maxHeartbeats 4000000 in
theorem is_word_str (x : Str) (hx : x.length ≤ 1000) (st : Store) : mf_is_word [.str x] st = .ok (.bl (wordB x)) st := by
  apply of_run
  rw [mf_is_word, run_mfn]
  have hz : x.length ≤ 1000000 := by omega
  simp only [mb_is_word, letters_eq]
  simp [hz]
  by_cases h1 : (1 : Int) ≤ x.length
  · by_cases h2 : (x.length : Int) ≤ 8
    · have n1 : 1 ≤ x.length := by omega
      have n2 : x.length ≤ 8 := by omega
      simp [h1, h2]
      refine lcA_run (fun c => .str ⟨#[c]⟩) (fun c => .bl (decide (c ∈ letters))) (by rw [size_len]; omega) (fun c hc => ⟨_, rfl, ?_⟩) ?_
      · simp
      · simp [wordB, n1, n2]
    · have n2 : ¬ x.length ≤ 8 := by omega
      simp [h1, h2, wordB, n2]
  · have n1 : ¬ 1 ≤ x.length := by omega
    simp [h1, wordB, n1]
theorem is_name_str (x : Str) (hx : x.length ≤ 1000) (st : Store) : mf_Book_is_name [.str x] st = .ok (.bl (wordB x)) st := by
  apply of_run
  rw [mf_Book_is_name, run_mfn]
  simp [mb_Book_is_name, is_word_str x hx]
theorem join0_len (ys : List Str) {n : Nat} (h : (ys.map (·.length)).sum + ys.length ≤ n + 1) : (Txt.join "" ys).length ≤ 4 * (n + 1)   := PyProof.Rows.len_join_le h (by decide)
theorem sum_ones {α : Type} : ∀ xs : List α, (xs.map fun _ => 1).sum = xs.length
  | [] => rfl
  | x :: xs => by rw [List.map_cons, List.sum_cons, sum_ones xs, List.length_cons]; omega
theorem app_len (a b : Str) : (a ++ b).length = a.length + b.length := by
  show (a.cps ++ b.cps).size = a.cps.size + b.cps.size
  simp
theorem S_one (c : Nat) : S [c] = ⟨#[c]⟩ := rfl
theorem cutS_len (x : Str) (lo hi : Option Int) : (cutS x lo hi).length ≤ x.length := by
  rw [← S_eta x, S_cut, S_length, S_length]
  unfold cutD
  simp only [List.length_take, List.length_drop]
  omega
set_option maxHeartbeats 4000000 in
theorem drawn_spec (ds : List Int) (hD : Draws 13 ds) (st : Store) : ∃ t : Str, mf_w_drawn [.lst (ds.map .int)] st = .ok (.str t) st ∧ t.length ≤ 1000 := by
  obtain ⟨hl, hd⟩ := hD
  suffices h : M3.run (mf_w_drawn [.lst (ds.map .int)] st) (fun r => ∃ t : Str, r = .ok (.str t) st ∧ t.length ≤ 1000) by
    obtain ⟨t, e, h⟩ := h
    exact ⟨t, e, h⟩
  rw [mf_w_drawn, run_mfn]
  have at_ : ∀ i : Nat, i < 13 → atI (ds.map D.int) (i : Int) = some (.int (ds.getD i 0)) := fun i hi => by
    rw [atN]
    simp [hl, hi, List.getD_eq_getElem?_getD]
  have a0 := at_ 0 (by decide)
  have a11 := at_ 11 (by decide)
  have a12 := at_ 12 (by decide)
  simp only [Int.natCast_zero, Int.cast_ofNat_Int] at a0 a11 a12
  generalize e0 : ds.getD 0 0 = d0 at *
  generalize e11 : ds.getD 11 0 = d11 at *
  generalize e12 : ds.getD 12 0 = d12 at *
  have l1 : ("abcdefghijklmnopqrstuvwxyz" : Str) = S letters := letters_eq
  obtain ⟨sg, hsg, hsl⟩ : ∃ sg : List Nat, (" !\"#$&'()*+,-./0123456789:;<=>?@" : Str) ++ "ABCDEFGHIJKLMNOPQRSTUVWXYZ[\\]^_`{|}~" = S sg ∧ sg.length = 68 := ⟨_, (S_eta _).symm, by decide +kernel⟩
  have z1 : (" !\"#$&'()*+,-./0123456789:;<=>?@" : Str).length + ("ABCDEFGHIJKLMNOPQRSTUVWXYZ[\\]^_`{|}~" : Str).length ≤ 1000000 := by decide +kernel
  have ll : letters.length ≤ 1000000 := by decide
  simp only [mb_w_drawn, l1]
  simp [a0, a11, a12, z1, hsg, hsl, ll]
  have cm : cutD (ds.map D.int) (some 1) (some (1 + d0 % 11)) = (((ds.drop 1).take (1 + d0 % 11).toNat.pred).map D.int) := by
    rw [cut_mid _ (by decide) (by omega), ← List.map_drop, ← List.map_take]
    congr 1
  rw [cm]
  refine lcA_run D.int (fun i => .str (S [97 + (i % 26).toNat])) (by simp; omega) (fun i hi => ⟨_, rfl, ?_⟩) ?_
  · have e : atI letters (i % 26) = some (97 + (i % 26).toNat) := by rw [atI_int _ (by omega), letters_get (by omega)]
    simp [e, ll]
    rfl
  generalize hxs : (ds.drop 1).take (1 + d0 % 11).toNat.pred = xs
  have hxl : xs.length ≤ 13 := by rw [← hxs, List.length_take, List.length_drop]; omega
  have em : (xs.map fun i => D.str (S [97 + (i % 26).toNat])) = (xs.map fun i => S [97 + (i % 26).toNat]).map .str := by rw [List.map_map]; rfl
  rw [em]
  have hsum : ((xs.map fun i => S [97 + (i % 26).toNat]).map (·.length)).sum = xs.length := by
    rw [List.map_map]
    have : ((fun x : Str => x.length) ∘ fun i : Int => S [97 + (i % 26).toNat]) = fun _ => 1 := by funext i; simp
    rw [this, sum_ones]
  have hjl := join0_len (xs.map fun i => S [97 + (i % 26).toNat]) (n := 26) (by rw [hsum]; simp; omega)
  generalize hys : (xs.map fun i => S [97 + (i % 26).toNat]) = ys at *
  have hyl : ys.length ≤ 13 := by rw [← hys]; simpa using hxl
  have e0l : (Str.ofString "").length = 0 := by decide
  have hjz : (ys.map (·.length)).sum ≤ 1000000 := by omega
  simp [e0l, hjz]
  generalize Txt.join (Str.ofString "") ys = t at *
  by_cases h1 : 0 < d0 % 11
  · by_cases h2 : 0 < d11 % 3
    · obtain ⟨c, hc⟩ : ∃ c, atI sg (d12 % 68) = some c := by
        rw [atI_int _ (by omega)]
        exact ⟨_, List.getElem?_eq_getElem (by omega)⟩
      have la := cutS_len t none (some (d11 / 3 % (d0 % 11)))
      have lb := cutS_len t (some (d11 / 3 % (d0 % 11) + 1)) none
      simp [h1, h2, hc, hsl, a0, a11, a12, show t.length ≤ 1000000 by omega]
      have l1 : (⟨#[c]⟩ : Str).length = 1 := rfl
      simp only [app_len, l1]
      omega
    · simp [h1, h2, a11]
      omega
  · simp [h1]
    omega
set_option maxHeartbeats 8000000 in
theorem law_true (ns : List Int) (hl : ns.length ≤ 63) (hb : ∀ i ∈ ns, i.natAbs.log2 ≤ 1048576) : ∃ st, mf_law [.ro (ns.map .int)] [] = .ok (.bl true) st := by
  refine ⟨[], of_run ?_⟩
  rw [mf_law, run_mfn]
  simp only [mb_law, letters_eq]
  have ll : letters.length ≤ 1000000 := by decide
  have r3 : (-1000000 : Int) ≤ 3 ∧ (3 : Int) ≤ 1000000 := by decide
  simp
  refine lcA_run (fun c => .str ⟨#[c]⟩) (fun c => .str ⟨#[c]⟩) (by decide) (fun c hc => ⟨_, rfl, ?_⟩) ?_
  · simp
  simp
  refine forL_run (fun i u st' => st' = [] ∧ ∃ (ts : List Str) (x3 x4 x5 x6 x7 x8 x9 : Option W), ts.length ≤ 26 + 3 * i ∧ (∀ t ∈ ts, t.length ≤ 1000) ∧
    u = [some (.val (.ro (ns.map .int))), some (.val (.str (S letters))), some (.bor (ts.map .str)), x3, x4, x5, x6, x7, x8, x9]) ?_ ?_ ?_
  · refine ⟨rfl, letters.map fun c => ⟨#[c]⟩, none, none, none, none, none, none, none, by decide, fun t ht => ?_, by rw [List.map_map]; rfl⟩
    obtain ⟨c, _, rfl⟩ := List.mem_map.mp ht
    show 1 ≤ 1000
    decide
  · rintro i d u st' hd ⟨rfl, ts, x3, x4, x5, x6, x7, x8, x9, hz, hT, rfl⟩
    obtain ⟨rfl, hi⟩ := range_get hd
    refine ⟨_, rfl, ?_⟩
    obtain ⟨c, ec, bc⟩ := cell_at_spec ns i (by omega) hb hl []
    obtain ⟨ds, eds, hD⟩ := digits_spec c (20 * i) 13 bc (by omega) (by decide) []
    obtain ⟨t, et, ht⟩ := drawn_spec ds hD []
    have m : mulC 20 (i : Int) = true := mulC_of (a := 5) (by decide) (b := 40) (log2_le (by omega)) (by omega)
    have e20 : ((20 * i : Nat) : Int) = 20 * (i : Int) := by omega
    rw [e20] at eds
    simp only [Int.cast_ofNat_Int] at eds
    have a0 : atI (ds.map D.int) 0 = some (.int (ds.getD 0 0)) := by
      have := atN (ds.map D.int) 0
      rw [show ((0 : Nat) : Int) = 0 from rfl] at this
      rw [this]
      simp [hD.1, List.getD_eq_getElem?_getD]
    generalize ds.getD 0 0 = d0 at a0
    have tz : ts.length < 999990 := by omega
    simp [ec, m, eds, et, a0, ll, show ts.length < 1000000 by omega, show ts.length + 1 < 1000000 by omega, show ts.length + 1 + 1 < 1000000 by omega]
    refine ⟨ts ++ [t, cutS (S letters) (some (d0 / 11 % 18)) (some (d0 / 11 % 18 + 8)), cutS (S letters) (some (d0 / 11 % 18)) (some (d0 / 11 % 18 + 9))], by simp; omega, fun x hx => ?_, by simp⟩
    have cz : ∀ lo hi, (cutS (S letters) lo hi).length ≤ 1000 := fun lo hi => Nat.le_trans (cutS_len _ _ _) (by rw [S_length]; decide)
    rcases List.mem_append.mp hx with h | h
    · exact hT x h
    · simp only [List.mem_cons, List.not_mem_nil, or_false] at h
      rcases h with rfl | rfl | rfl
      · exact ht
      · exact cz _ _
      · exact cz _ _
  · rintro u st' ⟨rfl, ts, x3, x4, x5, x6, x7, x8, x9, hz, hT, rfl⟩
    simp
    refine forL_run (fun i u st' => st' = [] ∧ ∃ (x3 x4 x5 x6 x7 x8 x9 : Option W), u = [some (.val (.ro (ns.map .int))), some (.val (.str (S letters))), some (.val (.lst (ts.map .str))), x3, x4, x5, x6, x7, x8, x9]) ?_ ?_ ?_
    · exact ⟨rfl, _, _, _, _, _, _, _, rfl⟩
    · rintro i d u st' hd ⟨rfl, x3, x4, x5, x6, x7, x8, x9, rfl⟩
      obtain ⟨t, ht, rfl⟩ := get_map hd
      have hx := hT t (List.mem_of_getElem? ht)
      have hz : t.length ≤ 1000000 := by omega
      refine ⟨_, rfl, ?_⟩
      simp [is_name_str t hx, hz]
      by_cases h1 : 0 < t.length
      · by_cases h2 : (t.length : Int) < 9
        · have n1 : 1 ≤ t.length := by omega
          have n2 : t.length ≤ 8 := by omega
          simp [h1, h2]
          refine lcA_run (fun c => .str ⟨#[c]⟩) (fun c => .bl (decide (c ∈ letters))) (by rw [size_len]; omega) (fun c hc => ⟨_, rfl, ?_⟩) ?_
          · simp
          · simp [wordB, n1, n2]
        · have n2 : ¬ t.length ≤ 8 := by omega
          simp [h1, h2, wordB, n2]
      · have n1 : ¬ 1 ≤ t.length := by omega
        simp [h1, wordB, n1]
    · rintro u st' ⟨rfl, x3, x4, x5, x6, x7, x8, x9, rfl⟩
      simp

def top (i : Nat) : Stmt := PySem.Challenge.pw_switchedlayers_k03_names.main.body.getD i (.Pass ⟨0, 0, 0, 0⟩)
structure Txt (K : PySem.W.Frag) (mg : Str → Option Value) : Prop where
  z_all : mg "all" = none
  z_bool : mg "bool" = none
  z_int : mg "int" = none
  z_isinstance : mg "isinstance" = none
  z_len : mg "len" = none
  z_range : mg "range" = none
  z_str : mg "str" = none
  g_LETTERS : ∃ t, mg "LETTERS" = some (.str "abcdefghijklmnopqrstuvwxyz" t)
abbrev s_w_digits : Stmt := top 28
abbrev n_w_digits : List Str := ["_law_cell", "_law_salt", "_law_many", "_law_draws", "_law_rest", "_law_k", "_law_mixed"]
theorem sc_w_digits : FnScope n_w_digits ["_law_cell", "_law_salt", "_law_many"] (defScope s_w_digits) := ⟨rfl, rfl, rfl, by decide +kernel, rfl, by decide +kernel, by decide +kernel⟩
abbrev s_w_cell_at : Stmt := top 27
abbrev n_w_cell_at : List Str := ["_law_script", "_law_k"]
theorem sc_w_cell_at : FnScope n_w_cell_at ["_law_script", "_law_k"] (defScope s_w_cell_at) := ⟨rfl, rfl, rfl, by decide +kernel, rfl, by decide +kernel, by decide +kernel⟩
abbrev s_w_drawn : Stmt := top 29
abbrev n_w_drawn : List Str := ["_law_marks", "_law_letters", "_law_signs", "_law_size", "_law_text", "_law_at", "_law_mark"]
theorem sc_w_drawn : FnScope n_w_drawn ["_law_marks"] (defScope s_w_drawn) := ⟨rfl, rfl, rfl, by decide +kernel, rfl, by decide +kernel, by decide +kernel⟩
abbrev s_is_word : Stmt := top 14
abbrev n_is_word : List Str := ["text", "sign"]
theorem sc_is_word : FnScope n_is_word ["text"] (defScope s_is_word) := ⟨rfl, rfl, rfl, by decide +kernel, rfl, by decide +kernel, by decide +kernel⟩
abbrev s_Book_is_name : Stmt := (clsB (top 25)).getD 9 (.Pass ⟨0, 0, 0, 0⟩)
abbrev n_Book_is_name : List Str := ["text"]
theorem sc_Book_is_name : FnScope n_Book_is_name ["text"] (defScope s_Book_is_name) := ⟨rfl, rfl, rfl, by decide +kernel, rfl, by decide +kernel, by decide +kernel⟩
abbrev s_law : Stmt := top 30
abbrev n_law : List Str := ["_law_script", "_law_letters", "_law_texts", "_law_k", "_law_text", "_law_draws", "_law_start", "_law_told", "_law_due", "_law_sign"]
theorem sc_law : FnScope n_law ["_law_script"] (defScope s_law) := ⟨rfl, rfl, rfl, by decide +kernel, rfl, by decide +kernel, by decide +kernel⟩
section
variable {Pg : Program} {w : World} {K : PySem.W.Frag} {mg : Str → Option Value} {base : Heap} {G : G3}
theorem ok_w_digits (hK : K = G.K) (T : Txt K mg) {f : Addr} {fd : FuncData} (F : Fun K "_law_digits" "_law_digits" s_w_digits f fd) :
    FnOk Pg w K mg base (L2.CX Pg w) 1 f fd ["_law_cell", "_law_salt", "_law_many"] (spM G 3 mf_w_digits) :=
  fn_ok (k := 0) (N := n_w_digits) (mb := mb_w_digits) hK F sc_w_digits fun cdv A outer s H E hr =>
  (mss_cons (ms_own 3 sc_w_digits.nd (mf_lst ma_nil))
  (mss_cons (ms_set 4 sc_w_digits.nd (me_bin om_sub (me_var 0) (me_bin om_pow me_int me_int)))
  (mss_cons (ms_for (passes_of rfl) rfl (mi_range1 rfl T.z_range (ma_cons (me_var 2) ma_nil)) (mg_name 5 sc_w_digits.nd) (mss_one (ms_if (mt_cmp om_ge (me_var 0) (me_bin om_pow me_int me_int) (nomark _)) (mss_cons (ms_app 3 (me_bin om_mod (me_callTy cm_int rfl T.z_int (by decide +kernel) (ma_cons (me_var 4) ma_nil)) me_int))
  (mss_one (ms_set 4 sc_w_digits.nd (me_bin om_div (me_var 4) me_int)))) (mss_cons (ms_set 6 sc_w_digits.nd (me_bin om_mod (me_callTy cm_int rfl T.z_int (by decide +kernel) (ma_cons (me_bin om_add (me_bin om_add (me_bin om_mul (me_var 0) me_int) (me_bin om_mul (me_bin om_add (me_var 1) (me_var 5)) me_int)) me_int) ma_nil)) me_int))
  (mss_one (ms_app 3 (me_bin om_mod (me_bin om_mod (me_callTy cm_int rfl T.z_int (by decide +kernel) (ma_cons (me_bin om_add (me_bin om_add (me_bin om_mul (me_var 6) (me_var 6)) (me_bin om_mul me_int (me_var 1))) (me_var 5)) ma_nil)) me_int) me_int)))))))
  (mss_one (ms_retO 3)))))
theorem ok_w_cell_at (hK : K = G.K) (T : Txt K mg) {f : Addr} {fd : FuncData} (F : Fun K "_law_cell_at" "_law_cell_at" s_w_cell_at f fd) :
    FnOk Pg w K mg base (L2.CX Pg w) 1 f fd ["_law_script", "_law_k"] (spM G 2 mf_w_cell_at) :=
  fn_ok (k := 0) (N := n_w_cell_at) (mb := mb_w_cell_at) hK F sc_w_cell_at fun cdv A outer s H E hr =>
  (mss_cons (ms_if (mt_cmp om_lt (me_var 1) (me_callB cm_len rfl T.z_len PySem.boot_len (ma_cons (me_var 0) ma_nil)) (nomark _)) (mss_one (ms_ret (me_ix (me_var 0) (me_var 1)))) mss_nil)
  (mss_cons (ms_if (mt_cmp om_gt (me_callB cm_len rfl T.z_len PySem.boot_len (ma_cons (me_var 0) ma_nil)) me_int (nomark _)) (mss_one (ms_ret (me_bin om_add (me_bin om_mod (me_callTy cm_int rfl T.z_int (by decide +kernel) (ma_cons (me_ix (me_var 0) (me_bin om_mod (me_var 1) (me_callB cm_len rfl T.z_len PySem.boot_len (ma_cons (me_var 0) ma_nil)))) ma_nil)) me_int) (me_bin om_mul me_int (me_var 1))))) mss_nil)
  (mss_one (ms_ret (me_var 1)))))
theorem ok_w_drawn (hK : K = G.K) (T : Txt K mg) {f : Addr} {fd : FuncData} (F : Fun K "_law_drawn" "_law_drawn" s_w_drawn f fd) :
    FnOk Pg w K mg base (L2.CX Pg w) 1 f fd ["_law_marks"] (spM G 1 mf_w_drawn) :=
  fn_ok (k := 0) (N := n_w_drawn) (mb := mb_w_drawn) hK F sc_w_drawn fun cdv A outer s H E hr =>
  (mss_cons (ms_set 1 sc_w_drawn.nd me_str)
  (mss_cons (ms_set 2 sc_w_drawn.nd me_str)
  (mss_cons (ms_set 2 sc_w_drawn.nd (me_bin om_add (me_var 2) me_str))
  (mss_cons (ms_set 3 sc_w_drawn.nd (me_bin om_mod (me_callTy cm_int rfl T.z_int (by decide +kernel) (ma_cons (me_ix (me_var 0) me_int) ma_nil)) me_int))
  (mss_cons (ms_set 4 sc_w_drawn.nd (me_m1 PySem.F.slot_str_join PySem.F.type_str_join mt_join3 me_str (me_f (mf_lc (own := [("_law_mark", 6)]) rfl sc_w_drawn.nd (mi_seq (me_sl (me_var 0) (mp_some me_int) (mp_some (me_bin om_add me_int (me_var 3))))) (blkOk_by (N := n_w_drawn) (sc := defScope s_w_drawn) (by decide +kernel)) (fun _ _ _ _ _ => (mg_name 6 sc_w_drawn.nd)) (fun _ _ _ _ _ => mifs_nil) (fun _ _ _ _ _ => (me_ix (me_var 1) (me_bin om_mod (me_callTy cm_int rfl T.z_int (by decide +kernel) (ma_cons (me_var 6) ma_nil)) me_int)))))))
  (mss_cons (ms_if (mt_w (mw_and (mt_cmp om_gt (me_var 3) me_int (nomark _)) (mw_and1 (mt_cmp om_gt (me_bin om_mod (me_callTy cm_int rfl T.z_int (by decide +kernel) (ma_cons (me_ix (me_var 0) me_int) ma_nil)) me_int) me_int (nomark _))))) (mss_cons (ms_set 5 sc_w_drawn.nd (me_bin om_mod (me_bin om_div (me_callTy cm_int rfl T.z_int (by decide +kernel) (ma_cons (me_ix (me_var 0) me_int) ma_nil)) me_int) (me_var 3)))
  (mss_one (ms_set 4 sc_w_drawn.nd (me_bin om_add (me_bin om_add (me_sl (me_var 4) mp_none (mp_some (me_var 5))) (me_ix (me_var 2) (me_bin om_mod (me_callTy cm_int rfl T.z_int (by decide +kernel) (ma_cons (me_ix (me_var 0) me_int) ma_nil)) (me_callB cm_len rfl T.z_len PySem.boot_len (ma_cons (me_var 2) ma_nil))))) (me_sl (me_var 4) (mp_some (me_bin om_add (me_var 5) me_int)) mp_none))))) mss_nil)
  (mss_one (ms_ret (me_var 4)))))))))
theorem ok_is_word (hK : K = G.K) (T : Txt K mg) {f : Addr} {fd : FuncData} (F : Fun K "is_word" "is_word" s_is_word f fd) :
    FnOk Pg w K mg base (L2.CX Pg w) 1 f fd ["text"] (spM G 1 mf_is_word) :=
  fn_ok (k := 0) (N := n_is_word) (mb := mb_is_word) hK F sc_is_word fun cdv A outer s H E hr =>
  (mss_cons (ms_if (mt_not (mt_tru (me_callB cm_isi rfl T.z_isinstance (by decide +kernel) (ma_cons (me_var 0) (ma_cons (me_ty rfl T.z_str (by decide +kernel)) ma_nil))))) (mss_one (ms_ret me_bl)) mss_nil)
  (mss_one (ms_ret (me_and (me_chain om_le om_le me_int (me_callB cm_len rfl T.z_len PySem.boot_len (ma_cons (me_var 0) ma_nil)) me_int) (me_one (me_callB (cm_all rfl) rfl T.z_all (by decide +kernel) (ma_cons (me_f (mf_lc (own := [("sign", 1)]) rfl sc_is_word.nd (mi_seq (me_var 0)) (blkOk_by (N := n_is_word) (sc := defScope s_is_word) (by decide +kernel)) (fun _ _ _ _ _ => (mg_name 1 sc_is_word.nd)) (fun _ _ _ _ _ => mifs_nil) (fun _ _ _ _ _ => (me_cmp (om_in (units65 hr)) (me_var 1) (me_gstr rfl T.g_LETTERS) (by with_unfolding_all rfl))))) ma_nil)))))))
theorem ok_Book_is_name (hK : K = G.K) (T : Txt K mg) (C_is_word : Cal Pg w K mg base G 1 "is_word" 1 mf_is_word) {f : Addr} {fd : FuncData} (F : Fun K "is_name" "Book.is_name" s_Book_is_name f fd) :
    FnOk Pg w K mg base (L2.CX Pg w) 2 f fd ["text"] (spM G 1 mf_Book_is_name) :=
  fn_ok (k := 1) (N := n_Book_is_name) (mb := mb_Book_is_name) hK F sc_Book_is_name fun cdv A outer s H E hr =>
  (mss_one (ms_ret (me_call C_is_word hr (by decide) (takes_of rfl rfl rfl rfl) rfl (ma_cons (me_var 0) ma_nil))))
theorem ok_law (hK : K = G.K) (T : Txt K mg) (C_w_digits : Cal Pg w K mg base G 1 "_law_digits" 3 mf_w_digits) (C_w_cell_at : Cal Pg w K mg base G 1 "_law_cell_at" 2 mf_w_cell_at) (C_w_drawn : Cal Pg w K mg base G 1 "_law_drawn" 1 mf_w_drawn) (C_Book_is_name : CalS Pg w K mg base G 2 "Book" "is_name" 1 mf_Book_is_name) {f : Addr} {fd : FuncData} (F : Fun K "law" "law" s_law f fd) :
    FnOk Pg w K mg base (L2.CX Pg w) 3 f fd ["_law_script"] (spM G 1 mf_law) :=
  fn_ok (k := 2) (N := n_law) (mb := mb_law) hK F sc_law fun cdv A outer s H E hr =>
  (mss_cons (ms_set 1 sc_law.nd me_str)
  (mss_cons (ms_ownLc (i := 2) (own := [("_law_sign", 9)]) rfl sc_law.nd (mi_seq (me_var 1)) (blkOk_by (N := n_law) (sc := defScope s_law) (by decide +kernel)) (fun _ _ _ _ _ => (mg_name 9 sc_law.nd)) (fun _ _ _ _ _ => mifs_nil) (fun _ _ _ _ _ => (me_var 9)) (sw_true rfl rfl rfl (by decide +kernel)))
  (mss_cons (ms_for (passes_of rfl) rfl (mi_range1 rfl T.z_range (ma_cons me_int ma_nil)) (mg_name 3 sc_law.nd) (mss_cons (ms_set 5 sc_law.nd (me_call C_w_digits hr (by decide) (takes_of rfl rfl rfl rfl) rfl (ma_cons (me_call C_w_cell_at hr (by decide) (takes_of rfl rfl rfl rfl) rfl (ma_cons (me_var 0) (ma_cons (me_var 3) ma_nil))) (ma_cons (me_bin om_mul me_int (me_var 3)) (ma_cons me_int ma_nil)))))
  (mss_cons (ms_app 2 (me_call C_w_drawn hr (by decide) (takes_of rfl rfl rfl rfl) rfl (ma_cons (me_var 5) ma_nil)))
  (mss_cons (ms_set 6 sc_law.nd (me_bin om_mod (me_bin om_div (me_callTy cm_int rfl T.z_int (by decide +kernel) (ma_cons (me_ix (me_var 5) me_int) ma_nil)) me_int) me_int))
  (mss_cons (ms_app 2 (me_sl (me_var 1) (mp_some (me_var 6)) (mp_some (me_bin om_add (me_var 6) me_int))))
  (mss_one (ms_app 2 (me_sl (me_var 1) (mp_some (me_var 6)) (mp_some (me_bin om_add (me_var 6) me_int))))))))))
  (mss_cons (ms_frz 2 (ms_for (passes_of rfl) rfl (mi_seq (me_var 2)) (mg_name 4 sc_law.nd) (mss_cons (ms_set 7 sc_law.nd (me_smeth C_Book_is_name hr (by decide) (takes_of rfl rfl rfl rfl) rfl (ma_cons (me_var 4) ma_nil)))
  (mss_cons (ms_set 8 sc_law.nd (me_and (me_chain om_lt om_lt me_int (me_callB cm_len rfl T.z_len PySem.boot_len (ma_cons (me_var 4) ma_nil)) me_int) (me_one (me_callB (cm_all rfl) rfl T.z_all (by decide +kernel) (ma_cons (me_f (mf_lc (own := [("_law_sign", 9)]) rfl sc_law.nd (mi_seq (me_var 4)) (blkOk_by (N := n_law) (sc := defScope s_law) (by decide +kernel)) (fun _ _ _ _ _ => (mg_name 9 sc_law.nd)) (fun _ _ _ _ _ => mifs_nil) (fun _ _ _ _ _ => (me_cmp (om_in (units65 hr)) (me_var 9) (me_var 1) (by with_unfolding_all rfl))))) ma_nil)))))
  (mss_one (ms_if (mt_w (mw_or (mt_not (mt_tru (me_callB cm_isi rfl T.z_isinstance (by decide +kernel) (ma_cons (me_var 7) (ma_cons (me_ty rfl T.z_bool (by decide +kernel)) ma_nil))))) (mw_or1 (mt_cmp (om_ne hr.units) (me_var 7) (me_var 8) (nomark _))))) (mss_one (ms_ret me_bl)) mss_nil))))))
  (mss_one (ms_ret me_bl))))))
end
theorem all_mk {l : PySem.W.OpenLaw} {w : World} {K : PySem.W.Frag} {h : Heap} {mg : Str → Option Value} {fa f0 f1 f2 f3 f4 f5 CL_Book sp4 : Addr} (X : K.In h) (G0 : h.Ns mainGlobals mg) (hfa : mg "law" = some (.ref fa))
    {od0 an0 od1 an1 od2 an2 od3 an3 od4 an4 od5 an5 : Option Addr} {sl0 sl1 sl2 sl3 sl4 sl5 : Array (Option Value)} {oc0 kV0 dc0 pm0 cd0 ct0 oc1 kV1 dc1 pm1 cd1 ct1 oc2 kV2 dc2 pm2 cd2 ct2 oc3 kV3 dc3 pm3 cd3 ct3 oc4 kV4 dc4 pm4 cd4 ct4 oc5 kV5 dc5 pm5 cd5 ct5 : Value} {tk_LETTERS : Tok} {rs4 : List Value}
    (n_Book : PySem.W.nsIn K mainGlobals "Book" = some (some (.ref CL_Book))) (r_Book : PySem.W.readsIn K CL_Book (.type "type") = true) (g_Book : PySem.W.specialIn K (.ref CL_Book) "__getattribute__" = some (some (.builtin "type.__getattribute__")))
    (a0 : PySem.W.nsIn K mainGlobals "_law_digits" = some (some (.ref f0))) (l0 : K.lookup f0 = some ⟨oc0, od0, .func (PySem.W.fnOf "_law_digits" "_law_digits" (defArgs s_w_digits) (defBody s_w_digits) (defScope s_w_digits) .none kV0 dc0 pm0 an0 cd0 ct0), sl0⟩) (c0 : PySem.W.codeIn K cd0 "_law_digits" = true) (k0 : PySem.W.keepIn K (.ref f0) = true)
    (a1 : PySem.W.nsIn K mainGlobals "_law_cell_at" = some (some (.ref f1))) (l1 : K.lookup f1 = some ⟨oc1, od1, .func (PySem.W.fnOf "_law_cell_at" "_law_cell_at" (defArgs s_w_cell_at) (defBody s_w_cell_at) (defScope s_w_cell_at) .none kV1 dc1 pm1 an1 cd1 ct1), sl1⟩) (c1 : PySem.W.codeIn K cd1 "_law_cell_at" = true) (k1 : PySem.W.keepIn K (.ref f1) = true)
    (a2 : PySem.W.nsIn K mainGlobals "_law_drawn" = some (some (.ref f2))) (l2 : K.lookup f2 = some ⟨oc2, od2, .func (PySem.W.fnOf "_law_drawn" "_law_drawn" (defArgs s_w_drawn) (defBody s_w_drawn) (defScope s_w_drawn) .none kV2 dc2 pm2 an2 cd2 ct2), sl2⟩) (c2 : PySem.W.codeIn K cd2 "_law_drawn" = true) (k2 : PySem.W.keepIn K (.ref f2) = true)
    (a3 : PySem.W.nsIn K mainGlobals "is_word" = some (some (.ref f3))) (l3 : K.lookup f3 = some ⟨oc3, od3, .func (PySem.W.fnOf "is_word" "is_word" (defArgs s_is_word) (defBody s_is_word) (defScope s_is_word) .none kV3 dc3 pm3 an3 cd3 ct3), sl3⟩) (c3 : PySem.W.codeIn K cd3 "is_word" = true) (k3 : PySem.W.keepIn K (.ref f3) = true)
    (a4 : PySem.W.findCls K (.ref CL_Book) (.type "type") "is_name" = some (.get (.builtin "staticmethod.__get__") (.ref sp4) .none (.ref CL_Book))) (p4 : PySem.W.recIn K sp4 "staticmethod" = some (.ref f4 :: rs4)) (l4 : K.lookup f4 = some ⟨oc4, od4, .func (PySem.W.fnOf "is_name" "Book.is_name" (defArgs s_Book_is_name) (defBody s_Book_is_name) (defScope s_Book_is_name) .none kV4 dc4 pm4 an4 cd4 ct4), sl4⟩) (c4 : PySem.W.codeIn K cd4 "Book.is_name" = true) (k4 : PySem.W.keepIn K (.ref f4) = true)
    (a5 : PySem.W.nsIn K mainGlobals "law" = some (some (.ref f5))) (l5 : K.lookup f5 = some ⟨oc5, od5, .func (PySem.W.fnOf "law" "law" (defArgs s_law) (defBody s_law) (defScope s_law) .none kV5 dc5 pm5 an5 cd5 ct5), sl5⟩) (c5 : PySem.W.codeIn K cd5 "law" = true) (k5 : PySem.W.keepIn K (.ref f5) = true)
    (z_all : PySem.W.nsIn K mainGlobals "all" = some none)
    (z_bool : PySem.W.nsIn K mainGlobals "bool" = some none)
    (z_int : PySem.W.nsIn K mainGlobals "int" = some none)
    (z_isinstance : PySem.W.nsIn K mainGlobals "isinstance" = some none)
    (z_len : PySem.W.nsIn K mainGlobals "len" = some none)
    (z_range : PySem.W.nsIn K mainGlobals "range" = some none)
    (z_str : PySem.W.nsIn K mainGlobals "str" = some none)
    (v_LETTERS : PySem.W.nsIn K mainGlobals "LETTERS" = some (some (.str "abcdefghijklmnopqrstuvwxyz" tk_LETTERS)))
    : ∃ (G : G3) (fd : FuncData), G.K = K ∧ (∀ (s : Shared) (v : Value), BindsTo s fd ⟨[v], []⟩ [("_law_script", v)]) ∧ ∀ base : Heap, K.In base → base.Ns mainGlobals mg → FnOk l.prog w K mg base (L2.CX l.prog w) 3 fa fd ["_law_script"] (spM G 1 mf_law) := by
  have e := hfa.symm.trans (PySem.W.mg_of X G0 a5)
  cases e
  have T : Txt K mg := ⟨PySem.W.mg_none_of X G0 z_all, PySem.W.mg_none_of X G0 z_bool, PySem.W.mg_none_of X G0 z_int, PySem.W.mg_none_of X G0 z_isinstance, PySem.W.mg_none_of X G0 z_len, PySem.W.mg_none_of X G0 z_range, PySem.W.mg_none_of X G0 z_str, ⟨_, PySem.W.mg_of X G0 v_LETTERS⟩⟩
  refine ⟨⟨K, fun _ => none, fun _ => none⟩, PySem.W.fnOf "law" "law" (defArgs s_law) (defBody s_law) (defScope s_law) .none kV5 dc5 pm5 an5 cd5 ct5, rfl, fun s v => .of_eq rfl, fun base _ _ => ?_⟩
  have F0 := fun_mk (st := s_w_digits) l0 c0 k0
  have C_w_digits : Cal l.prog w K mg base ⟨K, fun _ => none, fun _ => none⟩ 1 "_law_digits" 3 mf_w_digits := ⟨_, _, _, PySem.W.mg_of X G0 a0, k0, F0.binds (ps := ["_law_cell", "_law_salt", "_law_many"]) fun _ _ _ _ _ _ us hl => match us, hl with | [_, _, _], _ => rfl, rfl, ok_w_digits (G := ⟨K, fun _ => none, fun _ => none⟩) rfl T  F0⟩
  have F1 := fun_mk (st := s_w_cell_at) l1 c1 k1
  have C_w_cell_at : Cal l.prog w K mg base ⟨K, fun _ => none, fun _ => none⟩ 1 "_law_cell_at" 2 mf_w_cell_at := ⟨_, _, _, PySem.W.mg_of X G0 a1, k1, F1.binds (ps := ["_law_script", "_law_k"]) fun _ _ _ _ _ _ us hl => match us, hl with | [_, _], _ => rfl, rfl, ok_w_cell_at (G := ⟨K, fun _ => none, fun _ => none⟩) rfl T  F1⟩
  have F2 := fun_mk (st := s_w_drawn) l2 c2 k2
  have C_w_drawn : Cal l.prog w K mg base ⟨K, fun _ => none, fun _ => none⟩ 1 "_law_drawn" 1 mf_w_drawn := ⟨_, _, _, PySem.W.mg_of X G0 a2, k2, F2.binds (ps := ["_law_marks"]) fun _ _ _ _ _ _ us hl => match us, hl with | [_], _ => rfl, rfl, ok_w_drawn (G := ⟨K, fun _ => none, fun _ => none⟩) rfl T  F2⟩
  have F3 := fun_mk (st := s_is_word) l3 c3 k3
  have C_is_word : Cal l.prog w K mg base ⟨K, fun _ => none, fun _ => none⟩ 1 "is_word" 1 mf_is_word := ⟨_, _, _, PySem.W.mg_of X G0 a3, k3, F3.binds (ps := ["text"]) fun _ _ _ _ _ _ us hl => match us, hl with | [_], _ => rfl, rfl, ok_is_word (G := ⟨K, fun _ => none, fun _ => none⟩) rfl T  F3⟩
  have F4 := fun_mk (st := s_Book_is_name) l4 c4 k4
  have C_Book_is_name : CalS l.prog w K mg base ⟨K, fun _ => none, fun _ => none⟩ 2 "Book" "is_name" 1 mf_Book_is_name := ⟨_, _, PySem.W.mg_of X G0 n_Book, ⟨⟨r_Book, g_Book⟩, ⟨_, _, a4, p4⟩, rfl⟩, ⟨_, _, k4, F4.binds (ps := ["text"]) fun _ _ _ _ _ _ us hl => match us, hl with | [_], _ => rfl, rfl, ok_Book_is_name (G := ⟨K, fun _ => none, fun _ => none⟩) rfl T C_is_word F4⟩⟩
  exact ok_law (G := ⟨K, fun _ => none, fun _ => none⟩) rfl T C_w_digits C_w_cell_at C_w_drawn C_Book_is_name (fun_mk (st := s_law) l5 c5 k5)
end My

open PySem PySem.W PyProof.Rows in
set_option maxRecDepth 100000 in
set_option maxHeartbeats 0 in
theorem PySem.Challenge.cw_switchedlayers_k03_names_holds : PySem.Challenge.rw_switchedlayers_k03_names.Holds := by
  w_on; o_law; k_head; (case hw => w_witness2)
  k_fill
  refine M3.walk3 (l := PySem.Challenge.rw_switchedlayers_k03_names) (n := 63) (k := 3) (x := "_law_script") (m := My.mf_law) rfl (by decide) rfl ⟨rfl, by decide, by decide⟩ (fun w h Y => PySem.W.kIn_of Y) ?F My.law_true
  case F =>
    intro w mg fa h KX G hmg
    refine' My.all_mk KX G hmg ?n_Book ?r_Book ?g_Book ?a0 ?l0 ?c0 ?k0 ?a1 ?l1 ?c1 ?k1 ?a2 ?l2 ?c2 ?k2 ?a3 ?l3 ?c3 ?k3 ?a4 ?p4 ?l4 ?c4 ?k4 ?a5 ?l5 ?c5 ?k5 ?z_all ?z_bool ?z_int ?z_isinstance ?z_len ?z_range ?z_str ?v_LETTERS
    (case n_Book => k_is)
    (case r_Book => k_is)
    (case g_Book => k_is)
    (case a0 => k_is)
    (case l0 => k_is)
    (case c0 => k_is)
    (case k0 => k_is)
    (case a1 => k_is)
    (case l1 => k_is)
    (case c1 => k_is)
    (case k1 => k_is)
    (case a2 => k_is)
    (case l2 => k_is)
    (case c2 => k_is)
    (case k2 => k_is)
    (case a3 => k_is)
    (case l3 => k_is)
    (case c3 => k_is)
    (case k3 => k_is)
    (case a4 => k_is)
    (case p4 => k_is)
    (case l4 => k_is)
    (case c4 => k_is)
    (case k4 => k_is)
    (case a5 => k_is)
    (case l5 => k_is)
    (case c5 => k_is)
    (case k5 => k_is)
    (case z_all => k_is)
    (case z_bool => k_is)
    (case z_int => k_is)
    (case z_isinstance => k_is)
    (case z_len => k_is)
    (case z_range => k_is)
    (case z_str => k_is)
    (case v_LETTERS => k_is)
